import PyProof.Rows.All
import Wide.All
import OpenK.AllK
import Wide.FinOn
import HandS.ForExc
import HandS.Comp
import HandS.Style
import HandS.IsInst
import HandS.Wide
import HandS.TupAny
import HandS.TupMul
import HandS.EndBits
import HandS.Dict
import KE.KeyNested
import HandS.Deep
import HandS.Iter
import KE.KTupSum
import KE.GoesMore
import HandS.Text
import HandS.List
import HandS.Conv
import HandS.SortInts
import HandS.TupSets
import OpenK.KWalk
import HandS.TupLen
import HandS.WordsDict
import KE.KDictDisplayH
import HandS.Exc
import HandS.ExcOwn
import HandS.ExcIs
import HandS.DictComp
import HandS.More
import KE.KEqDict
import PyProof.DictFindH
import PyProof.DictMoreH
import KE.KDictWalk
import KE.KDictCopyH
import HandS.Words
import HandS.DictTup
import KE.DataMinMax
import PyProof.SumAny
import PyProof.WalkInts
import HandS.SortKw
import KE.SortData
import KE.KDictSum
import KE.KDictOf
import HandS.ListEq
import PyProof.NeKinds
import KE.KDictPairs
import PyProof.Rows.SortShellAny
import KE.DatumOrd
import HandS.Codes
import PyProof.StrOps2
import PySem.Challenge.RW_meetwall_k67_texts_that_write_no_house
set_option Elab.async false
set_option linter.all false
set_option maxRecDepth 100000
/-! The data layer: what a def computes, as a plain function over trees and a store of mutable cells. -/
namespace L2
namespace DL
open PySem PySem.Spec PyProof.Rows

/-- a value as a tree: tuples and lists that are never changed any more by their items, lists known to stay (fz), mutable things by their place in the store -/
inductive D where
  | non | bl (b : Bool) | int (i : Int) | str (x : Str) | tup (ds : List D) | lst (ds : List D) | fz (ds : List D) | ref (n : Nat) | ty (n : String)
/-- a mutable thing -/
inductive Cell where
  | lst (ds : List D) | dK (kvs : List (Key × D)) | dT (kvs : List (List Key × D)) | ins (c : Str) (fs : List (Str × D)) | exc (c : Str) | fK (kvs : List (Key × D)) | fT (kvs : List (List Key × D))
  | dN (kvs : List (NestedKey × D)) | fN (kvs : List (NestedKey × D)) | tC (ds : List D) | gone
abbrev Sto := List Cell
abbrev Ev := List (Option D)
/-- what a piece of code comes to -/
inductive Out (A : Type) where
  | ok (a : A) (S : Sto) | exc (c : Str) (S : Sto) | bad
def Out.bind {A B : Type} (m : Out A) (k : A → Sto → Out B) : Out B := match m with
  | .ok a S => k a S
  | .exc c S => .exc c S
  | .bad => .bad
theorem Out.bind_ok {A B : Type} (a : A) (S : Sto) (k : A → Sto → Out B) : (Out.ok a S).bind k = k a S := rfl
theorem Out.bind_exc {A B : Type} (c : Str) (S : Sto) (k : A → Sto → Out B) : (Out.exc c S).bind k = Out.exc c S := rfl
theorem Out.bind_bad {A B : Type} (k : A → Sto → Out B) : (Out.bad : Out A).bind k = Out.bad := rfl
def lift {A : Type} (o : Option A) (S : Sto) : Out A := match o with
  | some a => .ok a S
  | none => .bad

/-! ### how a value of the machine is a tree -/
/-- a list of the written part -/
def KL (K : PySem.W.Frag) (a : Addr) (xs : List V) : Prop := ∃ (o : Obj) (its : Array Value) (n : Nat), K.lookup a = some o ∧ o.cls = .type "list" ∧ o.dict = none ∧ o.data = .seq its n ∧ its.size ≤ sizeLine ∧ Vals xs its.toList
/-- a list that nobody changes -/
def FzL (K : PySem.W.Frag) (H : Hp) (a : Addr) (xs : List V) : Prop := (∃ o, H a = some (.frz o (.lst xs))) ∨ KL K a xs
theorem FzL.sq {K : PySem.W.Frag} {H : Hp} {a : Addr} {xs : List V} (h : FzL K H a xs) : SqL K H a xs := h.elim (fun ⟨o, z⟩ => .inl (.inr ⟨o, z⟩)) .inr
mutual
inductive Den (K : PySem.W.Frag) (H : Hp) (r t : List Addr) : V → D → Prop
  | non : Den K H r t .non .non
  | bl (b : Bool) : Den K H r t (.bl b) (.bl b)
  | int (i : Int) : Den K H r t (.int i) (.int i)
  | str (x : Str) : Den K H r t (.str x) (.str x)
  | tup {a : Addr} {xs : List V} {ds : List D} (h : H a = some (.tup xs)) (z : DenL K H r t xs ds) : Den K H r t (.ref a) (.tup ds)
  | lst {a : Addr} {xs : List V} {ds : List D} (h : H a = some (.lst xs)) (n : a ∉ r) (m : a ∉ t) (z : DenL K H r t xs ds) : Den K H r t (.ref a) (.lst ds)
  | fz {a : Addr} {xs : List V} {ds : List D} (h : FzL K H a xs) (z : DenL K H r t xs ds) : Den K H r t (.ref a) (.fz ds)
  | ref {a : Addr} {n : Nat} (h : r[n]? = some a) : Den K H r t (.ref a) (.ref n)
  | ty (n : String) : Den K H r t (.ty n) (.ty n)
inductive DenL (K : PySem.W.Frag) (H : Hp) (r t : List Addr) : List V → List D → Prop
  | nil : DenL K H r t [] []
  | cons {v : V} {vs : List V} {d : D} {ds : List D} : Den K H r t v d → DenL K H r t vs ds → DenL K H r t (v :: vs) (d :: ds)
end
/-- pairs of a key and a value -/
def DenP (K : PySem.W.Frag) (H : Hp) (r t : List Addr) {k : Type} (xs : List (k × V)) (ds : List (k × D)) : Prop := xs.map (·.1) = ds.map (·.1) ∧ DenL K H r t (xs.map (·.2)) (ds.map (·.2))

/-- the heap grows: new cells behind the old ones, what is no cell stays -/
structure Ext (r : List Addr) (H : Hp) (r' : List Addr) (H' : Hp) : Prop where
  pre : ∃ nw, r' = r ++ nw ∧ ∀ p ∈ nw, H p = none
  keep : ∀ b o, H b = some o → b ∉ r → H' b = some o
  tups : ∀ b xs, H b = some (.tup xs) → H' b = some (.tup xs)
  frzs : ∀ b o u, Mut (some u) → H b = some (.frz o u) → H' b = some (.frz o u)
  frzt : ∀ b o xs, H b = some (.frz o (.tup xs)) → H' b = some (.frz o (.tup xs)) ∨ H' b = some (.tup xs)
  owns : ∀ b x, H b = some (.own x) → H' b = some (.own x)
  there : ∀ b, H b ≠ none → H' b ≠ none
section
variable {K : PySem.W.Frag} {H H1 H2 : Hp} {r r1 r2 t : List Addr}
theorem Ext.refl (r : List Addr) (H : Hp) : Ext r H r H := ⟨⟨[], by simp⟩, fun _ _ h _ => h, fun _ _ h => h, fun _ _ _ _ h => h, fun _ _ _ h => .inl h, fun _ _ h => h, fun _ h => h⟩
theorem Ext.notin (a : Ext r H r1 H1) {b : Addr} (h : H b ≠ none) (hb : b ∉ r) : b ∉ r1 := fun hm => by
  obtain ⟨n1, e1, f1⟩ := a.pre
  rw [e1] at hm
  rcases List.mem_append.mp hm with z | z
  · exact hb z
  · exact h (f1 b z)
theorem Ext.trans (a : Ext r H r1 H1) (b : Ext r1 H1 r2 H2) : Ext r H r2 H2 := by
  obtain ⟨n1, e1, f1⟩ := a.pre
  obtain ⟨n2, e2, f2⟩ := b.pre
  refine ⟨⟨n1 ++ n2, by rw [e2, e1, List.append_assoc], fun p hp => ?_⟩, fun c o h hc => b.keep c o (a.keep c o h hc) (a.notin (by rw [h]; exact fun z => nomatch z) hc), fun c xs h => b.tups c xs (a.tups c xs h), fun c o u m h => b.frzs c o u m (a.frzs c o u m h), fun c o xs h => (a.frzt c o xs h).elim (fun h => b.frzt c o xs h) (fun h => .inr (b.tups c xs h)), fun c o h => b.owns c o (a.owns c o h), fun c h => b.there c (a.there c h)⟩
  rcases List.mem_append.mp hp with z | z
  · exact f1 p z
  · have q := f2 p z
    cases e : H p with
    | none => rfl
    | some o => exact absurd q (a.there p (by rw [e]; exact fun z => nomatch z))
theorem Ext.get (a : Ext r H r1 H1) {n : Nat} {b : Addr} (h : r[n]? = some b) : r1[n]? = some b := by
  obtain ⟨n1, e1, _⟩ := a.pre
  rw [e1, List.getElem?_append_left (List.getElem?_eq_some_iff.mp h).1]
  exact h
mutual
theorem Den.ext (a : Ext r H r1 H1) : ∀ (d : D) (v : V), Den K H r t v d → Den K H1 r1 t v d
  | .non, _, h => by cases h; exact .non
  | .bl b, _, h => by cases h; exact .bl b
  | .int i, _, h => by cases h; exact .int i
  | .str x, _, h => by cases h; exact .str x
  | .ty n, _, h => by cases h; exact .ty n
  | .tup ds, _, h => by
    cases h with
    | tup h z => exact .tup (a.tups _ _ h) (DenL.ext a ds _ z)
  | .lst ds, _, h => by
    cases h with
    | lst h n m z => exact .lst (a.keep _ _ h n) (a.notin (by rw [h]; exact fun z => nomatch z) n) m (DenL.ext a ds _ z)
  | .fz ds, _, h => by
    cases h with
    | fz h z => exact .fz (h.imp (fun ⟨o, q⟩ => ⟨o, a.frzs _ _ _ trivial q⟩) id) (DenL.ext a ds _ z)
  | .ref n, _, h => by
    cases h with
    | ref h => exact .ref (a.get h)
theorem DenL.ext (a : Ext r H r1 H1) : ∀ (ds : List D) (vs : List V), DenL K H r t vs ds → DenL K H1 r1 t vs ds
  | [], _, h => by cases h; exact .nil
  | d :: ds, _, h => by
    cases h with
    | cons h1 h2 => exact .cons (Den.ext a d _ h1) (DenL.ext a ds _ h2)
end
theorem DenP.ext (a : Ext r H r1 H1) {k : Type} {xs : List (k × V)} {ds : List (k × D)} (h : DenP K H r t xs ds) : DenP K H1 r1 t xs ds := ⟨h.1, DenL.ext a _ _ h.2⟩
theorem DenL.length : ∀ {vs : List V} {ds : List D}, DenL K H r t vs ds → vs.length = ds.length
  | _, _, .nil => rfl
  | _, _, .cons _ h => by rw [List.length_cons, List.length_cons, DenL.length h]
theorem DenL.get : ∀ {vs : List V} {ds : List D} {i : Nat} {d : D}, DenL K H r t vs ds → ds[i]? = some d → ∃ v, vs[i]? = some v ∧ Den K H r t v d
  | _, _, _, _, .nil, e => by simp at e
  | _, _, 0, _, .cons h _, e => by
    have e' := Option.some.inj e
    subst e'
    exact ⟨_, rfl, h⟩
  | _, _, i + 1, _, .cons _ h, e => DenL.get (i := i) h e
theorem DenL.append : ∀ {vs ws : List V} {ds es : List D}, DenL K H r t vs ds → DenL K H r t ws es → DenL K H r t (vs ++ ws) (ds ++ es)
  | _, _, _, _, .nil, h => h
  | _, _, _, _, .cons a b, h => .cons a (DenL.append b h)
theorem DenL.take : ∀ {vs : List V} {ds : List D} (n : Nat), DenL K H r t vs ds → DenL K H r t (vs.take n) (ds.take n)
  | _, _, 0, _ => .nil
  | _, _, _ + 1, .nil => .nil
  | _, _, n + 1, .cons a b => .cons a (DenL.take n b)
theorem DenL.drop : ∀ {vs : List V} {ds : List D} (n : Nat), DenL K H r t vs ds → DenL K H r t (vs.drop n) (ds.drop n)
  | _, _, 0, h => h
  | _, _, _ + 1, .nil => .nil
  | _, _, n + 1, .cons _ b => DenL.drop n b
theorem DenL.set : ∀ {vs : List V} {ds : List D} (n : Nat) {v : V} {d : D}, DenL K H r t vs ds → Den K H r t v d → DenL K H r t (vs.set n v) (ds.set n d)
  | _, _, _, _, _, .nil, _ => .nil
  | _, _, 0, _, _, .cons _ b, h => .cons h b
  | _, _, n + 1, _, _, .cons a b, h => .cons a (DenL.set n b h)
theorem DenL.reverse : ∀ {vs : List V} {ds : List D}, DenL K H r t vs ds → DenL K H r t vs.reverse ds.reverse
  | _, _, .nil => .nil
  | _, _, .cons a b => by
    rw [List.reverse_cons, List.reverse_cons]
    exact (DenL.reverse b).append (.cons a .nil)
theorem DenL.rep {vs : List V} {ds : List D} (h : DenL K H r t vs ds) : ∀ k : Nat, DenL K H r t (List.replicate k vs).flatten (List.replicate k ds).flatten
  | 0 => .nil
  | k + 1 => by
    rw [List.replicate_succ, List.replicate_succ, List.flatten_cons, List.flatten_cons]
    exact h.append (DenL.rep h k)
/-- ints, bools read off -/
theorem DenL.ints : ∀ {vs : List V} {ns : List Int}, DenL K H r t vs (ns.map D.int) → vs = ns.map V.int
  | _, [], h => by cases h; rfl
  | _, n :: ns, h => by
    cases h with
    | cons a b => cases a; rw [List.map_cons, DenL.ints b]
theorem DenL.bls : ∀ {vs : List V} {ns : List Bool}, DenL K H r t vs (ns.map D.bl) → vs = ns.map V.bl
  | _, [], h => by cases h; rfl
  | _, n :: ns, h => by
    cases h with
    | cons a b => cases a; rw [List.map_cons, DenL.bls b]
/- fewer hidden addresses ask less -/
mutual
theorem Den.less {u : List Addr} (hs : ∀ a ∈ u, a ∈ t) : ∀ (d : D) (v : V), Den K H r t v d → Den K H r u v d
  | .non, _, h => by cases h; exact .non
  | .bl b, _, h => by cases h; exact .bl b
  | .int i, _, h => by cases h; exact .int i
  | .str x, _, h => by cases h; exact .str x
  | .ty n, _, h => by cases h; exact .ty n
  | .tup ds, _, h => by
    cases h with
    | tup h z => exact .tup h (DenL.less hs ds _ z)
  | .lst ds, _, h => by
    cases h with
    | lst h n m z => exact .lst h n (fun q => m (hs _ q)) (DenL.less hs ds _ z)
  | .fz ds, _, h => by
    cases h with
    | fz h z => exact .fz h (DenL.less hs ds _ z)
  | .ref n, _, h => by
    cases h with
    | ref h => exact .ref h
theorem DenL.less {u : List Addr} (hs : ∀ a ∈ u, a ∈ t) : ∀ (ds : List D) (vs : List V), DenL K H r t vs ds → DenL K H r u vs ds
  | [], _, h => by cases h; exact .nil
  | d :: ds, _, h => by
    cases h with
    | cons h1 h2 => exact .cons (Den.less hs d _ h1) (DenL.less hs ds _ h2)
end
/- one more hidden address, new: what was said stands -/
mutual
theorem Den.hide {p : Addr} {o : HO} (hp : H p = none) : ∀ (d : D) (v : V), Den K H r t v d → Den K (upd H p o) r (p :: t) v d
  | .non, _, h => by cases h; exact .non
  | .bl b, _, h => by cases h; exact .bl b
  | .int i, _, h => by cases h; exact .int i
  | .str x, _, h => by cases h; exact .str x
  | .ty n, _, h => by cases h; exact .ty n
  | .tup ds, _, h => by
    cases h with
    | tup h z => exact .tup (by rw [upd_ne (ne_of_none h hp)]; exact h) (DenL.hide hp ds _ z)
  | .lst ds, _, h => by
    cases h with
    | lst h n m z => exact .lst (by rw [upd_ne (ne_of_none h hp)]; exact h) n (fun q => (List.mem_cons.mp q).elim (ne_of_none h hp) m) (DenL.hide hp ds _ z)
  | .fz ds, _, h => by
    cases h with
    | fz h z => exact .fz (h.imp (fun ⟨o, q⟩ => ⟨o, by rw [upd_ne (ne_of_none q hp)]; exact q⟩) id) (DenL.hide hp ds _ z)
  | .ref n, _, h => by
    cases h with
    | ref h => exact .ref h
theorem DenL.hide {p : Addr} {o : HO} (hp : H p = none) : ∀ (ds : List D) (vs : List V), DenL K H r t vs ds → DenL K (upd H p o) r (p :: t) vs ds
  | [], _, h => by cases h; exact .nil
  | d :: ds, _, h => by
    cases h with
    | cons h1 h2 => exact .cons (Den.hide hp d _ h1) (DenL.hide hp ds _ h2)
end
/- a hidden address is written: what was said stands -/
mutual
theorem Den.over {p : Addr} {o : HO} (hp : p ∈ t) (hT : ∀ xs, H p ≠ some (.tup xs)) (hF : ∀ ob u, H p ≠ some (.frz ob u)) : ∀ (d : D) (v : V), Den K H r t v d → Den K (upd H p o) r t v d
  | .non, _, h => by cases h; exact .non
  | .bl b, _, h => by cases h; exact .bl b
  | .int i, _, h => by cases h; exact .int i
  | .str x, _, h => by cases h; exact .str x
  | .ty n, _, h => by cases h; exact .ty n
  | .tup ds, _, h => by
    cases h with
    | tup h z => exact .tup (by rw [upd_ne (fun e => by subst e; exact hT _ h)]; exact h) (DenL.over hp hT hF ds _ z)
  | .lst ds, _, h => by
    cases h with
    | lst h n m z => exact .lst (by rw [upd_ne (fun e => by subst e; exact m hp)]; exact h) n m (DenL.over hp hT hF ds _ z)
  | .fz ds, _, h => by
    cases h with
    | fz h z => exact .fz (h.imp (fun ⟨o, q⟩ => ⟨o, by rw [upd_ne (fun e => by subst e; exact hF _ _ q)]; exact q⟩) id) (DenL.over hp hT hF ds _ z)
  | .ref n, _, h => by
    cases h with
    | ref h => exact .ref h
theorem DenL.over {p : Addr} {o : HO} (hp : p ∈ t) (hT : ∀ xs, H p ≠ some (.tup xs)) (hF : ∀ ob u, H p ≠ some (.frz ob u)) : ∀ (ds : List D) (vs : List V), DenL K H r t vs ds → DenL K (upd H p o) r t vs ds
  | [], _, h => by cases h; exact .nil
  | d :: ds, _, h => by
    cases h with
    | cons h1 h2 => exact .cons (Den.over hp hT hF d _ h1) (DenL.over hp hT hF ds _ h2)
end
end

/-! ### tables whose keys are tuples of whole numbers and such tuples -/
mutual
inductive KeyV (H : Hp) : NestedKey → V → Prop
  | num (i : Int) : KeyV H (.num i) (.int i)
  | tup {a : Addr} {xs : List V} {ks : List NestedKey} (h : H a = some (.tup xs)) (z : KeyVs H ks xs) : KeyV H (.tup ks) (.ref a)
inductive KeyVs (H : Hp) : List NestedKey → List V → Prop
  | nil : KeyVs H [] []
  | cons {k : NestedKey} {v : V} {ks : List NestedKey} {vs : List V} : KeyV H k v → KeyVs H ks vs → KeyVs H (k :: ks) (v :: vs)
end
mutual
theorem KeyV.keep {H H' : Hp} (ht : ∀ b xs, H b = some (.tup xs) → H' b = some (.tup xs)) : ∀ (k : NestedKey) (v : V), KeyV H k v → KeyV H' k v
  | .none, _, h => by cases h
  | .num i, _, h => by cases h; exact .num i
  | .text x, _, h => by cases h
  | .tup ks, _, h => by
    cases h with
    | tup h z => exact .tup (ht _ _ h) (KeyVs.keep ht ks _ z)
theorem KeyVs.keep {H H' : Hp} (ht : ∀ b xs, H b = some (.tup xs) → H' b = some (.tup xs)) : ∀ (ks : List NestedKey) (vs : List V), KeyVs H ks vs → KeyVs H' ks vs
  | [], _, h => by cases h; exact .nil
  | k :: ks, _, h => by
    cases h with
    | cons h1 h2 => exact .cons (KeyV.keep ht k _ h1) (KeyVs.keep ht ks _ h2)
end
/-- the object of such a table, by its entries -/
def nTab (a : Addr) (es : Array DictEntry) : HO := .ext fun h => ∃ (o : Obj) (ep : Nat), h.get? a = some o ∧ o.ExactDict ∧ o.data = .dict es ep
def NPair (H : Hp) (p : NestedKey × V) (q : NestedKey × Addr × Value) : Prop := p.1 = q.1 ∧ KeyV H p.1 (.ref q.2.1) ∧ p.1.depth ≤ 8 ∧ RelV p.2 q.2.2
def NT (H : Hp) (a : Addr) (u : HO) (ps : List (NestedKey × V)) : Prop := ∃ (es : Array DictEntry) (xs : List (NestedKey × Addr × Value)), u = nTab a es ∧ ps.length ≤ sizeLine ∧ (a == sysModules) = false ∧
  (∀ P w, es.toList = xs.map (entryOfKey (nestedKind P w))) ∧ (xs.map (·.1)).Nodup ∧ Paired (NPair H) ps xs
theorem NT.keep {H H' : Hp} (ht : ∀ b xs, H b = some (.tup xs) → H' b = some (.tup xs)) {a : Addr} {u : HO} {ps : List (NestedKey × V)} (n : NT H a u ps) : NT H' a u ps := by
  obtain ⟨es, xs, e, h1, h2, h3, h4, h5⟩ := n
  exact ⟨es, xs, e, h1, h2, h3, h4, Paired.mapP h5 fun p q z => ⟨z.1, KeyV.keep ht _ _ z.2.1, z.2.2.1, z.2.2.2⟩⟩
/-! ### the store -/
/-- an exception of a class, behind its catch -/
def ExcO (a : Addr) (cls : Value) : HO := .ext fun h => ∃ (oe : Obj) (vs : Array Value), h.get? a = some oe ∧ Zc cls none oe ∧ oe.data = .fields vs
section
variable (K : PySem.W.Frag) (mg : Str → Option Value) (H : Hp) (r t : List Addr)
def CellOk (a : Addr) : Cell → Prop
  | .lst ds => ∃ xs, H a = some (.lst xs) ∧ DenL K H r t xs ds
  | .dK kvs => ∃ ps, H a = some (.dK ps) ∧ DenP K H r t ps kvs
  | .dT kvs => ∃ ps, H a = some (.dT ps) ∧ DenP K H r t ps kvs
  | .ins c fs => ∃ C dx ps, H a = some (.ins C dx ps) ∧ H dx = some (.own a) ∧ mg c = some (.ref C) ∧ DenP K H r t ps fs
  | .exc c => ∃ C, mg c = some (.ref C) ∧ H a = some (ExcO a (.ref C))
  | .fK kvs => ∃ o ps, H a = some (.frz o (.dK ps)) ∧ DenP K H r t ps kvs
  | .fT kvs => ∃ o ps, H a = some (.frz o (.dT ps)) ∧ DenP K H r t ps kvs
  | .dN kvs => ∃ u ps, H a = some u ∧ NT H a u ps ∧ DenP K H r t ps kvs
  | .fN kvs => ∃ o u ps, H a = some (.frz o u) ∧ NT H a u ps ∧ DenP K H r t ps kvs
  | .tC ds => ∃ o xs, H a = some (.frz o (.tup xs)) ∧ o.dict = none ∧ DenL K H r t xs ds
  | .gone => ∃ o, H a = some o
structure SOk (S : Sto) : Prop where
  len : r.length = S.length
  nd : r.Nodup
  ok : ∀ (n : Nat) (a : Addr) (c : Cell), r[n]? = some a → S[n]? = some c → CellOk K mg H r t a c
  hid : ∀ a ∈ t, H a ≠ none ∧ a ∉ r
structure Rel (S : Sto) (env : Ev) (σ : St) : Prop where
  so : SOk K mg H r t S
  len : env.length = σ.length
  en : ∀ (i : Nat) (d : D), env[i]? = some (some d) → ∃ v, σ[i]? = some (some v) ∧ Den K H r t v d
end
section
variable {K : PySem.W.Frag} {mg : Str → Option Value} {H H1 : Hp} {r r1 t : List Addr} {S S1 : Sto} {env : Ev} {σ : St}
theorem Rel.ext (R : Rel K mg H r t S env σ) (e : Ext r H r1 H1) (so : SOk K mg H1 r1 t S1) : Rel K mg H1 r1 t S1 env σ :=
  ⟨so, R.len, fun i d h => let ⟨v, h1, h2⟩ := R.en i d h; ⟨v, h1, Den.ext e d v h2⟩⟩
theorem Rel.set (R : Rel K mg H r t S env σ) (i : Nat) {v : V} {d : D} (h : Den K H r t v d) : Rel K mg H r t S (env.set i (some d)) (σ.set i (some v)) := by
  refine ⟨R.so, by rw [List.length_set, List.length_set, R.len], fun j e q => ?_⟩
  by_cases hj : i = j
  · subst hj
    by_cases hl : i < env.length
    · rw [List.getElem?_set_self hl] at q
      have q' := Option.some.inj (Option.some.inj q)
      subst q'
      exact ⟨v, by rw [List.getElem?_set_self (by rw [← R.len]; exact hl)], h⟩
    · rw [List.getElem?_eq_none (by rw [List.length_set]; omega)] at q
      cases q
  · rw [List.getElem?_set_ne hj] at q
    obtain ⟨w, h1, h2⟩ := R.en j e q
    exact ⟨w, by rw [List.getElem?_set_ne hj]; exact h1, h2⟩
theorem Rel.wipe (R : Rel K mg H r t S env σ) (i : Nat) : Rel K mg H r t S (env.set i none) (σ.set i none) := by
  refine ⟨R.so, by rw [List.length_set, List.length_set, R.len], fun j e q => ?_⟩
  by_cases hj : i = j
  · subst hj
    by_cases hl : i < env.length
    · rw [List.getElem?_set_self hl] at q
      cases q
    · rw [List.getElem?_eq_none (by rw [List.length_set]; omega)] at q
      cases q
  · rw [List.getElem?_set_ne hj] at q
    obtain ⟨w, h1, h2⟩ := R.en j e q
    exact ⟨w, by rw [List.getElem?_set_ne hj]; exact h1, h2⟩
/-- a new object that is no cell -/
theorem Ext.new {p : Addr} {o : HO} (hp : H p = none) : Ext r H r (upd H p o) := by
  have ne : ∀ b u, H b = some u → b ≠ p := fun b u h => ne_of_none h hp
  refine ⟨⟨[], by simp⟩, fun b u h _ => ?_, fun b u h => ?_, fun b u w _ h => ?_, fun b u xs h => .inl ?_, fun b u h => ?_, fun b h => ?_⟩
  · rw [upd_ne (ne b _ h)]; exact h
  · rw [upd_ne (ne b _ h)]; exact h
  · rw [upd_ne (ne b _ h)]; exact h
  · rw [upd_ne (ne b _ h)]; exact h
  · rw [upd_ne (ne b _ h)]; exact h
  · by_cases e : b = p
    · subst e; rw [upd_same]; exact fun z => nomatch z
    · rw [upd_ne e]; exact h
theorem CellOk.at (so : SOk K mg H r t S) (e : Ext r H r1 H1) {a : Addr} {c : Cell} (h : CellOk K mg H r t a c) (k : H1 a = H a) : CellOk K mg H1 r1 t a c := by
  cases c with
  | lst ds => obtain ⟨xs, h1, h2⟩ := h; exact ⟨xs, k.trans h1, DenL.ext e _ _ h2⟩
  | dK ds => obtain ⟨xs, h1, h2⟩ := h; exact ⟨xs, k.trans h1, DenP.ext e h2⟩
  | dT ds => obtain ⟨xs, h1, h2⟩ := h; exact ⟨xs, k.trans h1, DenP.ext e h2⟩
  | ins c fs => obtain ⟨C, dx, ps, h1, h2, h3, h4⟩ := h; exact ⟨C, dx, ps, k.trans h1, e.owns _ _ h2, h3, DenP.ext e h4⟩
  | exc c => obtain ⟨C, h1, h2⟩ := h; exact ⟨C, h1, k.trans h2⟩
  | fK ds => obtain ⟨o, xs, h1, h2⟩ := h; exact ⟨o, xs, k.trans h1, DenP.ext e h2⟩
  | fT ds => obtain ⟨o, xs, h1, h2⟩ := h; exact ⟨o, xs, k.trans h1, DenP.ext e h2⟩
  | dN ds => obtain ⟨u, xs, h1, n, h2⟩ := h; exact ⟨u, xs, k.trans h1, n.keep e.tups, DenP.ext e h2⟩
  | fN ds => obtain ⟨o, u, xs, h1, n, h2⟩ := h; exact ⟨o, u, xs, k.trans h1, n.keep e.tups, DenP.ext e h2⟩
  | tC ds => obtain ⟨o, xs, h1, hd, h2⟩ := h; exact ⟨o, xs, k.trans h1, hd, DenL.ext e _ _ h2⟩
  | gone => obtain ⟨o, h1⟩ := h; exact ⟨o, k.trans h1⟩
theorem CellOk.there {a : Addr} {c : Cell} (h : CellOk K mg H r t a c) : ∃ o, H a = some o ∧ True := by
  cases c with
  | lst ds => obtain ⟨xs, h1, h2⟩ := h; exact ⟨_, h1, trivial⟩
  | dK ds => obtain ⟨xs, h1, h2⟩ := h; exact ⟨_, h1, trivial⟩
  | dT ds => obtain ⟨xs, h1, h2⟩ := h; exact ⟨_, h1, trivial⟩
  | ins c fs => obtain ⟨C, dx, ps, h1, h2, h3, h4⟩ := h; exact ⟨_, h1, trivial⟩
  | exc c => obtain ⟨C, h1, h2⟩ := h; exact ⟨_, h2, trivial⟩
  | fK ds => obtain ⟨o, xs, h1, h2⟩ := h; exact ⟨_, h1, trivial⟩
  | fT ds => obtain ⟨o, xs, h1, h2⟩ := h; exact ⟨_, h1, trivial⟩
  | dN ds => obtain ⟨u, xs, h1, n, h2⟩ := h; exact ⟨_, h1, trivial⟩
  | fN ds => obtain ⟨o, u, xs, h1, n, h2⟩ := h; exact ⟨_, h1, trivial⟩
  | tC ds => obtain ⟨o, xs, h1, hd, h2⟩ := h; exact ⟨_, h1, trivial⟩
  | gone => obtain ⟨o, h1⟩ := h; exact ⟨_, h1, trivial⟩
theorem SOk.cell (so : SOk K mg H r t S) {n : Nat} {a : Addr} (h : r[n]? = some a) : ∃ c, S[n]? = some c ∧ CellOk K mg H r t a c := by
  have hn : n < S.length := by rw [← so.len]; exact (List.getElem?_eq_some_iff.mp h).1
  exact ⟨S[n], List.getElem?_eq_getElem hn, so.ok n a _ h (List.getElem?_eq_getElem hn)⟩
theorem SOk.memThere (so : SOk K mg H r t S) {a : Addr} (h : a ∈ r) : ∃ o, H a = some o ∧ True := by
  obtain ⟨n, hn, e⟩ := List.getElem_of_mem h
  obtain ⟨c, _, ok⟩ := so.cell (n := n) (a := a) (by rw [List.getElem?_eq_getElem hn, e])
  exact ok.there
/-- .. the store stands -/
theorem SOk.new {p : Addr} {o : HO} (so : SOk K mg H r t S) (hp : H p = none) : SOk K mg (upd H p o) r t S := by
  refine ⟨so.len, so.nd, fun n a c h1 h2 => ?_, fun a ha => ⟨(Ext.new (r := r) hp).there a (so.hid a ha).1, (so.hid a ha).2⟩⟩
  have ok := so.ok n a c h1 h2
  obtain ⟨u, e, _⟩ := ok.there
  exact ok.at so (Ext.new hp) (upd_ne (ne_of_none e hp))
/-- a new cell -/
theorem Ext.grow {p : Addr} {o : HO} (hp : H p = none) : Ext r H (r ++ [p]) (upd H p o) := by
  have e := Ext.new (r := r) (o := o) hp
  exact ⟨⟨[p], rfl, fun q hq => by have z : q = p := by simpa using hq
                                   subst z; exact hp⟩, e.keep, e.tups, e.frzs, e.frzt, e.owns, e.there⟩
theorem SOk.grow {p : Addr} {o : HO} {c : Cell} (so : SOk K mg H r t S) (hp : H p = none) (hc : CellOk K mg (upd H p o) (r ++ [p]) t p c) : SOk K mg (upd H p o) (r ++ [p]) t (S ++ [c]) := by
  refine ⟨by rw [List.length_append, List.length_append, so.len]; rfl, ?_, fun n a d h1 h2 => ?_, fun a ha => ⟨(Ext.new (r := r) hp).there a (so.hid a ha).1, fun q => ?_⟩⟩
  · rw [List.nodup_append]
    refine ⟨so.nd, by simp, fun a ha b hb => ?_⟩
    have z : b = p := by simpa using hb
    obtain ⟨u, e, _⟩ := so.memThere ha
    rw [z]
    exact ne_of_none e hp
  · by_cases hn : n < r.length
    · rw [List.getElem?_append_left hn] at h1
      rw [List.getElem?_append_left (by rw [← so.len]; exact hn)] at h2
      have ok := so.ok n a d h1 h2
      obtain ⟨u, e, _⟩ := ok.there
      exact ok.at so (Ext.grow hp) (upd_ne (ne_of_none e hp))
    · have e1 := (List.getElem?_eq_some_iff.mp h1).1
      rw [List.length_append] at e1
      have e2 : n = r.length := by
        have : ([p] : List Addr).length = 1 := rfl
        omega
      subst e2
      rw [List.getElem?_append_right (Nat.le_refl _), Nat.sub_self] at h1
      rw [so.len, List.getElem?_append_right (Nat.le_refl _), Nat.sub_self] at h2
      have z1 : p = a := Option.some.inj h1
      have z2 : c = d := Option.some.inj h2
      subst z1 z2
      exact hc
  · rcases List.mem_append.mp q with z | z
    · exact (so.hid a ha).2 z
    · have y : a = p := by simpa using z
      subst y
      exact (so.hid a ha).1 hp
/-- a cell is written -/
theorem Ext.write {p : Addr} {o u : HO} (hu : H p = some u) (mu : Mut (some u)) (hm : p ∈ r) : Ext r H r (upd H p o) := by
  refine ⟨⟨[], by simp⟩, fun b w h hb => ?_, fun b w h => ?_, fun b w w2 _ h => ?_, fun b w w2 h => .inl ?_, fun b w h => ?_, fun b h => ?_⟩
  · rw [upd_ne (fun e => by subst e; exact hb hm)]; exact h
  · rw [upd_ne (fun e => by subst e; rw [hu] at h; cases h; exact mu)]; exact h
  · rw [upd_ne (fun e => by subst e; rw [hu] at h; cases h; exact mu)]; exact h
  · rw [upd_ne (fun e => by subst e; rw [hu] at h; cases h; exact mu)]; exact h
  · rw [upd_ne (fun e => by subst e; rw [hu] at h; cases h; exact mu)]; exact h
  · by_cases e : b = p
    · subst e; rw [upd_same]; exact fun z => nomatch z
    · rw [upd_ne e]; exact h
theorem nodup_get {l : List Addr} (h : l.Nodup) {i j : Nat} {a : Addr} (h1 : l[i]? = some a) (h2 : l[j]? = some a) : i = j := by
  obtain ⟨b1, e1⟩ := List.getElem?_eq_some_iff.mp h1
  obtain ⟨b2, e2⟩ := List.getElem?_eq_some_iff.mp h2
  exact (List.getElem_inj h).mp (e1.trans e2.symm)
theorem SOk.write {n : Nat} {p : Addr} {o : HO} {c : Cell} (so : SOk K mg H r t S) {u : HO} (hn : r[n]? = some p) (hu : H p = some u) (mu : Mut (some u)) (hc : CellOk K mg (upd H p o) r t p c) : SOk K mg (upd H p o) r t (S.set n c) := by
  have hm : p ∈ r := List.mem_of_getElem? hn
  refine ⟨by rw [List.length_set]; exact so.len, so.nd, fun j a d h1 h2 => ?_, fun a ha => ⟨(Ext.write (o := o) hu mu hm).there a (so.hid a ha).1, (so.hid a ha).2⟩⟩
  by_cases hj : n = j
  · subst hj
    rw [hn] at h1
    have z1 : p = a := Option.some.inj h1
    subst z1
    rw [List.getElem?_set_self (by rw [← so.len]; exact (List.getElem?_eq_some_iff.mp hn).1)] at h2
    have z2 : c = d := Option.some.inj h2
    subst z2
    exact hc
  · rw [List.getElem?_set_ne hj] at h2
    exact (so.ok j a d h1 h2).at so (Ext.write hu mu hm) (upd_ne fun e => hj (by subst e; exact nodup_get so.nd hn h1))
end
end DL
end L2

set_option Elab.async false
set_option linter.all false
set_option maxRecDepth 100000
namespace L2
namespace DL
open PySem PySem.Spec PyProof.Rows

abbrev DE := Ev → Sto → Out D
abbrev DB := Ev → Sto → Out Bool
abbrev DA := Ev → Sto → Out (List D)
abbrev Fn := List D → Sto → Out D

/-! ### what is wanted of an outcome -/
section
variable (K : PySem.W.Frag) (mg : Str → Option Value) (t : List Addr) (E : Addr → Hp → Prop)
def Good {A : Type} (r : List Addr) (H : Hp) (m : Out A) (R : A → Sto → List Addr → Hp → Prop) : Prop := match m with
  | .ok a S => ∀ H' r', Ext r H r' H' → SOk K mg H' r' t S → R a S r' H'
  | .exc c S => ∀ C H' r', mg c = some (.ref C) → Ext r H r' H' → SOk K mg H' r' t S → E C H'
  | .bad => False
end
section
variable {K : PySem.W.Frag} {mg : Str → Option Value} {t : List Addr} {E : Addr → Hp → Prop} {r r1 : List Addr} {H H1 : Hp} {A B : Type} {S : Sto}
theorem Good.ext {m : Out A} {R : A → Sto → List Addr → Hp → Prop} (g : Good K mg t E r H m R) (e : Ext r H r1 H1) : Good K mg t E r1 H1 m R := by
  cases m with
  | ok a S => exact fun H' r' e' so => g H' r' (e.trans e') so
  | exc c S => exact fun C H' r' h e' so => g C H' r' h (e.trans e') so
  | bad => exact g
theorem Good.bind {m : Out A} {k : A → Sto → Out B} {R : B → Sto → List Addr → Hp → Prop} (g : Good K mg t E r H (m.bind k) R) : Good K mg t E r H m fun a S r' H' => Good K mg t E r' H' (k a S) R := by
  cases m with
  | ok a S => exact fun H' r' e so => Good.ext (show Good K mg t E r H (k a S) R from g) e
  | exc c S => exact g
  | bad => exact g
theorem Good.mono {m : Out A} {R R' : A → Sto → List Addr → Hp → Prop} (g : Good K mg t E r H m R) (h : ∀ a S r' H', Ext r H r' H' → SOk K mg H' r' t S → R a S r' H' → R' a S r' H') : Good K mg t E r H m R' := by
  cases m with
  | ok a S => exact fun H' r' e so => h a S r' H' e so (g H' r' e so)
  | exc c S => exact g
  | bad => exact g
theorem Good.here {a : A} {R : A → Sto → List Addr → Hp → Prop} (g : Good K mg t E r H (.ok a S) R) (so : SOk K mg H r t S) : R a S r H := g H r (Ext.refl r H) so
theorem Good.lift {o : Option A} {R : A → Sto → List Addr → Hp → Prop} (g : Good K mg t E r H (lift o S) R) : ∃ a, o = some a ∧ Good K mg t E r H (.ok a S) R := by
  cases o with
  | none => exact (show False from g).elim
  | some a => exact ⟨a, rfl, g⟩
end

/-! ### readings -/
abbrev EW (W : WX) (σ : St) : Addr → Hp → Prop := fun C H' => W (.ref C) none σ H'
def tE (X : Cx) (W : WX) (f : DE) : TE := fun σ H Q => ∃ r t S env, Rel X.K X.mg H r t S env σ ∧ Good X.K X.mg t (EW W σ) r H (f env S) fun d _ r' H' => ∀ v, Den X.K H' r' t v d → Q v H'
def tB' (X : Cx) (W : WX) (f : DB) : TT := fun σ H Q => ∃ r t S env, Rel X.K X.mg H r t S env σ ∧ Good X.K X.mg t (EW W σ) r H (f env S) fun d _ r' H' => Q d H'
def tA (X : Cx) (W : WX) (f : DA) : TA := fun σ H Q => ∃ r t S env, Rel X.K X.mg H r t S env σ ∧ Good X.K X.mg t (EW W σ) r H (f env S) fun ds _ r' H' => ∀ vs, DenL X.K H' r' t vs ds → Q vs H'

section
variable {X : Cx} {W : WX} {e a b c : Expr} {es : List Expr} {f fa fb fc : DE} {pos : Pos} {te : TE} {σ : St} {H : Hp}
theorem PE.imp {e : Expr} {u u' : TE} (h : PE X e u) (k : ∀ σ H Q, u' σ H Q → u σ H Q) : PE X e u' := ⟨fun pins s σ H Q I q => h.run pins s σ H Q I (k σ H Q q)⟩
theorem PT.imp {e : Expr} {u u' : TT} (h : PT X e u) (k : ∀ σ H Q, u' σ H Q → u σ H Q) : PT X e u' := ⟨fun pins s σ H Q I q => h.run pins s σ H Q I (k σ H Q q)⟩
theorem PA.imp {e : List Expr} {u u' : TA} (h : PA X e u) (k : ∀ σ H Q, u' σ H Q → u σ H Q) : PA X e u' := ⟨fun pos pins s σ H Q I q => h.run pos pins s σ H Q I (k σ H Q q)⟩

/-- one expression, then what hangs on it -/
theorem tE_one {k : Ev → D → Sto → Out D} {Q : VK} {R : V → Hp → Prop} (h : tE X W (fun env S => (fa env S).bind (k env)) σ H Q)
    (hk : ∀ r t S env x v H', Rel X.K X.mg H' r t S env σ → Den X.K H' r t v x → Good X.K X.mg t (EW W σ) r H' (k env x S) (fun d _ r' H' => ∀ v, Den X.K H' r' t v d → Q v H') → R v H') : tE X W fa σ H R := by
  obtain ⟨r, t, S, env, rel, g⟩ := h
  exact ⟨r, t, S, env, rel, g.bind.mono fun x S1 r1 H1 e so g1 v dv => hk r1 t S1 env x v H1 (rel.ext e so) dv g1⟩
/-- two in a row -/
theorem tE_two {k : Ev → D → D → Sto → Out D} {Q : VK} {R : V → V → Hp → Prop} (h : tE X W (fun env S => (fa env S).bind fun x S1 => (fb env S1).bind fun y S2 => k env x y S2) σ H Q)
    (hk : ∀ r t S env x y v u H', Rel X.K X.mg H' r t S env σ → Den X.K H' r t v x → Den X.K H' r t u y → Good X.K X.mg t (EW W σ) r H' (k env x y S) (fun d _ r' H' => ∀ v, Den X.K H' r' t v d → Q v H') → R v u H') :
    tE X W fa σ H fun v H1 => tE X W fb σ H1 fun u H2 => R v u H2 := by
  obtain ⟨r, t, S, env, rel, g⟩ := h
  refine ⟨r, t, S, env, rel, g.bind.mono fun x S1 r1 H1 e so g1 v dv => ?_⟩
  exact ⟨r1, t, S1, env, rel.ext e so, g1.bind.mono fun y S2 r2 H2 e2 so2 g2 u du => hk r2 t S2 env x y v u H2 ((rel.ext e so).ext e2 so2) (Den.ext e2 x v dv) du g2⟩

/-! ### names, constants -/
def dVar (i : Nat) : DE := fun env S => match env[i]? with
  | some (some d) => .ok d S
  | _ => .bad
def dC (d : D) : DE := fun _ S => .ok d S
theorem de_var (i : Nat) {x : Str} {pos : Pos} (hN : X.N[i]? = some x := by rfl) (hv : Vis X.env.scope x := by first | exact Or.inl rfl | exact Or.inr (Or.inl rfl) | exact Or.inr (Or.inr rfl)) (hd : (x == ("__debug__" : Str)) = false := by decide)
    (hcd : (x == ("__classdict__" : Str)) = false := by decide) : PE X (.Name x pos) (tE X W (dVar i)) := by
  refine PE.imp (pe_var hN hv hd hcd) fun σ H Q h => ?_
  obtain ⟨r, t, S, env, rel, g⟩ := h
  unfold dVar at g
  split at g
  · rename_i d q
    obtain ⟨v, h1, h2⟩ := rel.en i d q
    exact ⟨v, h1, g.here rel.so v h2⟩
  · exact (show False from g).elim
theorem de_const {v : V} {d : D} (h : PE X e (tC v)) (hd : ∀ K H r t, Den K H r t v d) : PE X e (tE X W (dC d)) := by
  refine PE.imp h fun σ H Q q => ?_
  obtain ⟨r, t, S, env, rel, g⟩ := q
  exact g.here rel.so v (hd _ _ _ _)
theorem de_int {i j} : PE X (.Constant (.int i) j pos) (tE X W (dC (.int i))) := de_const pe_int fun _ _ _ _ => .int i
theorem de_bl {b j} : PE X (.Constant (.bool b) j pos) (tE X W (dC (.bl b))) := de_const pe_bl fun _ _ _ _ => .bl b
theorem de_non {j} : PE X (.Constant .none j pos) (tE X W (dC .non)) := de_const pe_non fun _ _ _ _ => .non
theorem de_str {x j} : PE X (.Constant (.str x) j pos) (tE X W (dC (.str x))) := de_const pe_str fun _ _ _ _ => .str x
theorem de_ty {x : Str} {n : String} (hg : Gl X x) (hm : X.mg x = none) (hv : bootBuiltins x = some (.type n)) (hn : x ≠ "__name__" := by decide) (hd : (x == ("__debug__" : Str)) = false := by decide) : PE X (.Name x pos) (tE X W (dC (.ty n))) :=
  de_const (pe_bltn hg hm hv (v := .ty n) rfl hn hd) fun _ _ _ _ => .ty n
/-- a constant of the module -/
theorem de_glob {x : Str} {v : V} {u : Value} {d : D} (hg : Gl X x) (hm : X.mg x = some u) (rv : RelV v u) (hd : ∀ H r t, Den X.K H r t v d) (hb : (x == ("__debug__" : Str)) = false := by decide) : PE X (.Name x pos) (tE X W (dC d)) := by
  refine PE.imp (pe_glob hg hm rv hb) fun σ H Q q => ?_
  obtain ⟨r, t, S, env, rel, g⟩ := q
  exact g.here rel.so v (hd _ _ _)

/-! ### operators -/
structure OpD (X : Cx) (f : Value → Value → Sem Value) (o : Sto → D → D → Option D) : Prop where
  ex : ∃ rr : R2, OpR X f rr ∧ ∀ r t S H x y v u d (Q : VK), SOk X.K X.mg H r t S → Den X.K H r t v x → Den X.K H r t u y → o S x y = some d →
    (∀ w H', Ext r H r H' → SOk X.K X.mg H' r t S → Den X.K H' r t w d → Q w H') → rr v u H Q
def orO (o o' : Sto → D → D → Option D) : Sto → D → D → Option D := fun S x y => match o S x y with
  | some d => some d
  | none => o' S x y
theorem OpD.or {f : Value → Value → Sem Value} {o o' : Sto → D → D → Option D} (h : OpD X f o) (h' : OpD X f o') : OpD X f (orO o o') := by
  obtain ⟨r1, h1, k1⟩ := h
  obtain ⟨r2, h2, k2⟩ := h'
  refine ⟨_, h1.or h2, fun r t S H x y v u d Q so dx dy e q => ?_⟩
  unfold orO at e
  split at e
  · rename_i d' e'
    cases e
    exact .inl (k1 r t S H x y v u _ Q so dx dy e' q)
  · exact .inr (k2 r t S H x y v u d Q so dx dy e q)
def dBin (o : Sto → D → D → Option D) (fa fb : DE) : DE := fun env S => (fa env S).bind fun x S1 => (fb env S1).bind fun y S2 => lift (o S2 x y) S2
theorem tE_op {o : Sto → D → D → Option D} {f : Value → Value → Sem Value} {rr : R2} {Q : VK}
    (k : ∀ r t S H x y v u d (Q : VK), SOk X.K X.mg H r t S → Den X.K H r t v x → Den X.K H r t u y → o S x y = some d → (∀ w H', Ext r H r H' → SOk X.K X.mg H' r t S → Den X.K H' r t w d → Q w H') → rr v u H Q)
    (h : tE X W (dBin o fa fb) σ H Q) : tOp rr (tE X W fa) (tE X W fb) σ H Q :=
  tE_two h fun r t S env x y v u H' rel dx dy g => by
    obtain ⟨d, e, g⟩ := g.lift
    exact k r t S H' x y v u d Q rel.so dx dy e fun w H2 ex so dw => g H2 r ex so w dw
theorem de_bin {op : Operator} {o : Sto → D → D → Option D} (ho : OpD X (binaryOp op) o) (ha : PE X a (tE X W fa)) (hb : PE X b (tE X W fb)) : PE X (.BinOp a op b pos) (tE X W (dBin o fa fb)) := by
  obtain ⟨rr, h, k⟩ := ho
  exact PE.imp (pe_op h ha hb) fun σ H Q q => tE_op (f := binaryOp op) k q
theorem de_cmp {op : CmpOp} {o : Sto → D → D → Option D} (ho : OpD X (compareOp op) o) (ha : PE X a (tE X W fa)) (hb : PE X b (tE X W fb)) (hm : behindInMarks op b = false) : PE X (.Compare a [op] [b] pos) (tE X W (dBin o fa fb)) := by
  obtain ⟨rr, h, k⟩ := ho
  exact PE.imp (pe_cmpR h ha hb hm) fun σ H Q q => tE_op (f := compareOp op) k q
/-- a test by a value that is a truth -/
def asB : D → Option Bool
  | .bl b => some b
  | _ => none
def dTst (f : DE) : DB := fun env S => (f env S).bind fun d S1 => lift (asB d) S1
theorem asB_eq {d : D} {b : Bool} (h : asB d = some b) : d = .bl b := by
  cases d <;> simp [asB] at h
  rw [h]
theorem tB_test {te : TE} (h : ∀ σ H Q, tE X W f σ H Q → te σ H Q) {Q : Bool → Hp → Prop} (q : tB' X W (dTst f) σ H Q) : te σ H fun x H' => ∃ k, x = .bl k ∧ Q k H' := by
  refine h σ H _ ?_
  obtain ⟨r, t, S, env, rel, g⟩ := q
  refine ⟨r, t, S, env, rel, g.bind.mono fun x S1 r1 H1 e so g1 v dv => ?_⟩
  obtain ⟨b, eb, g2⟩ := g1.lift
  have ed := asB_eq eb
  subst ed
  cases dv
  exact ⟨b, rfl, g2.here so⟩
theorem dt_cmp {op : CmpOp} {o : Sto → D → D → Option D} (ho : OpD X (compareOp op) o) (ha : PE X a (tE X W fa)) (hb : PE X b (tE X W fb)) (hm : behindInMarks op b = false) : PT X (.Compare a [op] [b] pos) (tB' X W (dTst (dBin o fa fb))) := by
  obtain ⟨rr, h, k⟩ := ho
  exact PT.imp (pt_cmpR h ha hb hm) fun σ H Q q => tB_test (te := tOp rr (tE X W fa) (tE X W fb)) (fun σ H Q q => tE_op (f := compareOp op) k q) q
theorem dt_val (he : PE X e (tE X W f)) (ht : ∀ whole, isTrue e X.env whole = (do let v ← whole; standAt e.pos; holding [v] (truthy v)) := by intro _; rfl) : PT X e (tB' X W (dTst f)) :=
  PT.imp (pt_val he ht) fun σ H Q q => tB_test (te := tE X W f) (fun _ _ _ z => z) q
/-- a op1 b op2 c -/
def dChain (o o' : Sto → D → D → Option D) (fa fb fc : DE) : DE := fun env S => (fa env S).bind fun x S1 => (fb env S1).bind fun y S2 => (lift (o S2 x y) S2).bind fun z S3 => (lift (asB z) S3).bind fun k S4 =>
  if k = true then (fc env S4).bind fun w S5 => lift (o' S5 y w) S5 else .ok (.bl false) S4
theorem tE_chain {o o' : Sto → D → D → Option D} {f f' : Value → Value → Sem Value} {rr rr' : R2} {Q : VK}
    (k : ∀ r t S H x y v u d (Q : VK), SOk X.K X.mg H r t S → Den X.K H r t v x → Den X.K H r t u y → o S x y = some d → (∀ w H', Ext r H r H' → SOk X.K X.mg H' r t S → Den X.K H' r t w d → Q w H') → rr v u H Q)
    (k' : ∀ r t S H x y v u d (Q : VK), SOk X.K X.mg H r t S → Den X.K H r t v x → Den X.K H r t u y → o' S x y = some d → (∀ w H', Ext r H r H' → SOk X.K X.mg H' r t S → Den X.K H' r t w d → Q w H') → rr' v u H Q)
    (h : tE X W (dChain o o' fa fb fc) σ H Q) : tChain rr rr' (tE X W fa) (tE X W fb) (tE X W fc) σ H Q :=
  tE_two h fun r t S env x y v u H' rel dx dy g => by
    obtain ⟨z, e, g⟩ := g.bind.lift
    refine k r t S H' x y v u z _ rel.so dx dy e fun w H2 ex so dw => ?_
    have g2 := (g H2 r ex so).bind
    obtain ⟨kk, e2, g3⟩ := g2.lift
    have ez := asB_eq e2
    subst ez
    cases dw
    refine ⟨kk, rfl, ?_⟩
    have g4 := g3.here so
    cases kk with
    | false =>
      rw [if_neg Bool.false_ne_true] at g4 ⊢
      exact g4.here so _ (.bl false)
    | true =>
      rw [if_pos rfl] at g4 ⊢
      refine ⟨r, t, S, env, rel.ext ex so, g4.bind.mono fun x2 S5 r5 H5 e5 so5 g5 v5 d5 => ?_⟩
      obtain ⟨d, e6, g6⟩ := g5.lift
      exact k' r5 t S5 H5 y x2 u v5 d Q so5 (Den.ext e5 _ _ (Den.ext ex _ _ dy)) d5 e6 fun w H6 ex6 so6 dw6 => g6 H6 r5 ex6 so6 w dw6
theorem de_chain {op op' : CmpOp} {o o' : Sto → D → D → Option D} (ho : OpD X (compareOp op) o) (ho' : OpD X (compareOp op') o') (ha : PE X a (tE X W fa)) (hb : PE X b (tE X W fb)) (hc : PE X c (tE X W fc))
    (hm : lastMarks [op, op'] [b, c] = false := by with_unfolding_all rfl) : PE X (.Compare a [op, op'] [b, c] pos) (tE X W (dChain o o' fa fb fc)) := by
  obtain ⟨rr, h, k⟩ := ho
  obtain ⟨rr', h', k'⟩ := ho'
  exact PE.imp (pe_chain h h' ha hb hc hm) fun σ H Q q => tE_chain (f := compareOp op) (f' := compareOp op') k k' q
theorem dt_chain {op op' : CmpOp} {o o' : Sto → D → D → Option D} (ho : OpD X (compareOp op) o) (ho' : OpD X (compareOp op') o') (ha : PE X a (tE X W fa)) (hb : PE X b (tE X W fb)) (hc : PE X c (tE X W fc))
    (hm : lastMarks [op, op'] [b, c] = false := by with_unfolding_all rfl) : PT X (.Compare a [op, op'] [b, c] pos) (tB' X W (dTst (dChain o o' fa fb fc))) := by
  obtain ⟨rr, h, k⟩ := ho
  obtain ⟨rr', h', k'⟩ := ho'
  exact PT.imp (pt_chain h h' ha hb hc hm) fun σ H Q q => tB_test (te := tChain rr rr' (tE X W fa) (tE X W fb) (tE X W fc)) (fun σ H Q q => tE_chain (f := compareOp op) (f' := compareOp op') k k' q) q

/-! ### and, or, not, if else -/
def dAnd (fa fb : DE) : DE := fun env S => (fa env S).bind fun x S1 => (lift (asB x) S1).bind fun k S2 => if k = true then fb env S2 else .ok (.bl false) S2
def dOr (fa fb : DE) : DE := fun env S => (fa env S).bind fun x S1 => (lift (asB x) S1).bind fun k S2 => if k = true then .ok (.bl true) S2 else fb env S2
def dNot (fa : DE) : DE := fun env S => (fa env S).bind fun x S1 => (lift (asB x) S1).bind fun k S2 => .ok (.bl (!k)) S2
def bAnd (ta tb : DB) : DB := fun env S => (ta env S).bind fun k S1 => if k = true then tb env S1 else .ok false S1
def bOr (ta tb : DB) : DB := fun env S => (ta env S).bind fun k S1 => if k = true then .ok true S1 else tb env S1
def bNot (ta : DB) : DB := fun env S => (ta env S).bind fun k S1 => .ok (!k) S1
def dIf (tc : DB) (fa fb : DE) : DE := fun env S => (tc env S).bind fun k S1 => if k = true then fa env S1 else fb env S1
variable {rest : List Expr} {ga gb : DB}
theorem de_and (ha : PE X a (tE X W fa)) (hb : PE X (.BoolOp .And (b :: rest) pos) (tE X W fb)) : PE X (.BoolOp .And (a :: b :: rest) pos) (tE X W (dAnd fa fb)) := by
  refine PE.imp (pe_and ha hb) fun σ H Q q => ?_
  obtain ⟨r, t, S, env, rel, g⟩ := q
  refine ⟨r, t, S, env, rel, g.bind.mono fun x S1 r1 H1 e so g1 v dv => ?_⟩
  obtain ⟨k, ek, g2⟩ := g1.bind.lift
  have ed := asB_eq ek
  subst ed
  cases dv
  refine ⟨k, rfl, ?_⟩
  have g3 := g2.here so
  cases k with
  | true => exact iteT ⟨r1, t, S1, env, rel.ext e so, g3⟩
  | false => exact iteF (Good.here g3 so _ (.bl false))
theorem de_or (ha : PE X a (tE X W fa)) (hb : PE X (.BoolOp .Or (b :: rest) pos) (tE X W fb)) : PE X (.BoolOp .Or (a :: b :: rest) pos) (tE X W (dOr fa fb)) := by
  refine PE.imp (pe_or ha hb) fun σ H Q q => ?_
  obtain ⟨r, t, S, env, rel, g⟩ := q
  refine ⟨r, t, S, env, rel, g.bind.mono fun x S1 r1 H1 e so g1 v dv => ?_⟩
  obtain ⟨k, ek, g2⟩ := g1.bind.lift
  have ed := asB_eq ek
  subst ed
  cases dv
  refine ⟨k, rfl, ?_⟩
  have g3 := g2.here so
  cases k with
  | false => exact iteF ⟨r1, t, S1, env, rel.ext e so, g3⟩
  | true => exact iteT (Good.here g3 so _ (.bl true))
theorem de_one {op} (ha : PE X a (tE X W fa)) : PE X (.BoolOp op [a] pos) (tE X W fa) := pe_one ha
theorem de_not (ha : PE X a (tE X W fa)) : PE X (.UnaryOp .Not a pos) (tE X W (dNot fa)) := by
  refine PE.imp (pe_not ha) fun σ H Q q => ?_
  obtain ⟨r, t, S, env, rel, g⟩ := q
  refine ⟨r, t, S, env, rel, g.bind.mono fun x S1 r1 H1 e so g1 v dv => ?_⟩
  obtain ⟨k, ek, g2⟩ := g1.bind.lift
  have ed := asB_eq ek
  subst ed
  cases dv
  exact ⟨k, rfl, Good.here (g2.here so) so _ (.bl (!k))⟩
theorem PW.imp {e : Expr} {u u' : TT} (h : PW X e u) (k : ∀ σ H Q, u' σ H Q → u σ H Q) : PW X e u' := ⟨fun wh pins s σ H Q I q => h.run wh pins s σ H Q I (k σ H Q q)⟩
theorem dw_and1 (ha : PT X a (tB' X W ga)) : PW X (.BoolOp .And [a] pos) (tB' X W ga) := pw_and1 ha
theorem dw_or1 (ha : PT X a (tB' X W ga)) : PW X (.BoolOp .Or [a] pos) (tB' X W ga) := pw_or1 ha
theorem dw_and (ha : PT X a (tB' X W ga)) (hb : PW X (.BoolOp .And (b :: rest) pos) (tB' X W gb)) : PW X (.BoolOp .And (a :: b :: rest) pos) (tB' X W (bAnd ga gb)) := by
  refine PW.imp (pw_and ha hb) fun σ H Q q => ?_
  obtain ⟨r, t, S, env, rel, g⟩ := q
  refine ⟨r, t, S, env, rel, g.bind.mono fun k S1 r1 H1 e so g1 => ?_⟩
  cases k with
  | true => exact iteT ⟨r1, t, S1, env, rel.ext e so, g1⟩
  | false => exact iteF (Good.here g1 so)
theorem dw_or (ha : PT X a (tB' X W ga)) (hb : PW X (.BoolOp .Or (b :: rest) pos) (tB' X W gb)) : PW X (.BoolOp .Or (a :: b :: rest) pos) (tB' X W (bOr ga gb)) := by
  refine PW.imp (pw_or ha hb) fun σ H Q q => ?_
  obtain ⟨r, t, S, env, rel, g⟩ := q
  refine ⟨r, t, S, env, rel, g.bind.mono fun k S1 r1 H1 e so g1 => ?_⟩
  cases k with
  | false => exact iteF ⟨r1, t, S1, env, rel.ext e so, g1⟩
  | true => exact iteT (Good.here g1 so)
theorem dt_not (ha : PT X a (tB' X W ga)) : PT X (.UnaryOp .Not a pos) (tB' X W (bNot ga)) := by
  refine PT.imp (pt_not ha) fun σ H Q q => ?_
  obtain ⟨r, t, S, env, rel, g⟩ := q
  exact ⟨r, t, S, env, rel, g.bind.mono fun k S1 r1 H1 e so g1 => Good.here g1 so⟩
/-! ### argument lists, displays -/
def aNil : DA := fun _ S => .ok [] S
def aCons (f : DE) (g : DA) : DA := fun env S => (f env S).bind fun d S1 => (g env S1).bind fun ds S2 => .ok (d :: ds) S2
variable {fs : DA}
theorem da_nil : PA X [] (tA X W aNil) := by
  refine PA.imp pa_nil fun σ H Q q => ?_
  obtain ⟨r, t, S, env, rel, g⟩ := q
  exact Good.here g rel.so [] .nil
theorem da_cons (ha : PE X e (tE X W f)) (hr : PA X es (tA X W fs)) (hs : starEach (e :: es) X.env = (false, eval e X.env) :: starEach es X.env := by rfl) : PA X (e :: es) (tA X W (aCons f fs)) := by
  refine PA.imp (pa_cons ha hr hs) fun σ H Q q => ?_
  obtain ⟨r, t, S, env, rel, g⟩ := q
  refine ⟨r, t, S, env, rel, g.bind.mono fun d S1 r1 H1 ex so g1 v dv => ?_⟩
  refine ⟨r1, t, S1, env, rel.ext ex so, g1.bind.mono fun ds S2 r2 H2 ex2 so2 g2 vs dvs => ?_⟩
  exact Good.here g2 so2 _ (.cons (Den.ext ex2 _ _ dv) dvs)
def dTup (fs : DA) : DE := fun env S => (fs env S).bind fun ds S1 => if ds.length ≤ sizeLine then .ok (.tup ds) S1 else .bad
def dLst (fs : DA) : DE := fun env S => (fs env S).bind fun ds S1 => if ds.length ≤ sizeLine then .ok (.lst ds) S1 else .bad
/-- a list that will be changed -/
def dCell (fs : DA) : DE := fun env S => (fs env S).bind fun ds S1 => if ds.length ≤ sizeLine then .ok (.ref S1.length) (S1 ++ [.lst ds]) else .bad
theorem Good.ite {A : Type} {K : PySem.W.Frag} {mg : Str → Option Value} {t : List Addr} {E : Addr → Hp → Prop} {r : List Addr} {p : Prop} [Decidable p] {m : Out A} {R : A → Sto → List Addr → Hp → Prop}
    (g : Good K mg t E r H (if p then m else .bad) R) : p ∧ Good K mg t E r H m R := by
  by_cases h : p
  · rw [if_pos h] at g; exact ⟨h, g⟩
  · rw [if_neg h] at g; exact (show False from g).elim
theorem de_tup {x1} (h : PA X es (tA X W fs)) : PE X (.Tuple es x1 pos) (tE X W (dTup fs)) := by
  refine PE.imp (pe_tup h) fun σ H Q q => ?_
  obtain ⟨r, t, S, env, rel, g⟩ := q
  refine ⟨r, t, S, env, rel, g.bind.mono fun ds S1 r1 H1 ex so g1 vs dvs => ?_⟩
  obtain ⟨hl, g2⟩ := g1.ite
  refine ⟨by rw [dvs.length]; exact hl, fun p hp => ?_⟩
  exact g2 _ r1 (Ext.new hp) (so.new hp) _ (.tup upd_same (DenL.ext (Ext.new hp) _ _ dvs))
theorem notinNew {K : PySem.W.Frag} {mg : Str → Option Value} {r t : List Addr} {S : Sto} {p : Addr} (so : SOk K mg H r t S) (hp : H p = none) : p ∉ r ∧ p ∉ t := by
  refine ⟨fun z => ?_, fun z => (so.hid p z).1 hp⟩
  obtain ⟨o, e, _⟩ := so.memThere z
  rw [hp] at e; cases e
theorem de_lst (h : PA X es (tA X W fs)) : PE X (.List es pos) (tE X W (dLst fs)) := by
  refine PE.imp (pe_lst h) fun σ H Q q => ?_
  obtain ⟨r, t, S, env, rel, g⟩ := q
  refine ⟨r, t, S, env, rel, g.bind.mono fun ds S1 r1 H1 ex so g1 vs dvs => ?_⟩
  obtain ⟨hl, g2⟩ := g1.ite
  refine ⟨by rw [dvs.length]; exact hl, fun p hp => ?_⟩
  have nn := notinNew so hp
  exact g2 _ r1 (Ext.new hp) (so.new hp) _ (.lst upd_same nn.1 nn.2 (DenL.ext (Ext.new hp) _ _ dvs))
theorem growL {K : PySem.W.Frag} {mg : Str → Option Value} {r t : List Addr} {S : Sto} {p : Addr} {vs : List V} {ds : List D} (so : SOk K mg H r t S) (hp : H p = none) (h : DenL K H r t vs ds) :
    SOk K mg (upd H p (.lst vs)) (r ++ [p]) t (S ++ [.lst ds]) ∧ Den K (upd H p (.lst vs)) (r ++ [p]) t (.ref p) (.ref S.length) := by
  refine ⟨so.grow hp ⟨vs, upd_same, DenL.ext (Ext.grow hp) _ _ h⟩, .ref ?_⟩
  rw [← so.len, List.getElem?_append_right (Nat.le_refl _), Nat.sub_self]
  rfl
theorem de_cell (h : PA X es (tA X W fs)) : PE X (.List es pos) (tE X W (dCell fs)) := by
  refine PE.imp (pe_lst h) fun σ H Q q => ?_
  obtain ⟨r, t, S, env, rel, g⟩ := q
  refine ⟨r, t, S, env, rel, g.bind.mono fun ds S1 r1 H1 ex so g1 vs dvs => ?_⟩
  obtain ⟨hl, g2⟩ := g1.ite
  refine ⟨by rw [dvs.length]; exact hl, fun p hp => ?_⟩
  obtain ⟨so2, d2⟩ := growL so hp dvs
  exact g2 _ _ (Ext.grow hp) so2 _ d2

/-! ### calls -/
structure CallD (X : Cx) (f : Value) (o : Sto → List D → Option D) : Prop where
  ex : ∃ rr : List V → Hp → VK → Prop, CallR X f rr ∧ ∀ r t S H ds vs d (Q : VK), SOk X.K X.mg H r t S → DenL X.K H r t vs ds → o S ds = some d →
    (∀ w H', Ext r H r H' → SOk X.K X.mg H' r t S → Den X.K H' r t w d → Q w H') → rr vs H Q
def orC (o o' : Sto → List D → Option D) : Sto → List D → Option D := fun S x => match o S x with
  | some d => some d
  | none => o' S x
theorem CallD.or {f : Value} {o o' : Sto → List D → Option D} (h : CallD X f o) (h' : CallD X f o') : CallD X f (orC o o') := by
  obtain ⟨r1, h1, k1⟩ := h
  obtain ⟨r2, h2, k2⟩ := h'
  refine ⟨_, CallR.or h1 h2, fun r t S H ds vs d Q so dv e q => ?_⟩
  unfold orC at e
  split at e
  · rename_i d' e'
    cases e
    exact .inl (k1 r t S H ds vs _ Q so dv e' q)
  · exact .inr (k2 r t S H ds vs d Q so dv e q)
def dCall (o : Sto → List D → Option D) (fs : DA) : DE := fun env S => (fs env S).bind fun ds S1 => lift (o S1 ds) S1
theorem tE_call {o : Sto → List D → Option D} {rr : List V → Hp → VK → Prop} {Q : VK}
    (k : ∀ r t S H ds vs d (Q : VK), SOk X.K X.mg H r t S → DenL X.K H r t vs ds → o S ds = some d → (∀ w H', Ext r H r H' → SOk X.K X.mg H' r t S → Den X.K H' r t w d → Q w H') → rr vs H Q)
    (h : tE X W (dCall o fs) σ H Q) : tCB rr (tA X W fs) σ H Q := by
  obtain ⟨r, t, S, env, rel, g⟩ := h
  refine ⟨r, t, S, env, rel, g.bind.mono fun ds S1 r1 H1 ex so g1 vs dvs => ?_⟩
  obtain ⟨d, e, g2⟩ := g1.lift
  exact k r1 t S1 H1 ds vs d Q so dvs e fun w H2 e2 so2 dw => g2 H2 r1 e2 so2 w dw
theorem de_callB {id : String} {x : Str} {p : Pos} {o : Sto → List D → Option D} (hc : CallD X (.builtin id) o) (hg : Gl X x) (hm : X.mg x = none) (hv : bootBuiltins x = some (.builtin id)) (ha : PA X (e :: es) (tA X W fs)) (hn : x ≠ "__name__" := by decide) (hdb : (x == ("__debug__" : Str)) = false := by decide)
    (he : starEach (e :: es) X.env = (false, eval e X.env) :: starEach es X.env := by rfl) (hpl : (backTo pos (starEach es X.env)).any (·.1) = false := by rfl) : PE X (.Call (.Name x p) (e :: es) [] pos) (tE X W (dCall o fs)) := by
  obtain ⟨rr, h, k⟩ := hc
  exact PE.imp (pe_callB h hg hm hv ha hn hdb he hpl) fun σ H Q q => tE_call k q
theorem de_callTy {T : String} {x : Str} {p : Pos} {o : Sto → List D → Option D} (hc : CallD X (.type T) o) (hg : Gl X x) (hm : X.mg x = none) (hv : bootBuiltins x = some (.type T)) (ha : PA X (e :: es) (tA X W fs)) (hn : x ≠ "__name__" := by decide) (hdb : (x == ("__debug__" : Str)) = false := by decide)
    (he : starEach (e :: es) X.env = (false, eval e X.env) :: starEach es X.env := by rfl) (hpl : (backTo pos (starEach es X.env)).any (·.1) = false := by rfl) : PE X (.Call (.Name x p) (e :: es) [] pos) (tE X W (dCall o fs)) := by
  obtain ⟨rr, h, k⟩ := hc
  exact PE.imp (pe_callTy h hg hm hv ha hn hdb he hpl) fun σ H Q q => tE_call k q
/-- a def's promise by its function -/
def spD (K : PySem.W.Frag) (mg : Str → Option Value) (n : Nat) (f : Fn) : Sp := fun vs H Q E => vs.length = n ∧ ∃ r t S ds, SOk K mg H r t S ∧ DenL K H r t vs ds ∧ Good K mg t (fun C H' => E (.ref C) none H') r H (f ds S) fun d _ r' H' => ∀ v, Den K H' r' t v d → Q v H'
def dCallF (f : Fn) (fs : DA) : DE := fun env S => (fs env S).bind fun ds S1 => f ds S1
def Thru (CX : CXT) (X : Cx) (W : WX) : Prop := ∀ σ, PassesAt CX X σ (WE W σ)
theorem thru0 : Thru CX0 X W := fun _ _ _ _ _ _ _ h => h.elim
theorem thruX (tk : Takes X W) : Thru (L2.CX X.prog X.w) X W := fun σ => passAt tk σ
structure ArgN (X : Cx) (W : WX) (es : List Expr) (fs : DA) (n : Nat) : Prop where
  pa : PA X es (tA X W fs)
  num : ∀ env S ds S', fs env S = .ok ds S' → ds.length = n
theorem an_nil : ArgN X W [] aNil 0 := ⟨da_nil, fun _ _ _ _ h => by cases h; rfl⟩
theorem an_cons {n : Nat} (ha : PE X e (tE X W f)) (hr : ArgN X W es fs n) (hs : starEach (e :: es) X.env = (false, eval e X.env) :: starEach es X.env := by rfl) : ArgN X W (e :: es) (aCons f fs) (n + 1) := by
  refine ⟨da_cons ha hr.pa hs, fun env S ds S' h => ?_⟩
  unfold aCons at h
  cases h1 : f env S with
  | ok d S1 =>
    rw [h1, Out.bind_ok] at h
    cases h2 : fs env S1 with
    | ok d2 S2 =>
      rw [h2, Out.bind_ok] at h
      cases h
      rw [List.length_cons, hr.num _ _ _ _ h2]
    | exc c S2 => rw [h2] at h; cases h
    | bad => rw [h2] at h; cases h
  | exc c S2 => rw [h1] at h; cases h
  | bad => rw [h1] at h; cases h
theorem de_callF {CX : CXT} {k n : Nat} {fa : Addr} {fd : FuncData} {ps : List Str} {fn : Fn} {x : Str} {p : Pos} (F : FnOk X.prog X.w X.K X.mg X.base CX k fa fd ps (spD X.K X.mg n fn)) (hr : Room k X.A) (hg : Gl X x) (hm : X.mg x = some (.ref fa)) (hk : PySem.W.keepIn X.K (.ref fa) = true) (hb : Binds X.K fd ps []) (hx : Thru CX X W)
    (ha : ArgN X W (e :: es) fs n) (hdb : (x == ("__debug__" : Str)) = false := by decide) (he : starEach (e :: es) X.env = (false, eval e X.env) :: starEach es X.env := by rfl) (hpl : (backTo pos (starEach es X.env)).any (·.1) = false := by rfl) :
    PE X (.Call (.Name x p) (e :: es) [] pos) (tE X W (dCallF fn fs)) := by
  refine PE.imp (pe_callS F hr hg hm hk hb hx ha.pa hdb he hpl) fun σ H Q q => ?_
  obtain ⟨r, t, S, env, rel, g⟩ := q
  have num := ha.num env S
  unfold dCallF at g
  cases h : fs env S with
  | ok ds S1 =>
    rw [h, Out.bind_ok] at g
    refine ⟨r, t, S, env, rel, ?_⟩
    rw [h]
    exact fun H1 r1 ex so vs dvs => ⟨dvs.length.trans (num _ _ h), r1, t, S1, ds, so, dvs, g.ext ex⟩
  | exc c S1 =>
    rw [h, Out.bind_exc] at g
    refine ⟨r, t, S, env, rel, ?_⟩
    rw [h]
    exact g
  | bad =>
    rw [h] at g
    exact (show False from g).elim
end
end DL
end L2

set_option Elab.async false
set_option linter.all false
set_option maxRecDepth 100000
namespace L2
namespace DL
open PySem PySem.Spec PyProof.Rows

/-! ### ints, texts -/
def iOp (c : Int → Int → Bool) (g : Int → Int → D) : Sto → D → D → Option D := fun _ x y => match x, y with
  | .int i, .int j => if c i j = true then some (g i j) else none
  | _, _ => none
theorem opd_int {X : Cx} {f : Value → Value → Sem Value} {C : Int → Int → Prop} {c : Int → Int → Bool} {g : Int → Int → V} {gd : Int → Int → D} (h : OpR X f (rI C g)) (hc : ∀ i j, c i j = true → C i j) (hg : ∀ i j K H r t, Den K H r t (g i j) (gd i j)) : OpD X f (iOp c gd) := by
  refine ⟨_, h, fun r t S H x y v u d Q so dx dy e q => ?_⟩
  unfold iOp at e
  split at e
  · rename_i i j
    cases dx
    cases dy
    by_cases hh : c i j = true
    · rw [if_pos hh] at e
      cases e
      exact ⟨i, j, rfl, rfl, hc i j hh, q _ _ (Ext.refl r H) so (hg _ _ _ _ _ _)⟩
    · rw [if_neg hh] at e
      cases e
  · cases e
theorem rI0_of {X : Cx} {f : Value → Value → Sem Value} {g : Int → Int → V} (h : OpR X f (rI0 g)) : OpR X f (rI (fun _ _ => True) g) := by
  intro pins s σ H x y v u Q I rx ry q
  obtain ⟨i, j, e1, e2, _, q⟩ := q
  exact h pins s σ H x y v u Q I rx ry ⟨i, j, e1, e2, q⟩
def yes2 : Int → Int → Bool := fun _ _ => true
theorem opd_int0 {X : Cx} {f : Value → Value → Sem Value} {g : Int → Int → V} {gd : Int → Int → D} (h : OpR X f (rI0 g)) (hg : ∀ i j K H r t, Den K H r t (g i j) (gd i j)) : OpD X f (iOp yes2 gd) := opd_int (rI0_of h) (fun _ _ _ => trivial) hg
section
variable {X : Cx}
def mulC (i j : Int) : Bool := decide (i.natAbs < 2 ^ 64) || decide (j.natAbs < 2 ^ 64)
def modC (_ j : Int) : Bool := decide (0 < j)
def divC (_ j : Int) : Bool := decide (0 < j) && decide (j < 2 ^ 80)
def powC (i j : Int) : Bool := decide (0 ≤ j) && decide (j ≤ 1000000) && decide (i.natAbs < 2 ^ 64)
def oAddI : Sto → D → D → Option D := iOp yes2 fun i j => .int (i + j)
def oSub : Sto → D → D → Option D := iOp yes2 fun i j => .int (i - j)
def oMulI : Sto → D → D → Option D := iOp mulC fun i j => .int (i * j)
def oMod : Sto → D → D → Option D := iOp modC fun i j => .int (i % j)
def oDiv : Sto → D → D → Option D := iOp divC fun i j => .int (i / j)
def oPow : Sto → D → D → Option D := iOp powC fun i j => .int (i ^ j.toNat)
theorem od_addI : OpD X (binaryOp .Add) oAddI := opd_int0 op_add fun _ _ _ _ _ _ => .int _
theorem od_sub : OpD X (binaryOp .Sub) oSub := opd_int0 op_sub fun _ _ _ _ _ _ => .int _
theorem od_mulI : OpD X (binaryOp .Mult) oMulI := opd_int op_mul (fun i j h => by
  unfold mulC at h
  rw [Bool.or_eq_true, decide_eq_true_eq, decide_eq_true_eq] at h
  rcases h with h | h
  · exact .inl ⟨by omega, by omega⟩
  · exact .inr ⟨by omega, by omega⟩) fun _ _ _ _ _ _ => .int _
theorem od_mod : OpD X (binaryOp .Mod) oMod := opd_int op_mod (fun i j h => of_decide_eq_true h) fun _ _ _ _ _ _ => .int _
theorem od_div : OpD X (binaryOp .FloorDiv) oDiv := opd_int op_fdivW (fun i j h => by
  unfold divC at h
  rw [Bool.and_eq_true, decide_eq_true_eq, decide_eq_true_eq] at h
  exact wide_div (b := 80) h.1 (by omega) (by decide) (by decide)) fun _ _ _ _ _ _ => .int _
theorem od_pow : OpD X (binaryOp .Pow) oPow := opd_int op_pow (fun i j h => by
  unfold powC at h
  rw [Bool.and_eq_true, Bool.and_eq_true, decide_eq_true_eq, decide_eq_true_eq, decide_eq_true_eq] at h
  exact ⟨h.1.1, h.1.2, h.2⟩) fun _ _ _ _ _ _ => .int _
def oLt : Sto → D → D → Option D := iOp yes2 fun i j => .bl (decide (i < j))
def oLe : Sto → D → D → Option D := iOp yes2 fun i j => .bl (decide (i ≤ j))
def oGt : Sto → D → D → Option D := iOp yes2 fun i j => .bl (decide (j < i))
def oGe : Sto → D → D → Option D := iOp yes2 fun i j => .bl (decide (j ≤ i))
theorem od_lt : OpD X (compareOp .Lt) oLt := opd_int0 op_lt fun _ _ _ _ _ _ => .bl _
theorem od_le : OpD X (compareOp .LtE) oLe := opd_int0 op_le fun _ _ _ _ _ _ => .bl _
theorem od_gt : OpD X (compareOp .Gt) oGt := opd_int0 op_gt fun _ _ _ _ _ _ => .bl _
theorem od_ge : OpD X (compareOp .GtE) oGe := opd_int0 op_ge fun _ _ _ _ _ _ => .bl _

/-! ### sequences -/
def lstOf (S : Sto) : D → Option (List D)
  | .lst ds => some ds
  | .ref n => match S[n]? with
    | some (.lst ds) => some ds
    | _ => none
  | _ => none
def listOf (S : Sto) : D → Option (List D)
  | .fz ds => some ds
  | d => lstOf S d
def tupOf : D → Option (List D)
  | .tup ds => some ds
  | _ => none
variable {K : PySem.W.Frag} {mg : Str → Option Value} {H : Hp} {r t : List Addr} {S : Sto} {d : D} {v : V} {ds : List D}
theorem lst_ok (so : SOk K mg H r t S) (dv : Den K H r t v d) (h : lstOf S d = some ds) : ∃ a xs, v = .ref a ∧ H a = some (.lst xs) ∧ DenL K H r t xs ds := by
  cases dv with
  | lst h1 n m z => cases h; exact ⟨_, _, rfl, h1, z⟩
  | @ref a n hn =>
    obtain ⟨c, hc, ok⟩ := so.cell hn
    have h' : (match S[n]? with | some (.lst ds) => some ds | _ => none) = some ds := h
    rw [hc] at h'
    cases c with
    | lst es =>
      have e := Option.some.inj h'
      subst e
      obtain ⟨xs, h1, h2⟩ := ok
      exact ⟨a, xs, rfl, h1, h2⟩
    | _ => cases h'
  | _ => cases h
theorem list_ok (so : SOk K mg H r t S) (dv : Den K H r t v d) (h : listOf S d = some ds) : ∃ a xs, v = .ref a ∧ SqL K H a xs ∧ DenL K H r t xs ds := by
  cases dv with
  | fz h1 z => cases h; exact ⟨_, _, rfl, h1.sq, z⟩
  | lst h1 n m z =>
    obtain ⟨a, xs, e, h2, h3⟩ := lst_ok so (.lst h1 n m z) h
    exact ⟨a, xs, e, .inl (.inl h2), h3⟩
  | ref hn =>
    obtain ⟨a, xs, e, h2, h3⟩ := lst_ok so (.ref hn) h
    exact ⟨a, xs, e, .inl (.inl h2), h3⟩
  | _ => cases h
theorem sqT_of {a : Addr} {xs : List V} (h : H a = some (.tup xs)) : SqT K H a xs := .inl (.inl h)
theorem tup_ok (dv : Den K H r t v d) (h : tupOf d = some ds) : ∃ a xs, v = .ref a ∧ H a = some (.tup xs) ∧ DenL K H r t xs ds := by
  cases dv with
  | tup h1 z => cases h; exact ⟨_, _, rfl, h1, z⟩
  | _ => cases h
/-- a new list, a new tuple -/
theorem newL {Q : VK} {p : Addr} {xs : List V} (so : SOk K mg H r t S) (hp : H p = none) (z : DenL K H r t xs ds) (q : ∀ w H', Ext r H r H' → SOk K mg H' r t S → Den K H' r t w (.lst ds) → Q w H') : Q (.ref p) (upd H p (.lst xs)) :=
  q _ _ (Ext.new hp) (so.new hp) (.lst upd_same (notinNew so hp).1 (notinNew so hp).2 (DenL.ext (Ext.new hp) _ _ z))
theorem newT {Q : VK} {p : Addr} {xs : List V} (so : SOk K mg H r t S) (hp : H p = none) (z : DenL K H r t xs ds) (q : ∀ w H', Ext r H r H' → SOk K mg H' r t S → Den K H' r t w (.tup ds) → Q w H') : Q (.ref p) (upd H p (.tup xs)) :=
  q _ _ (Ext.new hp) (so.new hp) (.tup upd_same (DenL.ext (Ext.new hp) _ _ z))
def oAddS : Sto → D → D → Option D := fun _ x y => match x, y with
  | .str a, .str b => if a.length + b.length ≤ sizeLine then some (.str (a ++ b)) else none
  | _, _ => none
theorem od_addS : OpD X (binaryOp .Add) oAddS := by
  refine ⟨_, op_add_str, fun r t S H x y v u d Q so dx dy e q => ?_⟩
  unfold oAddS at e
  split at e
  · cases dx
    cases dy
    split at e
    · cases e
      exact ⟨_, _, rfl, rfl, by assumption, q _ _ (Ext.refl _ _) so (.str _)⟩
    · cases e
  · cases e
def oAddT : Sto → D → D → Option D := fun _ x y => match tupOf x, tupOf y with
  | some a, some b => if a.length + b.length ≤ sizeLine then some (.tup (a ++ b)) else none
  | _, _ => none
theorem od_addT : OpD X (binaryOp .Add) oAddT := by
  refine ⟨_, op_catA, fun r t S H x y v u d Q so dx dy e q => ?_⟩
  unfold oAddT at e
  split at e
  · rename_i a b ea eb
    obtain ⟨p, xs, rfl, h1, z1⟩ := tup_ok dx ea
    obtain ⟨p2, ys, rfl, h2, z2⟩ := tup_ok dy eb
    split at e
    · rename_i hl
      cases e
      refine ⟨p, p2, xs, ys, rfl, rfl, sqT_of h1, sqT_of h2, by rw [z1.length, z2.length]; exact hl, fun e0 => ?_, fun _ e0 => ?_, fun _ _ n hn => newT so hn (z1.append z2) q⟩
      · subst e0
        cases z1
        exact q _ _ (Ext.refl _ _) so (.tup h2 z2)
      · subst e0
        cases z2
        refine q _ _ (Ext.refl _ _) so ?_
        rw [List.append_nil]
        exact .tup h1 z1
    · cases e
  · cases e
def oAddL : Sto → D → D → Option D := fun S x y => match lstOf S x, lstOf S y with
  | some a, some b => if a.length + b.length ≤ sizeLine then some (.lst (a ++ b)) else none
  | _, _ => none
theorem od_addL : OpD X (binaryOp .Add) oAddL := by
  refine ⟨_, op_cat, fun r t S H x y v u d Q so dx dy e q => ?_⟩
  unfold oAddL at e
  split at e
  · rename_i a b ea eb
    obtain ⟨p, xs, rfl, h1, z1⟩ := lst_ok so dx ea
    obtain ⟨p2, ys, rfl, h2, z2⟩ := lst_ok so dy eb
    split at e
    · rename_i hl
      cases e
      exact ⟨p, p2, xs, ys, rfl, rfl, h1, h2, by rw [z1.length, z2.length]; exact hl, fun n hn => newL so hn (z1.append z2) q⟩
    · cases e
  · cases e
def oAdd : Sto → D → D → Option D := orO oAddI (orO oAddL (orO oAddT oAddS))
theorem od_add : OpD X (binaryOp .Add) oAdd := od_addI.or (od_addL.or (od_addT.or od_addS))
def oRepL : Sto → D → D → Option D := fun S x y => match lstOf S x, y with
  | some a, .int k => if -(2 ^ 63) ≤ k ∧ k < 2 ^ 63 ∧ a.length * k.toNat ≤ sizeLine then some (.lst (List.replicate k.toNat a).flatten) else none
  | _, _ => none
theorem od_repL : OpD X (binaryOp .Mult) oRepL := by
  refine ⟨_, op_rep, fun r t S H x y v u d Q so dx dy e q => ?_⟩
  unfold oRepL at e
  split at e
  · rename_i a k ea
    obtain ⟨p, xs, rfl, h1, z1⟩ := lst_ok so dx ea
    cases dy
    split at e
    · rename_i hl
      cases e
      refine ⟨p, k, xs, rfl, rfl, h1, hl.1, hl.2.1, by rw [z1.length]; exact hl.2.2, fun n hn => newL so hn (z1.rep _) q⟩
    · cases e
  · cases e
def oRepT : Sto → D → D → Option D := fun _ x y => match tupOf x, y with
  | some a, .int k => if a ≠ [] ∧ 2 ≤ k ∧ k ≤ 1000 ∧ a.length ≤ 1000 then some (.tup (List.replicate k.toNat a).flatten) else none
  | _, _ => none
theorem od_repT : OpD X (binaryOp .Mult) oRepT := by
  refine ⟨_, op_repT, fun r t S H x y v u d Q so dx dy e q => ?_⟩
  unfold oRepT at e
  split at e
  · rename_i a k ea
    obtain ⟨p, xs, rfl, h1, z1⟩ := tup_ok dx ea
    cases dy
    split at e
    · rename_i hl
      cases e
      refine ⟨p, k, xs, rfl, rfl, sqT_of h1, fun e0 => ?_, hl.2.1, hl.2.2.1, by rw [z1.length]; exact hl.2.2.2, fun n hn => newT so hn (z1.rep _) q⟩
      subst e0
      cases z1
      exact hl.1 rfl
    · cases e
  · cases e
def oMul : Sto → D → D → Option D := orO oMulI (orO oRepL oRepT)
theorem od_mul : OpD X (binaryOp .Mult) oMul := od_mulI.or (od_repL.or od_repT)

/-! ### == -/
def oEqS (neg : Bool) : Sto → D → D → Option D := fun _ x y => match x, y with
  | .int i, .int j => some (.bl (neg ^^ decide (i = j)))
  | .str i, .str j => some (.bl (neg ^^ decide (i = j)))
  | .bl i, .bl j => some (.bl (neg ^^ decide (i = j)))
  | .non, .non => some (.bl (neg ^^ true))
  | .non, .int _ => some (.bl (neg ^^ false))
  | .int _, .non => some (.bl (neg ^^ false))
  | .str _, .int _ => some (.bl (neg ^^ false))
  | .int _, .str _ => some (.bl (neg ^^ false))
  | _, _ => none
mutual
def toPy : D → Option PyData
  | .non => some .none
  | .bl b => some (.bool b)
  | .int i => some (.int i)
  | .str x => some (.str x)
  | .tup ds => match toPyL ds with
    | some ps => some (.tuple ps)
    | none => none
  | .lst ds => match toPyL ds with
    | some ps => some (.list ps)
    | none => none
  | .fz ds => match toPyL ds with
    | some ps => some (.list ps)
    | none => none
  | .ref _ => none
  | .ty _ => none
def toPyL : List D → Option (List PyData)
  | [] => some []
  | d :: ds => match toPy d, toPyL ds with
    | some p, some ps => some (p :: ps)
    | _, _ => none
end
/-- a list's contents in the place of its cell -/
def topD (S : Sto) (d : D) : D := match lstOf S d with
  | some ds => .lst ds
  | none => d
mutual
theorem toPy_ok : ∀ (d : D) (v : V) (p : PyData), Den K H r t v d → toPy d = some p → Dp K H v p
  | .non, _, _, h, e => by cases h; cases e; exact .non
  | .bl b, _, _, h, e => by cases h; cases e; exact .bl b
  | .int i, _, _, h, e => by cases h; cases e; exact .int i
  | .str x, _, _, h, e => by cases h; cases e; exact .str x
  | .tup ds, _, _, h, e => by
    unfold toPy at e
    cases h with
    | tup h1 z =>
      split at e
      · rename_i ps eps
        cases e
        exact .tup (sqT_of h1) (toPyL_ok ds _ ps z eps)
      · cases e
  | .lst ds, _, _, h, e => by
    unfold toPy at e
    cases h with
    | lst h1 n m z =>
      split at e
      · rename_i ps eps
        cases e
        exact .lst (.inl (.inl h1)) (toPyL_ok ds _ ps z eps)
      · cases e
  | .fz ds, _, _, h, e => by
    unfold toPy at e
    cases h with
    | fz h1 z =>
      split at e
      · rename_i ps eps
        cases e
        exact .lst h1.sq (toPyL_ok ds _ ps z eps)
      · cases e
  | .ref _, _, _, _, e => by cases e
  | .ty _, _, _, _, e => by cases e
theorem toPyL_ok : ∀ (ds : List D) (vs : List V) (ps : List PyData), DenL K H r t vs ds → toPyL ds = some ps → DpAll K H vs ps
  | [], _, _, h, e => by cases h; cases e; exact .nil
  | d :: ds, _, _, h, e => by
    unfold toPyL at e
    cases h with
    | cons h1 h2 =>
      split at e
      · rename_i p ps e1 e2
        cases e
        exact .cons (toPy_ok d _ p h1 e1) (toPyL_ok ds _ ps h2 e2)
      · cases e
end
theorem topPy_ok {p : PyData} (so : SOk K mg H r t S) (dv : Den K H r t v d) (h : toPy (topD S d) = some p) : Dp K H v p := by
  unfold topD at h
  split at h
  · rename_i ds e
    obtain ⟨a, xs, rfl, h1, z⟩ := lst_ok so dv e
    unfold toPy at h
    split at h
    · rename_i ps eps
      cases h
      exact .lst (.inl (.inl h1)) (toPyL_ok ds _ ps z eps)
    · cases h
  · exact toPy_ok d v p dv h
def oEqD (neg : Bool) : Sto → D → D → Option D := fun S x y => match toPy (topD S x), toPy (topD S y) with
  | some p, some q => if (SeqAt.shaped p && SeqAt.shaped q) = true then some (.bl (neg ^^ PyData.eqv p q)) else none
  | _, _ => none
theorem eqS_ok {x y : D} {v u : V} {neg : Bool} (dx : Den K H r t v x) (dy : Den K H r t u y) (h : oEqS neg S x y = some d) : scal v u = true ∧ d = .bl (neg ^^ decide (v = u)) := by
  unfold oEqS at h
  split at h
  · cases dx; cases dy; cases h; exact ⟨rfl, by simp [V.int.injEq]⟩
  · cases dx; cases dy; cases h; exact ⟨rfl, by simp [V.str.injEq]⟩
  · cases dx; cases dy; cases h; exact ⟨rfl, by simp [V.bl.injEq]⟩
  · cases dx; cases dy; cases h; exact ⟨rfl, by simp⟩
  · cases dx; cases dy; cases h; exact ⟨rfl, by simp⟩
  · cases dx; cases dy; cases h; exact ⟨rfl, by simp⟩
  · cases dx; cases dy; cases h; exact ⟨rfl, by simp⟩
  · cases dx; cases dy; cases h; exact ⟨rfl, by simp⟩
  · cases h
theorem od_eqS : OpD X (compareOp .Eq) (oEqS false) := by
  refine ⟨_, op_eq, fun r t S H x y v u d Q so dx dy e q => ?_⟩
  obtain ⟨h1, h2⟩ := eqS_ok dx dy e
  subst h2
  exact ⟨h1, q _ _ (Ext.refl _ _) so (by rw [Bool.false_xor]; exact .bl _)⟩
theorem od_neS : OpD X (compareOp .NotEq) (oEqS true) := by
  refine ⟨_, op_ne, fun r t S H x y v u d Q so dx dy e q => ?_⟩
  obtain ⟨h1, h2⟩ := eqS_ok dx dy e
  subst h2
  exact ⟨h1, q _ _ (Ext.refl _ _) so (by rw [Bool.true_xor]; exact .bl _)⟩
theorem od_eqD (hu : X.A.units + 64 < cLine) : OpD X (compareOp .Eq) (oEqD false) := by
  refine ⟨_, op_eqD hu, fun r t S H x y v u d Q so dx dy e q => ?_⟩
  unfold oEqD at e
  split at e
  · rename_i p p2 e1 e2
    split at e
    · rename_i hs
      cases e
      rw [Bool.and_eq_true] at hs
      exact ⟨p, p2, topPy_ok so dx e1, topPy_ok so dy e2, hs.1, hs.2, q _ _ (Ext.refl _ _) so (by rw [Bool.false_xor]; exact .bl _)⟩
    · cases e
  · cases e
theorem od_neD (hu : X.A.units + 64 < cLine) : OpD X (compareOp .NotEq) (oEqD true) := by
  refine ⟨_, op_neD hu, fun r t S H x y v u d Q so dx dy e q => ?_⟩
  unfold oEqD at e
  split at e
  · rename_i p p2 e1 e2
    split at e
    · rename_i hs
      cases e
      rw [Bool.and_eq_true] at hs
      exact ⟨p, p2, topPy_ok so dx e1, topPy_ok so dy e2, hs.1, hs.2, q _ _ (Ext.refl _ _) so (by rw [Bool.true_xor]; exact .bl _)⟩
    · cases e
  · cases e
def oEq : Sto → D → D → Option D := orO (oEqS false) (oEqD false)
def oNe : Sto → D → D → Option D := orO (oEqS true) (oEqD true)
theorem od_eq (hu : X.A.units + 64 < cLine) : OpD X (compareOp .Eq) oEq := od_eqS.or (od_eqD hu)
theorem od_ne (hu : X.A.units + 64 < cLine) : OpD X (compareOp .NotEq) oNe := od_neS.or (od_neD hu)

/-! ### is -/
def isNonD : D → Bool
  | .non => true
  | _ => false
def oIsN (neg : Bool) : Sto → D → D → Option D := fun _ x y => match y with
  | .non => some (.bl (neg ^^ isNonD x))
  | _ => none
def oIsB (neg : Bool) : Sto → D → D → Option D := fun _ x y => match x, y with
  | .bl a, .bl b => some (.bl (neg ^^ decide (a = b)))
  | _, _ => none
theorem isNon_ok (dv : Den K H r t v d) : isNonD d = decide (v = .non) := by
  cases dv <;> simp [isNonD]
theorem od_isN : OpD X (compareOp .Is) (oIsN false) := by
  refine ⟨_, op_isN, fun r t S H x y v u d Q so dx dy e q => ?_⟩
  unfold oIsN at e
  split at e
  · cases dy
    cases e
    exact ⟨rfl, q _ _ (Ext.refl _ _) so (by rw [Bool.false_xor, isNon_ok dx]; exact .bl _)⟩
  · cases e
theorem od_isB : OpD X (compareOp .Is) (oIsB false) := by
  refine ⟨_, op_isBl, fun r t S H x y v u d Q so dx dy e q => ?_⟩
  unfold oIsB at e
  split at e
  · cases dx
    cases dy
    cases e
    exact ⟨_, _, rfl, rfl, q _ _ (Ext.refl _ _) so (by rw [Bool.false_xor]; exact .bl _)⟩
  · cases e
def oIs : Sto → D → D → Option D := orO (oIsB false) (oIsN false)
def oIsNot : Sto → D → D → Option D := orO (oIsB true) (oIsN true)
theorem od_is : OpD X (compareOp .Is) oIs := od_isB.or od_isN
/-! ### in -/
def oInD (neg : Bool) : Sto → D → D → Option D := fun S x y => match toPy x, toPy (topD S y) with
  | some p, some (.list qs) => if (SeqAt.shaped p && SeqAt.shaped (.list qs)) = true then some (.bl (neg ^^ qs.any fun z => PyData.eqv z p)) else none
  | _, _ => none
theorem od_inD (hu : X.A.units + 65 < cLine) : OpD X (compareOp .In) (oInD false) := by
  refine ⟨_, op_inD hu, fun r t S H x y v u d Q so dx dy e q => ?_⟩
  unfold oInD at e
  split at e
  · rename_i p qs e1 e2
    split at e
    · rename_i hs
      cases e
      rw [Bool.and_eq_true] at hs
      exact ⟨p, qs, toPy_ok _ _ _ dx e1, topPy_ok so dy e2, hs.1, hs.2, q _ _ (Ext.refl _ _) so (by rw [Bool.false_xor]; exact .bl _)⟩
    · cases e
  · cases e
theorem od_notInD (hu : X.A.units + 65 < cLine) : OpD X (compareOp .NotIn) (oInD true) := by
  refine ⟨_, op_notInD hu, fun r t S H x y v u d Q so dx dy e q => ?_⟩
  unfold oInD at e
  split at e
  · rename_i p qs e1 e2
    split at e
    · rename_i hs
      cases e
      rw [Bool.and_eq_true] at hs
      exact ⟨p, qs, toPy_ok _ _ _ dx e1, topPy_ok so dy e2, hs.1, hs.2, q _ _ (Ext.refl _ _) so (by rw [Bool.true_xor]; exact .bl _)⟩
    · cases e
  · cases e

/-! ### - -/
structure UnD (X : Cx) (f : Value → Sem Value) (o : D → Option D) : Prop where
  ex : ∃ rr : V → Hp → VK → Prop, UnR X f rr ∧ ∀ r t S H x v d (Q : VK), SOk X.K X.mg H r t S → Den X.K H r t v x → o x = some d → (∀ w H', Ext r H r H' → SOk X.K X.mg H' r t S → Den X.K H' r t w d → Q w H') → rr v H Q
def oNeg : D → Option D
  | .int i => some (.int (-i))
  | _ => none
theorem ud_neg : UnD X (unaryOp .USub) oNeg := by
  refine ⟨_, un_neg, fun r t S H x v d Q so dx e q => ?_⟩
  cases dx with
  | int i => cases e; exact ⟨i, rfl, q _ _ (Ext.refl _ _) so (.int _)⟩
  | _ => cases e
variable {W : WX} {e a b : Expr} {es : List Expr} {f fa fb : DE} {pos : Pos} {σ : St}
def dUn (o : D → Option D) (fa : DE) : DE := fun env S => (fa env S).bind fun x S1 => lift (o x) S1
theorem de_un {op : UnaryOp} {o : D → Option D} (ho : UnD X (unaryOp op) o) (ha : PE X a (tE X W fa)) : PE X (.UnaryOp op a pos) (tE X W (dUn o fa)) := by
  obtain ⟨rr, h, k⟩ := ho
  refine PE.imp (pe_un h ha) fun σ H Q q => ?_
  exact tE_one q fun r t S env x v H' rel dx g => by
    obtain ⟨d, e, g⟩ := g.lift
    exact k r t S H' x v d Q rel.so dx e fun w H2 ex so dw => g H2 r ex so w dw

/-! ### x[i], x[i:j] -/
structure IxD (X : Cx) (o : Sto → D → D → Option D) : Prop where
  ex : ∃ rr : R2, IxR X rr ∧ ∀ r t S H x y v u d (Q : VK), SOk X.K X.mg H r t S → Den X.K H r t v x → Den X.K H r t u y → o S x y = some d →
    (∀ w H', Ext r H r H' → SOk X.K X.mg H' r t S → Den X.K H' r t w d → Q w H') → rr v u H Q
theorem IxD.or {o o' : Sto → D → D → Option D} (h : IxD X o) (h' : IxD X o') : IxD X (orO o o') := by
  obtain ⟨r1, h1, k1⟩ := h
  obtain ⟨r2, h2, k2⟩ := h'
  refine ⟨_, h1.or h2, fun r t S H x y v u d Q so dx dy e q => ?_⟩
  unfold orO at e
  split at e
  · rename_i d' e'
    cases e
    exact .inl (k1 r t S H x y v u _ Q so dx dy e' q)
  · exact .inr (k2 r t S H x y v u d Q so dx dy e q)
theorem de_ix {o : Sto → D → D → Option D} (ho : IxD X o) (ha : PE X a (tE X W fa)) (hb : PE X b (tE X W fb)) (hs : PlainIx b) : PE X (.Subscript a b pos) (tE X W (dBin o fa fb)) := by
  obtain ⟨rr, h, k⟩ := ho
  exact PE.imp (pe_ix h ha hb hs) fun σ H Q q => tE_op (f := binaryOp .Add) k q
theorem atI_den {xs : List V} {i : Int} (z : DenL K H r t xs ds) (h : atI ds i = some d) : ∃ v, atI xs i = some v ∧ Den K H r t v d := by
  unfold atI at h ⊢
  cases e : ixN ds.length i with
  | none => rw [e] at h; cases h
  | some j =>
    rw [e] at h
    rw [z.length, e]
    exact z.get h
def oIxL : Sto → D → D → Option D := fun S x y => match listOf S x, y with
  | some ds, .int i => atI ds i
  | _, _ => none
theorem xd_list : IxD X oIxL := by
  refine ⟨_, ix_list, fun r t S H x y v u d Q so dx dy e q => ?_⟩
  unfold oIxL at e
  split at e
  · rename_i ds i e1
    obtain ⟨a, xs, rfl, h1, z⟩ := list_ok so dx e1
    cases dy
    obtain ⟨w, h2, dw⟩ := atI_den z e
    exact ⟨a, xs, i, w, rfl, rfl, h1, h2, q _ _ (Ext.refl _ _) so dw⟩
  · cases e
def oIxT : Sto → D → D → Option D := fun _ x y => match tupOf x, y with
  | some ds, .int i => atI ds i
  | _, _ => none
theorem xd_tup : IxD X oIxT := by
  refine ⟨_, ix_tup, fun r t S H x y v u d Q so dx dy e q => ?_⟩
  unfold oIxT at e
  split at e
  · rename_i ds i e1
    obtain ⟨a, xs, rfl, h1, z⟩ := tup_ok dx e1
    cases dy
    obtain ⟨w, h2, dw⟩ := atI_den z e
    exact ⟨a, xs, i, w, rfl, rfl, sqT_of h1, h2, q _ _ (Ext.refl _ _) so dw⟩
  · cases e
def oIxS : Sto → D → D → Option D := fun _ x y => match x, y with
  | .str z, .int i => if z.length ≤ sizeLine then (atI z.cps.toList i).map fun c => .str ⟨#[c]⟩ else none
  | _, _ => none
theorem xd_str : IxD X oIxS := by
  refine ⟨_, ix_str, fun r t S H x y v u d Q so dx dy e q => ?_⟩
  unfold oIxS at e
  split at e
  · cases dx
    cases dy
    split at e
    · rename_i z i hl
      obtain ⟨c, h1, h2⟩ := Option.map_eq_some_iff.mp e
      subst h2
      exact ⟨z, i, c, rfl, rfl, hl, h1, q _ _ (Ext.refl _ _) so (.str _)⟩
    · cases e
  · cases e
def oIx : Sto → D → D → Option D := orO oIxL (orO oIxT oIxS)
theorem xd_ix : IxD X oIx := xd_list.or (xd_tup.or xd_str)
/-- a slice's ends -/
abbrev DO := Ev → Sto → Out (Option Int)
def oNo : DO := fun _ S => .ok none S
def asI : D → Option Int
  | .int i => some i
  | _ => none
def oSo (f : DE) : DO := fun env S => (f env S).bind fun d S1 => (lift (asI d) S1).bind fun i S2 => .ok (some i) S2
def tO (X : Cx) (W : WX) (f : DO) : TO := fun σ H Q => ∃ r t S env, Rel X.K X.mg H r t S env σ ∧ Good X.K X.mg t (EW W σ) r H (f env S) fun i _ _ H' => Q i H'
theorem do_no : PO X none (tO X W oNo) := ⟨fun pins s σ H Q I h => (po_none (X := X)).run pins s σ H Q I (by
  obtain ⟨r, t, S, env, rel, g⟩ := h
  exact g.here rel.so)⟩
theorem do_so (he : PE X e (tE X W f)) : PO X (some e) (tO X W (oSo f)) := ⟨fun pins s σ H Q I h => (po_some he).run pins s σ H Q I (by
  obtain ⟨r, t, S, env, rel, g⟩ := h
  refine ⟨r, t, S, env, rel, g.bind.mono fun x S1 r1 H1 ex so g1 v dv => ?_⟩
  obtain ⟨i, ei, g2⟩ := g1.bind.lift
  have g3 := (g2.here so).here so
  cases dv with
  | int j => cases ei; exact ⟨i, rfl, g3⟩
  | _ => cases ei)⟩
structure SlD (X : Cx) (o : Sto → D → Option Int → Option Int → Option D) : Prop where
  ex : ∃ rr : V → Option Int → Option Int → Hp → VK → Prop, SlR X rr ∧ ∀ r t S H x v l u d (Q : VK), SOk X.K X.mg H r t S → Den X.K H r t v x → o S x l u = some d →
    (∀ w H', Ext r H r H' → SOk X.K X.mg H' r t S → Den X.K H' r t w d → Q w H') → rr v l u H Q
def orS (o o' : Sto → D → Option Int → Option Int → Option D) : Sto → D → Option Int → Option Int → Option D := fun S x l u => match o S x l u with
  | some d => some d
  | none => o' S x l u
theorem SlD.or {o o' : Sto → D → Option Int → Option Int → Option D} (h : SlD X o) (h' : SlD X o') : SlD X (orS o o') := by
  obtain ⟨r1, h1, k1⟩ := h
  obtain ⟨r2, h2, k2⟩ := h'
  refine ⟨_, h1.or h2, fun r t S H x v l u d Q so dx e q => ?_⟩
  unfold orS at e
  split at e
  · rename_i d' e'
    cases e
    exact .inl (k1 r t S H x v l u _ Q so dx e' q)
  · exact .inr (k2 r t S H x v l u d Q so dx e q)
def cutD (xs : List D) (lo hi : Option Int) : List D := (xs.drop (HT.sIx xs.length 0 lo)).take (HT.sIx xs.length xs.length hi - HT.sIx xs.length 0 lo)
theorem cut_den {xs : List V} (z : DenL K H r t xs ds) (lo hi : Option Int) : DenL K H r t (cutV xs lo hi) (cutD ds lo hi) := by
  unfold cutV cutD
  rw [z.length]
  exact (z.drop _).take _
def oSlL : Sto → D → Option Int → Option Int → Option D := fun S x l u => match listOf S x with
  | some ds => some (.lst (cutD ds l u))
  | none => none
theorem sd_list : SlD X oSlL := by
  refine ⟨_, sl_list, fun r t S H x v l u d Q so dx e q => ?_⟩
  unfold oSlL at e
  split at e
  · rename_i ds e1
    cases e
    obtain ⟨a, xs, rfl, h1, z⟩ := list_ok so dx e1
    exact ⟨a, xs, rfl, h1, fun p hp => newL so hp (cut_den z l u) q⟩
  · cases e
def oSlT : Sto → D → Option Int → Option Int → Option D := fun _ x l u => match tupOf x with
  | some ds => some (.tup (cutD ds l u))
  | none => none
theorem cut_all {xs : List D} {lo hi : Option Int} (h : HT.sIx xs.length 0 lo = 0 ∧ HT.sIx xs.length xs.length hi = xs.length) : cutD xs lo hi = xs := by
  unfold cutD
  rw [h.1, h.2, List.drop_zero, Nat.sub_zero, List.take_length]
theorem sd_tup : SlD X oSlT := by
  refine ⟨_, sl_tupA, fun r t S H x v l u d Q so dx e q => ?_⟩
  unfold oSlT at e
  split at e
  · rename_i ds e1
    cases e
    obtain ⟨a, xs, rfl, h1, z⟩ := tup_ok dx e1
    refine ⟨a, xs, rfl, sqT_of h1, fun hw => ?_, fun _ p hp => newT so hp (cut_den z l u) q⟩
    rw [z.length] at hw
    refine q _ _ (Ext.refl _ _) so ?_
    rw [cut_all hw]
    exact .tup h1 z
  · cases e
def oSl : Sto → D → Option Int → Option Int → Option D := orS oSlL oSlT
theorem sd_sl : SlD X oSl := sd_list.or sd_tup
def dSl (o : Sto → D → Option Int → Option Int → Option D) (fe : DE) (fl fu : DO) : DE := fun env S => (fe env S).bind fun x S1 => (fl env S1).bind fun l S2 => (fu env S2).bind fun u S3 => lift (o S3 x l u) S3
theorem de_slice {o : Sto → D → Option Int → Option Int → Option D} {lo hi : Option Expr} {fl fu : DO} {p2 : Pos} (ho : SlD X o) (he : PE X e (tE X W f)) (hl : PO X lo (tO X W fl)) (hu : PO X hi (tO X W fu)) : PE X (.Subscript e (.Slice lo hi none p2) pos) (tE X W (dSl o f fl fu)) := by
  obtain ⟨rr, h, k⟩ := ho
  refine PE.imp (pe_slice h he hl hu) fun σ H Q q => ?_
  refine tE_one q fun r t S env x v H' rel dx g => ?_
  refine ⟨r, t, S, env, rel, g.bind.mono fun l S1 r1 H1 ex so g1 => ?_⟩
  have rel1 := rel.ext ex so
  have dx1 := Den.ext ex _ _ dx
  refine ⟨r1, t, S1, env, rel1, g1.bind.mono fun u S2 r2 H2 ex2 so2 g2 => ?_⟩
  obtain ⟨d, e, g3⟩ := g2.lift
  exact k r2 t S2 H2 x v l u d Q so2 (Den.ext ex2 _ _ dx1) e fun w H3 ex3 so3 dw => g3 H3 r2 ex3 so3 w dw

/-! ### built-in functions -/
def tyN (S : Sto) : D → Option String
  | .non => some "NoneType"
  | .bl _ => some "bool"
  | .int _ => some "int"
  | .str _ => some "str"
  | .tup _ => some "tuple"
  | .lst _ => some "list"
  | .fz _ => some "list"
  | .ref n => match S[n]? with
    | some (.lst _) => some "list"
    | some (.dK _) => some "dict"
    | some (.dT _) => some "dict"
    | _ => none
  | .ty _ => none
theorem ty_ok {T : String} (so : SOk K mg H r t S) (dv : Den K H r t v d) (h : tyN S d = some T) : TyX K H v (.type T) := by
  cases dv with
  | non => cases h; exact .base .non
  | bl b => cases h; exact .base (.bl b)
  | int b => cases h; exact .base (.int b)
  | str b => cases h; exact .base (.str b)
  | tup h1 z => cases h; exact .base (.tup h1)
  | lst h1 _ _ _ => cases h; exact .base (.lst h1)
  | fz h1 _ =>
    cases h
    rcases h1 with ⟨o, h1⟩ | ⟨o, its, n, hk, hc, _⟩
    · exact .base (.frz h1)
    · exact .kList hk hc
  | @ref a n hn =>
    obtain ⟨c, hc, ok⟩ := so.cell hn
    unfold tyN at h
    dsimp only at h
    rw [hc] at h
    cases c with
    | lst es => cases h; obtain ⟨xs, h1, _⟩ := ok; exact .base (.lst h1)
    | dK es => cases h; obtain ⟨xs, h1, _⟩ := ok; exact .base (.dK h1)
    | dT es => cases h; obtain ⟨xs, h1, _⟩ := ok; exact .base (.dT h1)
    | ins c fs => cases h
    | exc c => cases h
    | fK es => cases h
    | fT es => cases h
    | dN es => cases h
    | fN es => cases h
    | tC es => cases h
    | gone => cases h
  | ty n => cases h
def oIsInst : Sto → List D → Option D := fun S ds => match ds with
  | [d, .ty T] => match tyN S d with
    | some a => (kitB a T).map .bl
    | none => none
  | _ => none
theorem cd_isinst : CallD X (.builtin "isinstance") oIsInst := by
  refine ⟨_, call_isi, fun r t S H ds vs d Q so dv e q => ?_⟩
  unfold oIsInst at e
  split at e
  · rename_i x T
    split at e
    · rename_i a ea
      obtain ⟨b, h1, h2⟩ := Option.map_eq_some_iff.mp e
      subst h2
      cases dv with
      | cons d1 d2 =>
        cases d2 with
        | cons d2 d3 =>
          cases d3
          cases d2
          exact ⟨_, _, _, _, b, rfl, .ty T, ty_ok so d1 ea, kit_ty h1, q _ _ (Ext.refl _ _) so (.bl b)⟩
    · cases e
  · cases e
def oLen : Sto → List D → Option D := fun S ds => match ds with
  | [.str x] => if x.length ≤ sizeLine then some (.int x.length) else none
  | [.tup xs] => some (.int xs.length)
  | [d] => (listOf S d).map fun xs => .int xs.length
  | _ => none
theorem cd_len : CallD X (.builtin "len") oLen := by
  refine ⟨_, call_len, fun r t S H ds vs d Q so dv e q => ?_⟩
  unfold oLen at e
  split at e
  · split at e
    · rename_i x hl
      cases e
      cases dv with
      | cons d1 d2 =>
        cases d2
        cases d1
        exact ⟨.str x, x.length, rfl, ⟨hl, rfl⟩, q _ _ (Ext.refl _ _) so (.int _)⟩
    · cases e
  · rename_i xs
    cases e
    cases dv with
    | cons d1 d2 =>
      cases d2
      cases d1 with
      | tup h1 z => exact ⟨_, _, rfl, .inr ⟨_, sqT_of h1, z.length.symm⟩, q _ _ (Ext.refl _ _) so (.int _)⟩
  · obtain ⟨xs, h1, h2⟩ := Option.map_eq_some_iff.mp e
    subst h2
    cases dv with
    | cons d1 d2 =>
      cases d2
      obtain ⟨a, ys, rfl, h3, z⟩ := list_ok so d1 h1
      exact ⟨_, _, rfl, .inl ⟨_, h3, z.length.symm⟩, q _ _ (Ext.refl _ _) so (.int _)⟩
  · cases e
def blsOf : List D → Option (List Bool)
  | [] => some []
  | .bl b :: r => (blsOf r).map (b :: ·)
  | _ :: _ => none
theorem bls_eq : ∀ {ds : List D} {bs : List Bool}, blsOf ds = some bs → ds = bs.map D.bl
  | [], _, h => by cases h; rfl
  | d :: r, bs, h => by
    cases d with
    | bl b =>
      obtain ⟨l, h1, h2⟩ := Option.map_eq_some_iff.mp (show (blsOf r).map (b :: ·) = some bs from h)
      subst h2
      rw [List.map_cons, bls_eq h1]
    | _ => cases h
def oAll : Sto → List D → Option D := fun S ds => match ds with
  | [d] => ((listOf S d).bind blsOf).map fun bs => .bl (bs.all id)
  | _ => none
theorem cd_all (hc : X.calm = true) : CallD X (.builtin "all") oAll := by
  refine ⟨_, cr_all hc, fun r t S H ds vs d Q so dv e q => ?_⟩
  unfold oAll at e
  split at e
  · obtain ⟨bs, h1, h2⟩ := Option.map_eq_some_iff.mp e
    obtain ⟨es, h3, h4⟩ := Option.bind_eq_some_iff.mp h1
    subst h2
    cases dv with
    | cons d1 d2 =>
      cases d2
      obtain ⟨a, xs, rfl, h5, z⟩ := list_ok so d1 h3
      rw [bls_eq h4] at z
      rw [z.bls] at h5
      exact ⟨a, bs, rfl, h5, q _ _ (Ext.refl _ _) so (.bl _)⟩
  · cases e
def oTuple : Sto → List D → Option D := fun S ds => match ds with
  | [.tup xs] => some (.tup xs)
  | [d] => (listOf S d).map .tup
  | _ => none
theorem cd_tuple : CallD X (.type "tuple") oTuple := by
  refine ⟨_, call_tuple_of, fun r t S H ds vs d Q so dv e q => ?_⟩
  unfold oTuple at e
  split at e
  · cases e
    cases dv with
    | cons d1 d2 =>
      cases d2
      cases d1 with
      | tup h1 z => exact ⟨_, _, rfl, .inr ⟨sqT_of h1, q _ _ (Ext.refl _ _) so (.tup h1 z)⟩⟩
  · obtain ⟨xs, h1, h2⟩ := Option.map_eq_some_iff.mp e
    subst h2
    cases dv with
    | cons d1 d2 =>
      cases d2
      obtain ⟨a, ys, rfl, h3, z⟩ := list_ok so d1 h1
      exact ⟨_, _, rfl, .inl ⟨h3, fun l hl => newT so hl z q⟩⟩
  · cases e
def oListC : Sto → List D → Option D := fun S ds => match ds with
  | [.tup xs] => some (.lst xs)
  | [d] => (listOf S d).map .lst
  | _ => none
def oStrC : Sto → List D → Option D := fun _ ds => match ds with
  | [.int i] => if i.natAbs < 2 ^ 1919 then some (.str (toString i)) else none
  | _ => none
theorem cd_str : CallD X (.type "str") oStrC := by
  refine ⟨_, call_str_int, fun r t S H ds vs d Q so dv e q => ?_⟩
  unfold oStrC at e
  split at e
  · split at e
    · rename_i i hi
      cases e
      cases dv with
      | cons d1 d2 =>
        cases d2
        cases d1
        refine ⟨_, rfl, ?_, q _ _ (Ext.refl _ _) so (.str _)⟩
        exact Nat.lt_of_lt_of_le (PySem.Flt.log2_lt_of (by decide) hi) (by decide)
    · cases e
  · cases e
end
end DL
end L2

set_option Elab.async false
set_option linter.all false
set_option maxRecDepth 100000
namespace L2
namespace DL
open PySem PySem.Spec PyProof.Rows

/-! ### what is walked -/
abbrev DI := Ev → Sto → Out (List D)
/-- J walks the items ds as long as the tokens tok are what they are -/
def Walk (X : Cx) (J : It) (tok : List (V × D)) (ds : List D) : Prop := ∀ (i : Nat) (r t : List Addr) (H : Hp) (S : Sto), SOk X.K X.mg H r t S → (∀ p ∈ tok, Den X.K H r t p.1 p.2) →
  (i = ds.length → J.stop i H) ∧ ∀ d, ds[i]? = some d → J.go i H ∧ ∀ x H', J.yld i H x H' → Ext r H r H' ∧ SOk X.K X.mg H' r t S ∧ Den X.K H' r t x d
def tI (X : Cx) (W : WX) (g : DI) : TI := fun σ H R => ∃ r t S env, Rel X.K X.mg H r t S env σ ∧ Good X.K X.mg t (EW W σ) r H (g env S) fun ds _ r' H' => ∀ J tok, Walk X J tok ds → (∀ p ∈ tok, Den X.K H' r' t p.1 p.2) → R J H'
theorem PI.imp {X : Cx} {tg e : Expr} {w w' : TI} (h : PI X tg e w) (k : ∀ σ H R, w' σ H R → w σ H R) : PI X tg e w' := ⟨fun pins s σ H R I q => h.run pins s σ H R I (k σ H R q)⟩
theorem PI.or {X : Cx} {tg e : Expr} {w w' : TI} (h : PI X tg e w) (h' : PI X tg e w') : PI X tg e (fun σ H R => w σ H R ∨ w' σ H R) :=
  ⟨fun pins s σ H R I q => q.elim (h.run pins s σ H R I) (h'.run pins s σ H R I)⟩
section
variable {X : Cx} {W : WX} {tg e : Expr} {f : DE}
def itemsOf : D → Option (List D)
  | .tup ds => some ds
  | .lst ds => some ds
  | .fz ds => some ds
  | _ => none
def signs (x : Str) : List D := x.cps.toList.map fun c => D.str ⟨#[c]⟩
def seqItems : D → Option (List D)
  | .str x => some (signs x)
  | d => itemsOf d
def iSeq (f : DE) : DI := fun env S => (f env S).bind fun d S1 => lift (seqItems d) S1
theorem walk_str {x : Str} : Walk X (Its x) [] (signs x) := by
  intro i r t H S so _
  refine ⟨fun e => by rw [e]; unfold signs; rw [List.length_map, Array.length_toList]; exact Nat.le_refl _, fun d hd => ?_⟩
  unfold signs at hd
  rw [List.getElem?_map] at hd
  obtain ⟨c, h1, h2⟩ := Option.map_eq_some_iff.mp hd
  rw [Array.getElem?_toList] at h1
  subst h2
  refine ⟨(Array.getElem?_eq_some_iff.mp h1).1, fun y H' yl => ?_⟩
  obtain ⟨e, c', h3, ev⟩ := yl
  subst e ev
  rw [h1] at h3
  cases h3
  exact ⟨Ext.refl _ _, so, .str _⟩
theorem walk_tup {a : Addr} {ds : List D} : Walk X (Itt X.K a) [(.ref a, .tup ds)] ds := by
  intro i r t H S so tok
  have h := tok _ List.mem_cons_self
  cases h with
  | @tup a xs ds h0 z =>
    have h1 : SqT X.K H a xs := sqT_of h0
    refine ⟨fun e => ⟨xs, h1, by rw [z.length, e]; exact Nat.le_refl _⟩, fun d hd => ?_⟩
    obtain ⟨v, hv, dv⟩ := z.get hd
    refine ⟨⟨xs, v, h1, hv⟩, fun x H' y => ?_⟩
    obtain ⟨e, y⟩ := y
    subst e
    have hx := y xs h1
    rw [hv] at hx
    have ex := Option.some.inj hx
    subst ex
    exact ⟨Ext.refl _ _, so, dv⟩
theorem walk_lst {a : Addr} {d0 : D} {ds : List D} (hd0 : d0 = .lst ds ∨ d0 = .fz ds) : Walk X (Itl X.K a) [(.ref a, d0)] ds := by
  intro i r t H S so tok
  have h := tok _ List.mem_cons_self
  obtain ⟨xs, h1, z⟩ : ∃ xs, SqL X.K H a xs ∧ DenL X.K H r t xs ds := by
    rcases hd0 with e | e
    · subst e
      cases h with
      | lst h1 n m z => exact ⟨_, .inl (.inl h1), z⟩
    · subst e
      cases h with
      | fz h1 z => exact ⟨_, h1.sq, z⟩
  refine ⟨fun e => ⟨xs, h1, by rw [z.length, e]; exact Nat.le_refl _⟩, fun d hd => ?_⟩
  obtain ⟨v, hv, dv⟩ := z.get hd
  refine ⟨⟨xs, v, h1, hv⟩, fun x H' y => ?_⟩
  obtain ⟨e, y⟩ := y
  subst e
  have hx := y xs h1
  rw [hv] at hx
  have ex := Option.some.inj hx
  subst ex
  exact ⟨Ext.refl _ _, so, dv⟩
theorem di_seq (he : PE X e (tE X W f)) : PI X tg e (tI X W (iSeq f)) := by
  refine PI.imp (PI.or (pi_str he) (PI.or (pi_tup he) (pi_list he))) fun σ H R q => ?_
  obtain ⟨r, t, S, env, rel, g⟩ := q
  unfold iSeq at g
  cases h : f env S with
  | bad => rw [h] at g; exact (show False from g).elim
  | exc c S1 =>
    rw [h, Out.bind_exc] at g
    refine .inl ⟨r, t, S, env, rel, ?_⟩
    rw [h]
    exact g
  | ok d S1 =>
    rw [h, Out.bind_ok] at g
    obtain ⟨ds, e1, g1⟩ := g.lift
    cases d with
    | str x =>
      cases e1
      refine .inl ⟨r, t, S, env, rel, ?_⟩
      rw [h]
      intro H1 r1 ex so v dv
      cases dv
      exact ⟨x, rfl, g1 H1 r1 ex so _ _ walk_str (fun p hp => by cases hp)⟩
    | tup es =>
      cases e1
      refine .inr (.inl ⟨r, t, S, env, rel, ?_⟩)
      rw [h]
      intro H1 r1 ex so v dv
      cases dv with
      | tup h1 z => exact ⟨_, rfl, ⟨_, sqT_of h1⟩, g1 H1 r1 ex so _ _ walk_tup (by intro p hp; have ep := List.mem_singleton.mp hp; subst ep; exact .tup h1 z)⟩
    | lst es =>
      cases e1
      refine .inr (.inr ⟨r, t, S, env, rel, ?_⟩)
      rw [h]
      intro H1 r1 ex so v dv
      cases dv with
      | lst h1 n m z => exact ⟨_, rfl, ⟨_, .inl (.inl h1)⟩, g1 H1 r1 ex so _ _ (walk_lst (.inl rfl)) (by intro p hp; have ep := List.mem_singleton.mp hp; subst ep; exact .lst h1 n m z)⟩
    | fz es =>
      cases e1
      refine .inr (.inr ⟨r, t, S, env, rel, ?_⟩)
      rw [h]
      intro H1 r1 ex so v dv
      cases dv with
      | fz h1 z => exact ⟨_, rfl, ⟨_, h1.sq⟩, g1 H1 r1 ex so _ _ (walk_lst (.inr rfl)) (by intro p hp; have ep := List.mem_singleton.mp hp; subst ep; exact .fz h1 z)⟩
    | _ => cases e1
def rngL (lo : Int) (n : Nat) : List D := (List.range n).map fun k : Nat => D.int (lo + (k : Int))
theorem rng_get {lo : Int} {n i : Nat} {d : D} (h : (rngL lo n)[i]? = some d) : i < n ∧ d = .int (lo + (i : Int)) := by
  unfold rngL at h
  rw [List.getElem?_map] at h
  obtain ⟨j, h1, h2⟩ := Option.map_eq_some_iff.mp h
  obtain ⟨h3, h4⟩ := List.getElem?_eq_some_iff.mp h1
  rw [List.length_range] at h3
  rw [List.getElem_range] at h4
  subst h4
  exact ⟨h3, h2.symm⟩
theorem rng_len (lo : Int) (n : Nat) : (rngL lo n).length = n := by unfold rngL; rw [List.length_map, List.length_range]
theorem walk_rng {lo : Int} {n : Nat} : Walk X (Itr lo n) [] (rngL lo n) := by
  intro i r t H S so _
  refine ⟨fun e => by rw [e, rng_len]; exact Nat.le_refl _, fun d hd => ?_⟩
  obtain ⟨h1, h2⟩ := rng_get hd
  subst h2
  refine ⟨h1, fun x H' y => ?_⟩
  obtain ⟨e, y⟩ := y
  subst e y
  exact ⟨Ext.refl _ _, so, .int _⟩
def in62 (j : Int) : Bool := decide (-(2 ^ 62) ≤ j) && decide (j < 2 ^ 62)
def rng1 : List D → Option (List D)
  | [.int j] => if in62 j = true then some (rngL 0 j.toNat) else none
  | _ => none
def rng2 : List D → Option (List D)
  | [.int i, .int j] => if (in62 i && in62 j) = true then some (rngL i (j - i).toNat) else none
  | _ => none
theorem in62_ok {j : Int} (h : in62 j = true) : -(2 ^ 62) ≤ j ∧ j < 2 ^ 62 := by
  unfold in62 at h
  rw [Bool.and_eq_true, decide_eq_true_eq, decide_eq_true_eq] at h
  exact h
def iRange1 (fs : DA) : DI := fun env S => (fs env S).bind fun ds S1 => lift (rng1 ds) S1
def iRange2 (fs : DA) : DI := fun env S => (fs env S).bind fun ds S1 => lift (rng2 ds) S1
theorem di_range1 {a : Expr} {fs : DA} {p pos : Pos} (hg : Gl X "range") (hm : X.mg "range" = none) (ha : PA X [a] (tA X W fs)) (hs : starEach [a] X.env = [(false, eval a X.env)] := by rfl) : PI X tg (.Call (.Name "range" p) [a] [] pos) (tI X W (iRange1 fs)) := by
  refine PI.imp (pi_range1 hg hm ha hs) fun σ H R q => ?_
  obtain ⟨r, t, S, env, rel, g⟩ := q
  refine ⟨r, t, S, env, rel, g.bind.mono fun ds S1 r1 H1 ex so g1 vs dvs => ?_⟩
  obtain ⟨es, e1, g2⟩ := g1.lift
  unfold rng1 at e1
  split at e1
  · split at e1
    · rename_i j hj
      cases e1
      obtain ⟨h1, h2⟩ := in62_ok hj
      cases dvs with
      | cons d1 d2 =>
        cases d2
        cases d1
        exact ⟨j, rfl, h1, h2, g2.here so _ [] walk_rng (fun p hp => absurd hp (by simp))⟩
    · cases e1
  · cases e1
theorem di_range2 {a b : Expr} {fs : DA} {p pos : Pos} (hg : Gl X "range") (hm : X.mg "range" = none) (ha : PA X [a, b] (tA X W fs)) (hs : starEach [a, b] X.env = [(false, eval a X.env), (false, eval b X.env)] := by rfl) (hs2 : starEach [b] X.env = [(false, eval b X.env)] := by rfl) :
    PI X tg (.Call (.Name "range" p) [a, b] [] pos) (tI X W (iRange2 fs)) := by
  refine PI.imp (pi_range2 hg hm ha hs hs2) fun σ H R q => ?_
  obtain ⟨r, t, S, env, rel, g⟩ := q
  refine ⟨r, t, S, env, rel, g.bind.mono fun ds S1 r1 H1 ex so g1 vs dvs => ?_⟩
  obtain ⟨es, e1, g2⟩ := g1.lift
  unfold rng2 at e1
  split at e1
  · split at e1
    · rename_i i j hj
      cases e1
      rw [Bool.and_eq_true] at hj
      obtain ⟨h1, h2⟩ := in62_ok hj.1
      obtain ⟨h3, h4⟩ := in62_ok hj.2
      cases dvs with
      | cons d1 d2 =>
        cases d2 with
        | cons d2 d3 =>
          cases d3
          cases d1
          cases d2
          exact ⟨i, j, rfl, ⟨h1, h2, h3, h4⟩, g2.here so _ [] walk_rng (fun p hp => absurd hp (by simp))⟩
    · cases e1
  · cases e1
end

/-! ### targets -/
abbrev DG := Ev → D → Option Ev
/-- over every context with this written part -/
def Off (own : List Nat) (σ σ' : St) : Prop := σ'.length = σ.length ∧ ∀ j, j ∉ own → σ'[j]? = σ[j]?
def tG (K : PySem.W.Frag) (mg : Str → Option Value) (own : List Nat) (g : DG) : TG := fun v σ H Q => ∃ r t S env d, Rel K mg H r t S env σ ∧ Den K H r t v d ∧ ∃ env', g env d = some env' ∧ ∀ σ', Rel K mg H r t S env' σ' → Off own σ σ' → Q σ' H
theorem PG.imp {X : Cx} {e : Expr} {u u' : TG} (h : PG X e u) (k : ∀ v σ H Q, u' v σ H Q → u v σ H Q) : PG X e u' := ⟨fun pins s σ H v w Q I rv q => h.run pins s σ H v w Q I rv (k v σ H Q q)⟩
section
variable {X : Cx} {pos : Pos}
def gN (i : Nat) : DG := fun env d => some (env.set i (some d))
theorem dg_name (i : Nat) {x : Str} (hN : X.N.Nodup) (hi : X.N[i]? = some x := by rfl) (hx : Loc X.env.scope x := by first | exact .inl rfl | exact .inr rfl) (hf : X.fn x = true ∨ X.env.scope.names.lookup x = some .local := by first | exact .inl rfl | exact .inr rfl) : PG X (.Name x pos) (tG X.K X.mg [i] (gN i)) := by
  refine PG.imp (pg_name hN hi hx hf) fun v σ H Q q => ?_
  obtain ⟨r, t, S, env, d, rel, dv, env', e, q⟩ := q
  cases e
  exact q _ (rel.set i dv) ⟨List.length_set, fun j hj => List.getElem?_set_ne (fun e => hj (by rw [e]; exact List.mem_singleton.mpr rfl))⟩
/-- several targets -/
abbrev DGs := Ev → List D → Option Ev
def tGs (K : PySem.W.Frag) (mg : Str → Option Value) (own : List Nat) (g : DGs) : TGs := fun vs σ H Q => ∃ r t S env ds, Rel K mg H r t S env σ ∧ DenL K H r t vs ds ∧ ∃ env', g env ds = some env' ∧ ∀ σ', Rel K mg H r t S env' σ' → Off own σ σ' → Q σ' H
theorem Off.refl (σ : St) : Off [] σ σ := ⟨rfl, fun _ _ => rfl⟩
theorem Off.trans {a b : List Nat} {σ σ1 σ2 : St} (h : Off a σ σ1) (k : Off b σ1 σ2) : Off (a ++ b) σ σ2 :=
  ⟨k.1.trans h.1, fun j hj => (k.2 j fun z => hj (List.mem_append_right _ z)).trans (h.2 j fun z => hj (List.mem_append_left _ z))⟩
theorem PGs.imp {X : Cx} {e : List Expr} {u u' : TGs} (h : PGs X e u) (k : ∀ v σ H Q, u' v σ H Q → u v σ H Q) : PGs X e u' := ⟨fun pins s σ H v w Q I rv q => h.run pins s σ H v w Q I rv (k v σ H Q q)⟩
def gsNil : DGs := fun env ds => match ds with
  | [] => some env
  | _ => none
def gsCons (g : DG) (gs : DGs) : DGs := fun env ds => match ds with
  | d :: r => (g env d).bind fun env' => gs env' r
  | [] => none
theorem dgs_nil : PGs X [] (tGs X.K X.mg [] gsNil) := by
  refine PGs.imp pgs_nil fun v σ H Q q => ?_
  obtain ⟨r, t, S, env, ds, rel, dv, env', e, q⟩ := q
  unfold gsNil at e
  split at e
  · cases e
    cases dv
    exact ⟨rfl, q _ rel (Off.refl _)⟩
  · cases e
theorem dgs_cons {a : Expr} {es : List Expr} {g : DG} {gs : DGs} {o1 o2 : List Nat} (h1 : PG X a (tG X.K X.mg o1 g)) (h2 : PGs X es (tGs X.K X.mg o2 gs)) (hs : (assignEach (a :: es) X.env).map (·.2) = assign a X.env :: (assignEach es X.env).map (·.2) := by rfl) : PGs X (a :: es) (tGs X.K X.mg (o1 ++ o2) (gsCons g gs)) := by
  refine PGs.imp (pgs_cons h1 h2 hs) fun v σ H Q q => ?_
  obtain ⟨r, t, S, env, ds, rel, dv, env', e, q⟩ := q
  unfold gsCons at e
  split at e
  · rename_i d rd
    obtain ⟨env1, e1, e2⟩ := Option.bind_eq_some_iff.mp e
    cases dv with
    | cons d1 d2 => exact ⟨_, _, rfl, r, t, S, env, d, rel, d1, env1, e1, fun σ1 rel1 off1 => ⟨r, t, S, env1, rd, rel1, d2, env', e2, fun σ2 rel2 off2 => q σ2 rel2 (off1.trans off2)⟩⟩
  · cases e
def gTupD (n : Nat) (gs : DGs) : DG := fun env d => match d with
  | .tup ds => if ds.length = n then gs env ds else none
  | _ => none
theorem dg_tup {es : List Expr} {k : Nat} {gs : DGs} {n : Nat} {own : List Nat} (hc : X.calm = true) (h : PGs X es (tGs X.K X.mg own gs)) (hn : (assignEach es X.env).length = n := by rfl) (hst : (assignEach es X.env).findIdx? (·.1) = none := by rfl) : PG X (.Tuple es k pos) (tG X.K X.mg own (gTupD n gs)) := by
  refine PG.imp (pg_tup hc h hn hst) fun v σ H Q q => ?_
  obtain ⟨r, t, S, env, d, rel, dv, env', e, q⟩ := q
  unfold gTupD at e
  split at e
  · rename_i ds
    split at e
    · rename_i hl
      cases dv with
      | tup h1 z => exact ⟨_, _, rfl, sqT_of h1, z.length.trans hl, r, t, S, env, ds, rel, z, env', e, q⟩
    · cases e
  · cases e
end

/-! ### list comprehensions -/
abbrev W0 : WX := fun _ _ _ _ => False
def noexc {A : Type} : Out A → Out A
  | .exc _ _ => .bad
  | m => m
def bYes : DB := fun _ S => .ok true S
def wipeE (env : Ev) : List Nat → Ev
  | [] => env
  | v :: vs => (wipeE env vs).set v none
def compGo (g : DG) (env : Ev) (tt : DB) (te : DE) : List D → List D → Sto → Out (List D)
  | [], acc, S => .ok acc S
  | d :: ds, acc, S => match g env d with
    | none => .bad
    | some env' => (noexc (tt env' S)).bind fun k S1 => if k = true then (noexc (te env' S1)).bind fun y S2 => if acc.length < sizeLine then compGo g env tt te ds (acc ++ [y]) S2 else .bad
      else compGo g env tt te ds acc S1
def dComp (it : DI) (g : DG) (vs : List Nat) (tt : DB) (te : DE) : DE := fun env S => (it env S).bind fun ds S1 => (compGo g (wipeE env vs) tt te ds [] S1).bind fun acc S2 => .ok (.lst acc) S2
/-- the base of a loop: what a part comes to, whatever the state it is asked at -/
theorem Good.split {K : PySem.W.Frag} {mg : Str → Option Value} {t t' : List Addr} {E E' : Addr → Hp → Prop} {r r' : List Addr} {H H' : Hp} {A B : Type} {m : Out A} {k : A → Sto → Out B} {R : B → Sto → List Addr → Hp → Prop}
    (g : Good K mg t E r H ((noexc m).bind k) R) : Good K mg t' E' r' H' m fun a S _ _ => Good K mg t E r H (k a S) R := by
  cases m with
  | ok a S => exact fun _ _ _ _ => g
  | exc c S => exact (show False from g).elim
  | bad => exact (show False from g).elim
section
variable {K : PySem.W.Frag} {mg : Str → Option Value} {H : Hp} {r t : List Addr} {S : Sto} {env : Ev} {σ : St}
theorem Rel.wipes (R : Rel K mg H r t S env σ) : ∀ vs : List Nat, Rel K mg H r t S (wipeE env vs) (L2.wipe σ vs)
  | [] => R
  | v :: vs => (Rel.wipes R vs).wipe v
theorem SOk.hide {p : Addr} {o : HO} (so : SOk K mg H r t S) (hp : H p = none) : SOk K mg (upd H p o) r (p :: t) S := by
  have nn := notinNew so hp
  refine ⟨so.len, so.nd, fun n a c h1 h2 => ?_, fun a ha => ?_⟩
  · have ok := so.ok n a c h1 h2
    obtain ⟨u, e, _⟩ := ok.there
    have na : a ≠ p := ne_of_none e hp
    cases c with
    | lst ds => obtain ⟨xs, h3, h4⟩ := ok; exact ⟨xs, by rw [upd_ne na]; exact h3, DenL.hide hp _ _ h4⟩
    | dK ds => obtain ⟨xs, h3, h4⟩ := ok; exact ⟨xs, by rw [upd_ne na]; exact h3, ⟨h4.1, DenL.hide hp _ _ h4.2⟩⟩
    | dT ds => obtain ⟨xs, h3, h4⟩ := ok; exact ⟨xs, by rw [upd_ne na]; exact h3, ⟨h4.1, DenL.hide hp _ _ h4.2⟩⟩
    | ins c fs => obtain ⟨C, dx, ps, h3, h4, h5, h6⟩ := ok; exact ⟨C, dx, ps, by rw [upd_ne na]; exact h3, by rw [upd_ne (ne_of_none h4 hp)]; exact h4, h5, ⟨h6.1, DenL.hide hp _ _ h6.2⟩⟩
    | exc c => obtain ⟨C, h3, h4⟩ := ok; exact ⟨C, h3, by rw [upd_ne na]; exact h4⟩
    | fK ds => obtain ⟨o', xs, h3, h4⟩ := ok; exact ⟨o', xs, by rw [upd_ne na]; exact h3, ⟨h4.1, DenL.hide hp _ _ h4.2⟩⟩
    | fT ds => obtain ⟨o', xs, h3, h4⟩ := ok; exact ⟨o', xs, by rw [upd_ne na]; exact h3, ⟨h4.1, DenL.hide hp _ _ h4.2⟩⟩
    | dN ds => obtain ⟨v, xs, h3, n, h4⟩ := ok; exact ⟨v, xs, by rw [upd_ne na]; exact h3, n.keep (fun b ys e => by rw [upd_ne (ne_of_none e hp)]; exact e), ⟨h4.1, DenL.hide hp _ _ h4.2⟩⟩
    | fN ds => obtain ⟨o', v, xs, h3, n, h4⟩ := ok; exact ⟨o', v, xs, by rw [upd_ne na]; exact h3, n.keep (fun b ys e => by rw [upd_ne (ne_of_none e hp)]; exact e), ⟨h4.1, DenL.hide hp _ _ h4.2⟩⟩
    | tC ds => obtain ⟨o', xs, h3, hd, h4⟩ := ok; exact ⟨o', xs, by rw [upd_ne na]; exact h3, hd, DenL.hide hp _ _ h4⟩
    | gone => obtain ⟨o', h3⟩ := ok; exact ⟨o', by rw [upd_ne na]; exact h3⟩
  · rcases List.mem_cons.mp ha with e | e
    · subst e
      exact ⟨by rw [upd_same]; exact (fun z => nomatch z), nn.1⟩
    · exact ⟨(Ext.new (r := r) hp).there a (so.hid a e).1, (so.hid a e).2⟩
theorem Rel.hide {p : Addr} {o : HO} (R : Rel K mg H r t S env σ) (hp : H p = none) : Rel K mg (upd H p o) r (p :: t) S env σ :=
  ⟨R.so.hide hp, R.len, fun i d h => let ⟨v, h1, h2⟩ := R.en i d h; ⟨v, h1, Den.hide hp d v h2⟩⟩
theorem SOk.over {p : Addr} {xs : List V} {o : HO} (so : SOk K mg H r t S) (hm : p ∈ t) (hp : H p = some (.lst xs)) : SOk K mg (upd H p o) r t S := by
  have hT : ∀ ys, H p ≠ some (.tup ys) := fun ys e => by rw [hp] at e; cases e
  have hF : ∀ ob u, H p ≠ some (.frz ob u) := fun ob u e => by rw [hp] at e; cases e
  have hO : ∀ a, H p ≠ some (.own a) := fun a e => by rw [hp] at e; cases e
  refine ⟨so.len, so.nd, fun n a c h1 h2 => ?_, fun a ha => ⟨?_, (so.hid a ha).2⟩⟩
  · have ok := so.ok n a c h1 h2
    have na : a ≠ p := fun e => by subst e; exact (so.hid _ hm).2 (List.mem_of_getElem? h1)
    cases c with
    | lst ds => obtain ⟨xs, h3, h4⟩ := ok; exact ⟨xs, by rw [upd_ne na]; exact h3, DenL.over hm hT hF _ _ h4⟩
    | dK ds => obtain ⟨xs, h3, h4⟩ := ok; exact ⟨xs, by rw [upd_ne na]; exact h3, ⟨h4.1, DenL.over hm hT hF _ _ h4.2⟩⟩
    | dT ds => obtain ⟨xs, h3, h4⟩ := ok; exact ⟨xs, by rw [upd_ne na]; exact h3, ⟨h4.1, DenL.over hm hT hF _ _ h4.2⟩⟩
    | ins c fs => obtain ⟨C, dx, ps, h3, h4, h5, h6⟩ := ok; exact ⟨C, dx, ps, by rw [upd_ne na]; exact h3, by rw [upd_ne (fun e => by subst e; exact hO _ h4)]; exact h4, h5, ⟨h6.1, DenL.over hm hT hF _ _ h6.2⟩⟩
    | exc c => obtain ⟨C, h3, h4⟩ := ok; exact ⟨C, h3, by rw [upd_ne na]; exact h4⟩
    | fK ds => obtain ⟨o', xs, h3, h4⟩ := ok; exact ⟨o', xs, by rw [upd_ne na]; exact h3, ⟨h4.1, DenL.over hm hT hF _ _ h4.2⟩⟩
    | fT ds => obtain ⟨o', xs, h3, h4⟩ := ok; exact ⟨o', xs, by rw [upd_ne na]; exact h3, ⟨h4.1, DenL.over hm hT hF _ _ h4.2⟩⟩
    | dN ds => obtain ⟨v, xs, h3, n, h4⟩ := ok; exact ⟨v, xs, by rw [upd_ne na]; exact h3, n.keep (fun b ys e => by rw [upd_ne (fun z => hT ys (by rw [← z]; exact e))]; exact e), ⟨h4.1, DenL.over hm hT hF _ _ h4.2⟩⟩
    | fN ds => obtain ⟨o', v, xs, h3, n, h4⟩ := ok; exact ⟨o', v, xs, by rw [upd_ne na]; exact h3, n.keep (fun b ys e => by rw [upd_ne (fun z => hT ys (by rw [← z]; exact e))]; exact e), ⟨h4.1, DenL.over hm hT hF _ _ h4.2⟩⟩
    | tC ds => obtain ⟨o', xs, h3, hd, h4⟩ := ok; exact ⟨o', xs, by rw [upd_ne na]; exact h3, hd, DenL.over hm hT hF _ _ h4⟩
    | gone => obtain ⟨o', h3⟩ := ok; exact ⟨o', by rw [upd_ne na]; exact h3⟩
  · by_cases e : a = p
    · subst e; rw [upd_same]; exact fun z => nomatch z
    · rw [upd_ne e]; exact (so.hid a ha).1
theorem Rel.over {p : Addr} {xs : List V} {o : HO} (R : Rel K mg H r t S env σ) (hm : p ∈ t) (hp : H p = some (.lst xs)) : Rel K mg (upd H p o) r t S env σ := by
  have hT : ∀ ys, H p ≠ some (.tup ys) := fun ys e => by rw [hp] at e; cases e
  have hF : ∀ ob u, H p ≠ some (.frz ob u) := fun ob u e => by rw [hp] at e; cases e
  exact ⟨R.so.over hm hp, R.len, fun i d h => let ⟨v, h1, h2⟩ := R.en i d h; ⟨v, h1, Den.over hm hT hF d v h2⟩⟩
theorem SOk.less {u : List Addr} (so : SOk K mg H r t S) (hs : ∀ a ∈ u, a ∈ t) : SOk K mg H r u S := by
  refine ⟨so.len, so.nd, fun n a c h1 h2 => ?_, fun a ha => so.hid a (hs a ha)⟩
  have ok := so.ok n a c h1 h2
  cases c with
  | lst ds => obtain ⟨xs, h3, h4⟩ := ok; exact ⟨xs, h3, DenL.less hs _ _ h4⟩
  | dK ds => obtain ⟨xs, h3, h4⟩ := ok; exact ⟨xs, h3, ⟨h4.1, DenL.less hs _ _ h4.2⟩⟩
  | dT ds => obtain ⟨xs, h3, h4⟩ := ok; exact ⟨xs, h3, ⟨h4.1, DenL.less hs _ _ h4.2⟩⟩
  | ins c fs => obtain ⟨C, dx, ps, h3, h4, h5, h6⟩ := ok; exact ⟨C, dx, ps, h3, h4, h5, ⟨h6.1, DenL.less hs _ _ h6.2⟩⟩
  | exc c => exact ok
  | fK ds => obtain ⟨o', xs, h3, h4⟩ := ok; exact ⟨o', xs, h3, ⟨h4.1, DenL.less hs _ _ h4.2⟩⟩
  | fT ds => obtain ⟨o', xs, h3, h4⟩ := ok; exact ⟨o', xs, h3, ⟨h4.1, DenL.less hs _ _ h4.2⟩⟩
  | dN ds => obtain ⟨v, xs, h3, n, h4⟩ := ok; exact ⟨v, xs, h3, n, ⟨h4.1, DenL.less hs _ _ h4.2⟩⟩
  | fN ds => obtain ⟨o', v, xs, h3, n, h4⟩ := ok; exact ⟨o', v, xs, h3, n, ⟨h4.1, DenL.less hs _ _ h4.2⟩⟩
  | tC ds => obtain ⟨o', xs, h3, hd, h4⟩ := ok; exact ⟨o', xs, h3, hd, DenL.less hs _ _ h4⟩
  | gone => exact ok
/-- a hidden new list is written: from the loop's start on that is nothing -/
theorem Ext.overNew {r1 : List Addr} {H1 : Hp} {p : Addr} {o : HO} (e : Ext r1 H1 r H) (hp : H1 p = none) : Ext r1 H1 r (upd H p o) := by
  refine ⟨e.pre, fun b u h n => ?_, fun b u h => ?_, fun b u w m h => ?_, fun b u xs h => ?_, fun b u h => ?_, fun b h => ?_⟩
  · rw [upd_ne (ne_of_none h hp)]; exact e.keep b u h n
  · rw [upd_ne (ne_of_none h hp)]; exact e.tups b u h
  · rw [upd_ne (ne_of_none h hp)]; exact e.frzs b u w m h
  · rw [upd_ne (ne_of_none h hp)]; exact e.frzt b u xs h
  · rw [upd_ne (ne_of_none h hp)]; exact e.owns b u h
  · by_cases z : b = p
    · subst z; rw [upd_same]; exact fun z => nomatch z
    · rw [upd_ne z]; exact e.there b h
end
theorem wipe_off {vs : List Nat} : ∀ {us : List Nat} {c : St} {j : Nat}, j ∉ us → (wipe c us)[j]? = c[j]?
  | [], _, _, _ => rfl
  | y :: us, c, j, hu => by
    show ((wipe c us).set y none)[j]? = c[j]?
    rw [List.getElem?_set_ne (fun e => hu (by rw [e]; exact List.mem_cons_self)), wipe_off (vs := vs) fun e => hu (List.mem_cons_of_mem _ e)]
theorem wipe_on : ∀ {us : List Nat} {c : St} {j : Nat}, j ∈ us → j < c.length → (wipe c us)[j]? = some none
  | [], _, _, hu, _ => by cases hu
  | y :: us, c, j, hu, hc => by
    show ((wipe c us).set y none)[j]? = some none
    by_cases hy : y = j
    · subst hy
      rw [List.getElem?_set_self (by rw [wipe_length]; exact hc)]
    · rw [List.getElem?_set_ne hy]
      exact wipe_on ((List.mem_cons.mp hu).resolve_left fun e => hy e.symm) hc
theorem wipe_eq {a b : St} {vs : List Nat} (hl : a.length = b.length) (h : ∀ j, j ∉ vs → a[j]? = b[j]?) : wipe a vs = wipe b vs := by
  refine List.ext_getElem? fun j => ?_
  by_cases hv : j ∈ vs
  · by_cases hc : j < a.length
    · rw [wipe_on hv hc, wipe_on hv (by rw [← hl]; exact hc)]
    · rw [List.getElem?_eq_none (by rw [wipe_length]; omega), List.getElem?_eq_none (by rw [wipe_length]; omega)]
  · rw [wipe_off (vs := []) hv, wipe_off (vs := []) hv]
    exact h j hv
theorem wipe_back {σ σ2 : St} {vs own : List Nat} (off : Off own (wipe σ vs) σ2) (ho : ∀ i ∈ own, i ∈ vs) : wipe σ2 vs = wipe σ vs := by
  refine wipe_eq (by rw [off.1, wipe_length]) fun j hj => ?_
  rw [off.2 j fun z => hj (ho j z), wipe_off (vs := []) hj]
end DL
end L2

set_option Elab.async false
set_option linter.all false
set_option maxRecDepth 100000
namespace L2
namespace DL
open PySem PySem.Spec PyProof.Rows

theorem Out.bind_assoc {A B C : Type} (m : Out A) (f : A → Sto → Out B) (g : B → Sto → Out C) : (m.bind f).bind g = m.bind fun a S => (f a S).bind g := by
  cases m <;> rfl
section
variable {X : Cx} {W : WX} {tg iter elt : Expr} {it : DI} {g : DG} {tt : DB} {te : DE} {scope : Scope} {own : List (Str × Nat)} {go : List Nat} {ifs : List Expr} {pos : Pos} {σ : St} {H : Hp} {Q : VK}
/-- between two turns of a comprehension whose new list stands at p -/
def CInv (X : Cx) (W : WX) (g : DG) (vs : List Nat) (tt : DB) (te : DE) (σ : St) (Q : VK) (env : Ev) (t r1 : List Addr) (H1 : Hp) (p : Addr) (tok : List (V × D)) (ds : List D) (H2 : Hp) : Prop :=
  ∃ r2 S2 acc accV, H2 p = some (.lst accV) ∧ DenL X.K H2 r2 (p :: t) accV acc ∧ Rel X.K X.mg H2 r2 (p :: t) S2 (wipeE env vs) (wipe σ vs) ∧ Ext r1 H1 r2 H2 ∧
      (∀ q ∈ tok, Den X.K H2 r2 (p :: t) q.1 q.2) ∧ Good X.K X.mg t (EW W σ) r1 H1 ((compGo g (wipeE env vs) tt te ds acc S2).bind fun acc S2 => .ok (.lst acc) S2) fun d _ r' H' => ∀ v, Den X.K H' r' t v d → Q v H'
theorem tLc_of {vs : List Nat} (hgo : ∀ i ∈ go, i ∈ vs) (q : tE X W (dComp it g vs tt te) σ H Q) : tLc (tI X W it) (tG X.K X.mg go g) (tB' X W0 tt) (tE X W0 te) vs σ H Q := by
  obtain ⟨r, t, S, env, rel, g0⟩ := q
  refine ⟨r, t, S, env, rel, g0.bind.mono fun ds S1 r1 H1 ex so g1 J tok walk htok p hp => ?_⟩
  have rel1 := rel.ext ex so
  have nn := notinNew so hp
  refine ⟨fun i m H2 => m = ds.length - i ∧ i ≤ ds.length ∧ CInv X W g vs tt te σ Q env t r1 H1 p tok (ds.drop i) H2,
    ⟨ds.length, rfl, Nat.zero_le _, r1, S1, [], [], upd_same, .nil, (rel1.hide hp).wipes vs, Ext.new hp, fun q hq => Den.hide hp _ _ (htok q hq), g1⟩, ?_⟩
  rintro i m H2 ⟨rfl, hi, r2, S2, acc, accV, hD2, dacc, rel2, ex2, htok2, g2⟩
  have wk := walk i r2 (p :: t) H2 S2 rel2.so htok2
  have nD : p ∉ r2 := (rel2.so.hid p List.mem_cons_self).2
  by_cases hlt : i < ds.length
  · obtain ⟨hgo1, hyl⟩ := wk.2 ds[i] (List.getElem?_eq_getElem hlt)
    rw [List.drop_eq_getElem_cons hlt] at g2
    unfold compGo at g2
    cases hE : g (wipeE env vs) ds[i] with
    | none => rw [hE] at g2; exact (show False from g2).elim
    | some env' =>
      rw [hE] at g2
      dsimp only at g2
      rw [Out.bind_assoc] at g2
      refine .inr ⟨hgo1, fun H3 => CInv X W g vs tt te σ Q env t r1 H1 p tok (ds.drop (i + 1)) H3, fun H' h => ⟨ds.length - (i + 1), by omega, rfl, hlt, h⟩, fun x H' y => ?_⟩
      obtain ⟨exy, soy, dx⟩ := hyl x H' y
      have rely := rel2.ext exy soy
      refine ⟨r2, p :: t, S2, wipeE env vs, ds[i], rely, dx, env', hE, fun σ2 relS off => ⟨wipe_back off hgo, ?_⟩⟩
      refine ⟨r2, p :: t, S2, env', relS, (Good.split g2).mono fun b S3 r3 H3 ex3 so3 g3 => ?_⟩
      have exA := exy.trans ex3
      have hD3 : H3 p = some (.lst accV) := exA.keep p _ hD2 nD
      have rel3 := rely.ext ex3 so3
      have nD3 : p ∉ r3 := (so3.hid p List.mem_cons_self).2
      cases b with
      | false => exact iteF ⟨r3, S3, acc, accV, hD3, DenL.ext exA _ _ dacc, rel3, ex2.trans exA, fun q hq => Den.ext exA _ _ (htok2 q hq), g3⟩
      | true =>
        refine iteT ?_
        have g3' := g3
        rw [if_pos rfl, Out.bind_assoc] at g3'
        refine ⟨r3, p :: t, S3, env', relS.ext ex3 so3, (Good.split g3').mono fun y S4 r4 H4 ex4 so4 g4 yv dyv => ?_⟩
        have hD4 : H4 p = some (.lst accV) := ex4.keep p _ hD3 nD3
        have hz : acc.length < sizeLine ∧ Good X.K X.mg t (EW W σ) r1 H1 ((compGo g (wipeE env vs) tt te (ds.drop (i + 1)) (acc ++ [y]) S4).bind fun acc S2 => .ok (.lst acc) S2) (fun d _ r' H' => ∀ v, Den X.K H' r' t v d → Q v H') := by
          by_cases hz : acc.length < sizeLine
          · rw [if_pos hz] at g4; exact ⟨hz, g4⟩
          · rw [if_neg hz] at g4; exact (show False from g4).elim
        have exB := exA.trans ex4
        have hT : ∀ ys, H4 p ≠ some (.tup ys) := fun ys e => by rw [hD4] at e; cases e
        have hF : ∀ ob u, H4 p ≠ some (.frz ob u) := fun ob u e => by rw [hD4] at e; cases e
        have mD : p ∈ p :: t := List.mem_cons_self
        exact ⟨accV, hD4, by rw [dacc.length]; exact hz.1, r4, S4, acc ++ [y], accV ++ [yv], upd_same, DenL.over mD hT hF _ _ ((DenL.ext exB _ _ dacc).append (.cons dyv .nil)), (rel3.ext ex4 so4).over mD hD4, (ex2.trans exB).overNew hp, fun q hq => Den.over mD hT hF _ _ (Den.ext exB _ _ (htok2 q hq)), hz.2⟩
  · have e : i = ds.length := by omega
    subst e
    rw [List.drop_length] at g2
    refine .inl ⟨wk.1 rfl, ?_⟩
    have sub : ∀ a ∈ t, a ∈ p :: t := fun a ha => List.mem_cons_of_mem _ ha
    exact g2 H2 r2 ex2 (rel2.so.less sub) _ (.lst hD2 nD nn.2 (DenL.less sub _ _ dacc))
theorem de_comp (hc : X.calm = true) (hN : X.N.Nodup) (hi : PI X tg iter (tI X W it)) (ok : BlkOk X.N X.env.scope scope own) (hgo : ∀ i ∈ go, i ∈ own.map (·.2))
    (hg : ∀ (s : Shared) (H : Hp) (C : Addr) (cl : List (Str × Addr)) (fp : List Addr), PG (X.blk s H scope (compEnvC scope cl C X.env) fp) tg (tG X.K X.mg go g)) (ht : ∀ (s : Shared) (H : Hp) (C : Addr) (cl : List (Str × Addr)) (fp : List Addr), PTs (X.blk s H scope (compEnvC scope cl C X.env) fp) ifs (tB' X W0 tt))
    (he : ∀ (s : Shared) (H : Hp) (C : Addr) (cl : List (Str × Addr)) (fp : List Addr), PE (X.blk s H scope (compEnvC scope cl C X.env) fp) elt (tE X W0 te)) (hs : ∀ x, foldedSetIterable iter X.env x = pure x := by intro _; rfl) :
    PE X (.ListComp elt [⟨tg, iter, ifs, 0⟩] scope pos) (tE X W (dComp it g (own.map (·.2)) tt te)) :=
  PE.imp (pe_lc hc hN hi ok hg ht he hs) fun _ _ _ q => tLc_of hgo q
theorem dts_nil : PTs X [] (tB' X W bYes) := ⟨fun pins s σ H Q I h => (pts_nil (X := X)).run pins s σ H Q I (by
  obtain ⟨r, t, S, env, rel, g⟩ := h
  exact g.here rel.so)⟩
end

/-! ### statements -/
inductive Fl where
  | nx | rt (d : D) | bk | ct
abbrev DS := Ev → Sto → Out (Fl × Ev)
abbrev WC (E : XK) : WX := fun c d _ H => E c d H
abbrev EC (E : XK) : Addr → Hp → Prop := fun C H => E (.ref C) none H
def fin (Dn : Ends) (K : PySem.W.Frag) (H : Hp) (r t : List Addr) (fl : Fl) (σ : St) : Prop := match fl with
  | .nx => Dn.nx σ H
  | .rt d => ∀ v, Den K H r t v d → Dn.rt v H
  | .bk => Dn.bk σ H
  | .ct => Dn.ct σ H
abbrev RS (X : Cx) (Dn : Ends) (t : List Addr) : (Fl × Ev) → Sto → List Addr → Hp → Prop := fun p S' r' H' => ∀ σ', Rel X.K X.mg H' r' t S' p.2 σ' → fin Dn X.K H' r' t p.1 σ'
def tS (X : Cx) (E : XK) (f : DS) : TS := fun Dn σ H => ∃ r t S env, Rel X.K X.mg H r t S env σ ∧ Good X.K X.mg t (EC E) r H (f env S) (RS X Dn t)
section
variable {X : Cx} {E : XK} {e : Expr} {st : Stmt} {rest : List Stmt} {f g : DS} {fe : DE} {pos : Pos}
theorem PS.imp {e : Stmt} {u u' : TS} (h : PS X e u) (k : ∀ D σ H, u' D σ H → u D σ H) : PS X e u' := ⟨fun pins s σ H D I q => h.run pins s σ H D I (k D σ H q)⟩
theorem PSs.imp {e : List Stmt} {u u' : TS} (h : PSs X e u) (k : ∀ D σ H, u' D σ H → u D σ H) : PSs X e u' := ⟨fun pins s σ H D I q => h.run pins s σ H D I (k D σ H q)⟩
def sNil : DS := fun env S => .ok (.nx, env) S
def sSeq (f g : DS) : DS := fun env S => (f env S).bind fun p S1 => match p.1 with
  | .nx => g p.2 S1
  | fl => .ok (fl, p.2) S1
theorem ds_nil : PSs X [] (tS X E sNil) := PSs.imp pss_nil fun D σ H q => by
  obtain ⟨r, t, S, env, rel, g⟩ := q
  exact g.here rel.so σ rel
theorem ds_one (h : PS X st (tS X E f)) : PSs X [st] (tS X E f) := pss_one h
theorem ds_cons (h1 : PS X st (tS X E f)) (h2 : PSs X rest (tS X E g)) : PSs X (st :: rest) (tS X E (sSeq f g)) := by
  refine PSs.imp (pss_cons h1 h2) fun D σ H q => ?_
  obtain ⟨r, t, S, env, rel, g0⟩ := q
  refine ⟨r, t, S, env, rel, g0.bind.mono fun p S1 r1 H1 ex so g1 σ1 rel1 => ?_⟩
  obtain ⟨fl, env1⟩ := p
  cases fl with
  | nx => exact ⟨r1, t, S1, env1, rel1, g1⟩
  | rt d => exact Good.here g1 so σ1 rel1
  | bk => exact Good.here g1 so σ1 rel1
  | ct => exact Good.here g1 so σ1 rel1
def sExpr (f : DE) : DS := fun env S => (f env S).bind fun _ S1 => .ok (.nx, env) S1
theorem ds_expr (he : PE X e (tE X (WC E) fe)) (hs : swapsWith e none pos.line X.env = pure false := by rfl) : PS X (.Expr e pos) (tS X E (sExpr fe)) := by
  refine PS.imp (ps_expr he hs) fun D σ H q => ?_
  obtain ⟨r, t, S, env, rel, g0⟩ := q
  exact ⟨r, t, S, env, rel, g0.bind.mono fun d S1 r1 H1 ex so g1 v dv => Good.here g1 so σ (rel.ext ex so)⟩
def sRet (f : DE) : DS := fun env S => (f env S).bind fun d S1 => .ok (.rt d, env) S1
theorem ds_ret (he : PE X e (tE X (WC E) fe)) : PS X (.Return (some e) pos) (tS X E (sRet fe)) := by
  refine PS.imp (ps_ret he) fun D σ H q => ?_
  obtain ⟨r, t, S, env, rel, g0⟩ := q
  exact ⟨r, t, S, env, rel, g0.bind.mono fun d S1 r1 H1 ex so g1 v dv => Good.here g1 so σ (rel.ext ex so) v dv⟩
def sFl (fl : Fl) : DS := fun env S => .ok (fl, env) S
theorem ds_break : PS X (.Break pos) (tS X E (sFl .bk)) := PS.imp ps_break fun D σ H q => by
  obtain ⟨r, t, S, env, rel, g⟩ := q
  exact g.here rel.so σ rel
def sIf (c : DB) (f g : DS) : DS := fun env S => (c env S).bind fun k S1 => if k = true then f env S1 else g env S1
theorem ds_if {c : Expr} {a b : List Stmt} {tc : DB} (hc : PT X c (tB' X (WC E) tc)) (ha : PSs X a (tS X E f)) (hb : PSs X b (tS X E g)) : PS X (.If c a b pos) (tS X E (sIf tc f g)) := by
  refine PS.imp (ps_if hc ha hb) fun D σ H q => ?_
  obtain ⟨r, t, S, env, rel, g0⟩ := q
  refine ⟨r, t, S, env, rel, g0.bind.mono fun k S1 r1 H1 ex so g1 => ?_⟩
  cases k with
  | true => exact iteT ⟨r1, t, S1, env, rel.ext ex so, g1⟩
  | false => exact iteF ⟨r1, t, S1, env, rel.ext ex so, g1⟩
def sSet (i : Nat) (f : DE) : DS := fun env S => (f env S).bind fun d S1 => .ok (.nx, env.set i (some d)) S1
theorem ds_set (i : Nat) {x : Str} {pos' : Pos} (hN : X.N.Nodup) (he : PE X e (tE X (WC E) fe)) (hi : X.N[i]? = some x := by rfl) (hx : Loc X.env.scope x := by first | exact .inl rfl | exact .inr rfl) (hs : swapsWith e (some (.Name x pos')) pos.line X.env = pure false := by rfl) (hf : X.fn x = true ∨ X.env.scope.names.lookup x = some .local := by first | exact .inl rfl | exact .inr rfl) :
    PS X (.Assign [.Name x pos'] e pos) (tS X E (sSet i fe)) := by
  refine PS.imp (ps_set hN hi hx he hs hf) fun D σ H q => ?_
  obtain ⟨r, t, S, env, rel, g0⟩ := q
  exact ⟨r, t, S, env, rel, g0.bind.mono fun d S1 r1 H1 ex so g1 v dv => Good.here g1 so _ ((rel.ext ex so).set i dv)⟩
def sAsg (f : DE) (g : DG) : DS := fun env S => (f env S).bind fun d S1 => (lift (g env d) S1).bind fun env' S2 => .ok (.nx, env') S2
theorem ds_asg {tg : Expr} {gg : DG} {own : List Nat} (he : PE X e (tE X (WC E) fe)) (hg : PG X tg (tG X.K X.mg own gg)) (hs : swapsWithSole [tg] e pos.line X.env = pure false := by rfl) (hw : swappedStores [tg] e X.env = pure none := by rfl)
    (h1 : (assignEach [tg] X.env).map (·.2) = [assign tg X.env] := by rfl) : PS X (.Assign [tg] e pos) (tS X E (sAsg fe gg)) := by
  refine PS.imp (ps_asg he hg hs hw h1) fun D σ H q => ?_
  obtain ⟨r, t, S, env, rel, g0⟩ := q
  refine ⟨r, t, S, env, rel, g0.bind.mono fun d S1 r1 H1 ex so g1 v dv => ?_⟩
  obtain ⟨env', e1, g2⟩ := g1.bind.lift
  exact ⟨r1, t, S1, env, d, rel.ext ex so, dv, env', e1, fun σ' rel' _ => Good.here (g2.here so) so σ' rel'⟩
theorem ds_setLc (i : Nat) {y : Str} {py : Pos} {elt tg iter : Expr} {ifs : List Expr} {scope : Scope} {own : List (Str × Nat)} {go : List Nat} {pos spos : Pos} {it : DI} {gg : DG} {tt : DB} {te : DE} (hc : X.calm = true) (hN : X.N.Nodup)
    (hsw : swapsWith (.ListComp elt [⟨tg, iter, ifs, 0⟩] scope pos) (some (.Name y py)) spos.line X.env = pure true) (hi : PI X tg iter (tI X (WC E) it)) (ok : BlkOk X.N X.env.scope scope own) (hgo : ∀ i ∈ go, i ∈ own.map (·.2))
    (hg : ∀ (s : Shared) (H : Hp) (C : Addr) (cl : List (Str × Addr)) (fp : List Addr), PG (X.blk s H scope (compEnvC scope cl C X.env) fp) tg (tG X.K X.mg go gg)) (ht : ∀ (s : Shared) (H : Hp) (C : Addr) (cl : List (Str × Addr)) (fp : List Addr), PTs (X.blk s H scope (compEnvC scope cl C X.env) fp) ifs (tB' X W0 tt))
    (he : ∀ (s : Shared) (H : Hp) (C : Addr) (cl : List (Str × Addr)) (fp : List Addr), PE (X.blk s H scope (compEnvC scope cl C X.env) fp) elt (tE X W0 te)) (hy : X.N[i]? = some y := by rfl) (hyl : X.env.scope.names.lookup y = some .local := by rfl) (hs : ∀ x, foldedSetIterable iter X.env x = pure x := by intro _; rfl) :
    PS X (.Assign [.Name y py] (.ListComp elt [⟨tg, iter, ifs, 0⟩] scope pos) spos) (tS X E (sSet i (dComp it gg (own.map (·.2)) tt te))) := by
  refine PS.imp (ps_setLc hc hN hy hyl hsw hi ok hg ht he hs) fun D σ H q => ?_
  obtain ⟨r, t, S, env, rel, g0⟩ := q
  exact tLc_of (W := WC E) hgo ⟨r, t, S, env, rel, g0.bind.mono fun d S1 r1 H1 ex so g1 v dv => Good.here g1 so _ ((rel.ext ex so).set i dv)⟩
/-- for -/
def forGo (g : DG) (b : DS) : List D → Ev → Sto → Out (Fl × Ev)
  | [], env, S => .ok (.nx, env) S
  | d :: ds, env, S => match g env d with
    | none => .bad
    | some env' => (b env' S).bind fun p S1 => match p.1 with
      | .nx => forGo g b ds p.2 S1
      | .ct => forGo g b ds p.2 S1
      | .bk => .ok (.nx, p.2) S1
      | .rt v => .ok (.rt v, p.2) S1
def sFor (it : DI) (g : DG) (b : DS) : DS := fun env S => (it env S).bind fun ds S1 => forGo g b ds env S1
theorem ds_for {tg iter : Expr} {body : List Stmt} {it : DI} {gg : DG} {own : List Nat} (hp : PassesOwn (model X.prog X.w) X.A X.env X.xe) (hc : X.calm = true) (hi : PI X tg iter (tI X (WC E) it)) (hg : PG X tg (tG X.K X.mg own gg)) (hb : PSs X body (tS X E f))
    (hs : ∀ x, foldedSetIterable iter X.env x = pure x := by intro _; rfl) : PS X (.For tg iter body [] pos) (tS X E (sFor it gg f)) := by
  refine PS.imp (ps_for hp hc hi hg hb hs) fun D σ H q => ?_
  obtain ⟨r, t, S, env, rel, g0⟩ := q
  refine ⟨r, t, S, env, rel, g0.bind.mono fun ds S1 r1 H1 ex so g1 J tok walk htok => ?_⟩
  refine ⟨fun i m σ2 H2 => m = ds.length - i ∧ i ≤ ds.length ∧ ∃ r2 S2 env2, Rel X.K X.mg H2 r2 t S2 env2 σ2 ∧ (∀ p ∈ tok, Den X.K H2 r2 t p.1 p.2) ∧ Good X.K X.mg t (EC E) r2 H2 (forGo gg f (ds.drop i) env2 S2) (RS X D t), ⟨ds.length, by simp, Nat.zero_le _, r1, S1, env, rel.ext ex so, htok, g1⟩, ?_⟩
  rintro i m σ2 H2 ⟨rfl, hi, r2, S2, env2, rel2, htok2, g2⟩
  have wk := walk i r2 t H2 S2 rel2.so htok2
  by_cases hlt : i < ds.length
  · obtain ⟨hgo1, hyl⟩ := wk.2 ds[i] (List.getElem?_eq_getElem hlt)
    rw [List.drop_eq_getElem_cons hlt] at g2
    unfold forGo at g2
    cases hE : gg env2 ds[i] with
    | none => rw [hE] at g2; exact (show False from g2).elim
    | some env' =>
      rw [hE] at g2
      dsimp only at g2
      refine .inr ⟨hgo1, fun σ3 H3 => ∃ m', m' < ds.length - i ∧ m' = ds.length - (i + 1) ∧ i + 1 ≤ ds.length ∧ ∃ r2 S2 env2, Rel X.K X.mg H3 r2 t S2 env2 σ3 ∧ (∀ p ∈ tok, Den X.K H3 r2 t p.1 p.2) ∧ Good X.K X.mg t (EC E) r2 H3 (forGo gg f (ds.drop (i + 1)) env2 S2) (RS X D t), fun σ' H' h => h, fun x H' y => ?_⟩
      obtain ⟨exy, soy, dx⟩ := hyl x H' y
      refine ⟨r2, t, S2, env2, ds[i], rel2.ext exy soy, dx, env', hE, fun σ3 rel3 _ => ?_⟩
      refine ⟨r2, t, S2, env', rel3, (g2.ext exy).bind.mono fun p S4 r4 H4 ex4 so4 g4 σ4 rel4 => ?_⟩
      have tk : ∀ p ∈ tok, Den X.K H4 r4 t p.1 p.2 := fun p hp => Den.ext (exy.trans ex4) _ _ (htok2 p hp)
      obtain ⟨fl, env4⟩ := p
      cases fl with
      | nx => exact ⟨ds.length - (i + 1), by omega, rfl, hlt, r4, S4, env4, rel4, tk, g4⟩
      | ct => exact ⟨ds.length - (i + 1), by omega, rfl, hlt, r4, S4, env4, rel4, tk, g4⟩
      | bk => exact Good.here g4 so4 σ4 rel4
      | rt d => exact Good.here g4 so4 σ4 rel4
  · have e : i = ds.length := by omega
    subst e
    rw [List.drop_length] at g2
    exact .inl ⟨wk.1 rfl, Good.here g2 rel2.so σ2 rel2⟩
/-- while, with a number of turns that is never reached -/
def whGo (c : DB) (b : DS) : Nat → Ev → Sto → Out (Fl × Ev)
  | 0, _, _ => .bad
  | n + 1, env, S => (c env S).bind fun k S1 => if k = true then (b env S1).bind fun p S2 => match p.1 with
      | .nx => whGo c b n p.2 S2
      | .ct => whGo c b n p.2 S2
      | .bk => .ok (.nx, p.2) S2
      | .rt v => .ok (.rt v, p.2) S2
    else .ok (.nx, env) S1
def turns : Nat := 1000000
def sWhile (c : DB) (b : DS) : DS := fun env S => whGo c b turns env S
theorem ds_while {c : Expr} {body : List Stmt} {tc : DB} (hp : PassesOwn (model X.prog X.w) X.A X.env X.xe) (hc : PT X c (tB' X (WC E) tc)) (hb : PSs X body (tS X E f)) : PS X (.While c body [] pos) (tS X E (sWhile tc f)) := by
  refine PS.imp (ps_while hp hc hb) fun D σ H q => ?_
  obtain ⟨r, t, S, env, rel, g0⟩ := q
  refine ⟨fun m σ2 H2 => ∃ r2 S2 env2, Rel X.K X.mg H2 r2 t S2 env2 σ2 ∧ Good X.K X.mg t (EC E) r2 H2 (whGo tc f m env2 S2) (RS X D t), ⟨turns, r, S, env, rel, g0⟩, ?_⟩
  rintro m σ2 H2 ⟨r2, S2, env2, rel2, g2⟩
  cases m with
  | zero => exact (show False from g2).elim
  | succ n =>
    unfold whGo at g2
    refine ⟨r2, t, S2, env2, rel2, g2.bind.mono fun k S3 r3 H3 ex3 so3 g3 => ?_⟩
    cases k with
    | false => exact iteF (Good.here (show Good X.K X.mg t (EC E) r3 H3 (.ok (.nx, env2) S3) (RS X D t) from g3) so3 σ2 (rel2.ext ex3 so3))
    | true =>
      rw [if_pos rfl] at g3 ⊢
      refine ⟨fun σ4 H4 => ∃ m', m' < n + 1 ∧ ∃ r2 S2 env2, Rel X.K X.mg H4 r2 t S2 env2 σ4 ∧ Good X.K X.mg t (EC E) r2 H4 (whGo tc f m' env2 S2) (RS X D t), fun σ' H' h => h, ?_⟩
      refine ⟨r3, t, S3, env2, rel2.ext ex3 so3, g3.bind.mono fun p S4 r4 H4 ex4 so4 g4 σ4 rel4 => ?_⟩
      obtain ⟨fl, env4⟩ := p
      cases fl with
      | nx => exact ⟨n, by omega, r4, S4, env4, rel4, g4⟩
      | ct => exact ⟨n, by omega, r4, S4, env4, rel4, g4⟩
      | bk => exact Good.here g4 so4 σ4 rel4
      | rt d => exact Good.here g4 so4 σ4 rel4

/-- xs.append(e) -/
def dAppend (fo fa : DE) : DE := fun env S => (fo env S).bind fun o S1 => if (lstOf S1 o).isSome = true then (fa env S1).bind fun y S2 => match o, lstOf S2 o with
  | .ref n, some ds => if ds.length < sizeLine then .ok .non (S2.set n (.lst (ds ++ [y]))) else .bad
  | _, _ => .bad
  else .bad
/-- xs[i] = e, a list -/
def sPutL (fo fi fe : DE) : DS := fun env S => (fe env S).bind fun y S1 => (fo env S1).bind fun o S2 => (fi env S2).bind fun i S3 => match o, lstOf S3 o, i with
  | .ref n, some ds, .int k => match ixN ds.length k with
    | some j => .ok (.nx, env) (S3.set n (.lst (ds.set j y)))
    | none => .bad
  | _, _, _ => .bad
end
section
variable {X : Cx} {W : WX} {E : XK} {o e i : Expr} {fo fa fi fe : DE} {apos pos pos' : Pos} {K : PySem.W.Frag} {mg : Str → Option Value} {H : Hp} {r t : List Addr} {S : Sto}
theorem ref_lst {n : Nat} {v : V} {ds : List D} (so : SOk K mg H r t S) (dv : Den K H r t v (.ref n)) (h : lstOf S (.ref n) = some ds) : ∃ a xs, v = .ref a ∧ r[n]? = some a ∧ H a = some (.lst xs) ∧ DenL K H r t xs ds := by
  obtain ⟨a, xs, e1, h1, z⟩ := lst_ok so dv h
  cases dv with
  | ref hn => cases e1; exact ⟨a, xs, rfl, hn, h1, z⟩
/-- a list cell is written -/
theorem put_lst {n : Nat} {a : Addr} {xs ys : List V} {es : List D} (so : SOk K mg H r t S) (hn : r[n]? = some a) (h : H a = some (.lst xs)) (z : DenL K H r t ys es) : Ext r H r (upd H a (.lst ys)) ∧ SOk K mg (upd H a (.lst ys)) r t (S.set n (.lst es)) := by
  have ex : Ext r H r (upd H a (.lst ys)) := Ext.write h trivial (List.mem_of_getElem? hn)
  exact ⟨ex, so.write hn h trivial ⟨ys, upd_same, DenL.ext ex _ _ z⟩⟩
theorem de_append (hb : PE X e (tBM X.K "list" rAppend (tE X W fo) (tCons (tE X W fa) tNil))) : PE X e (tE X W (dAppend fo fa)) := by
  refine PE.imp hb fun σ H Q q => ?_
  obtain ⟨r, t, S, env, rel, g⟩ := q
  refine ⟨r, t, S, env, rel, g.bind.mono fun od S1 r1 H1 ex so g1 v dv => ?_⟩
  have rel1 := rel.ext ex so
  obtain ⟨hty, g2⟩ := g1.ite
  obtain ⟨ds, hds⟩ := Option.isSome_iff_exists.mp hty
  obtain ⟨a, xs, ev, ha1, _⟩ := lst_ok so dv hds
  refine ⟨by rw [ev]; exact Or.inl ⟨rfl, _, SqL.of ha1⟩, r1, t, S1, env, rel1, g2.bind.mono fun y S2 r2 H2 ex2 so2 g3 yv dy => ?_⟩
  split at g3
  · rename_i n es he
    obtain ⟨hl, g4⟩ := g3.ite
    obtain ⟨b, ys, ev2, hn, hb, z⟩ := ref_lst so2 (Den.ext ex2 _ _ dv) he
    refine ⟨b, ys, yv, ev2, rfl, hb, by rw [z.length]; exact hl, ?_⟩
    obtain ⟨ex3, so3⟩ := put_lst so2 hn hb (z.append (.cons dy .nil))
    exact g4 _ r2 ex3 so3 _ .non
  · exact (show False from g3).elim
theorem ds_putL (ho : PE X o (tE X (WC E) fo)) (hi : PE X i (tE X (WC E) fi)) (he : PE X e (tE X (WC E) fe)) (hs : swapsWithSole [.Subscript o i pos'] e pos.line X.env = pure false := by rfl) (hw : swappedStores [.Subscript o i pos'] e X.env = pure none := by rfl)
    (h1 : (assignEach [.Subscript o i pos'] X.env).map (·.2) = [assign (.Subscript o i pos') X.env] := by rfl) (ha : ∀ v, assign (.Subscript o i pos') X.env v = (do
      let ov ← holding [v] (eval o X.env)
      let iv ← holding [v, ov] (eval i X.env)
      standAt pos'
      holding [v, ov, iv] (setItem ov iv v)
      release [v, ov, iv] []) := by intro _; rfl) : PS X (.Assign [.Subscript o i pos'] e pos) (tS X E (sPutL fo fi fe)) := by
  refine PS.imp (ps_asg he (pg_sub ho hi set_list ha) hs hw h1) fun D σ H q => ?_
  obtain ⟨r, t, S, env, rel, g⟩ := q
  refine ⟨r, t, S, env, rel, g.bind.mono fun y S1 r1 H1 ex so g1 yv dy => ?_⟩
  have rel1 := rel.ext ex so
  refine ⟨r1, t, S1, env, rel1, g1.bind.mono fun od S2 r2 H2 ex2 so2 g2 ov dov => ?_⟩
  have rel2 := rel1.ext ex2 so2
  refine ⟨r2, t, S2, env, rel2, g2.bind.mono fun id S3 r3 H3 ex3 so3 g3 iv div => ?_⟩
  split at g3
  · rename_i n ds k hds
    split at g3
    · rename_i j hj
      obtain ⟨b, ys, ev2, hn, hb, z⟩ := ref_lst so3 (Den.ext ex3 _ _ dov) hds
      cases div
      obtain ⟨ex4, so4⟩ := put_lst so3 hn hb (z.set j (Den.ext (ex2.trans ex3) _ _ dy))
      exact ⟨b, ys, k, j, ev2, rfl, hb, by rw [z.length]; exact hj, g3 _ r3 ex4 so4 σ ((rel2.ext ex3 so3).ext ex4 so4)⟩
    · exact (show False from g3).elim
  · exact (show False from g3).elim
end

/-! ### defs -/
section
variable {P : Program} {w : World} {K : PySem.W.Frag} {mg : Str → Option Value} {base : Heap}
def dFun (m : Nat) (g : DS) : Fn := fun ds S => (g (ds.map some ++ List.replicate (m - ds.length) none) S).bind fun p S1 => match p.1 with
  | .nx => .ok .non S1
  | .rt d => .ok d S1
  | _ => .bad
/-- .. that lets no exception out -/
def dFun0 (m : Nat) (g : DS) : Fn := fun ds S => noexc (dFun m g ds S)
theorem rel_start {H : Hp} {r t : List Addr} {S : Sto} {vs : List V} {ds : List D} {N : List Str} (so : SOk K mg H r t S) (z : DenL K H r t vs ds) : Rel K mg H r t S (ds.map some ++ List.replicate (N.length - ds.length) none) (start N vs) := by
  unfold start
  refine ⟨so, by simp [z.length], fun i d h => ?_⟩
  by_cases hi : i < ds.length
  · rw [List.getElem?_append_left (by rw [List.length_map]; exact hi), List.getElem?_map] at h
    obtain ⟨d', h1, h2⟩ := Option.map_eq_some_iff.mp h
    have e := Option.some.inj h2
    subst e
    obtain ⟨v, h3, h4⟩ := z.get h1
    refine ⟨v, ?_, h4⟩
    rw [List.getElem?_append_left (by rw [List.length_map, z.length]; exact hi), List.getElem?_map, h3]
    rfl
  · rw [List.getElem?_append_right (by rw [List.length_map]; omega)] at h
    exact absurd (List.mem_of_getElem? h) (by simp)
theorem fin_start {X : Cx} {H : Hp} {r t : List Addr} {S : Sto} {vs : List V} {ds : List D} {Q : VK} {E : XK} {g : DS} {m : Nat} (rel : Rel X.K X.mg H r t S (ds.map some ++ List.replicate (m - ds.length) none) σ0)
    (q : Good X.K X.mg t (EC E) r H (dFun m g ds S) fun d _ r' H' => ∀ v, Den X.K H' r' t v d → Q v H') : tS X E g { nx := fun _ H' => Q .non H', rt := Q } σ0 H := by
  refine ⟨r, t, S, _, rel, (Good.bind q).mono fun p S1 r1 H1 ex so g1 σ1 rel1 => ?_⟩
  obtain ⟨fl, env⟩ := p
  cases fl with
  | nx => exact Good.here g1 so _ .non
  | rt d => exact fun v dv => Good.here g1 so v dv
  | bk => exact (show False from g1).elim
  | ct => exact (show False from g1).elim
theorem good0 {A : Type} {t r : List Addr} {H : Hp} {E E' : Addr → Hp → Prop} {m : Out A} {R : A → Sto → List Addr → Hp → Prop} (g : Good K mg t E r H (noexc m) R) : Good K mg t E' r H m R := by
  cases m with
  | ok a S => exact g
  | exc c S => exact (show False from g).elim
  | bad => exact (show False from g).elim
theorem Fun.okD {x qual : Str} {st : Stmt} {f : Addr} {fd : FuncData} {N ps : List Str} {k n : Nat} {g : DS} (F : Fun K x qual st f fd) (S : FnScope N ps (defScope st)) (hn : ps.length = n)
    (hbody : ∀ (cdv : Value) (A : Around) (outer : List Env) (s : Shared) (H : Hp) (E : XK), Room k (A.deeper (envOfC qual (defScope st) s.heap.objs.size f cdv)) →
      PSs (cxOf CX0 P w K mg base N qual (defScope st) f cdv A outer s H E).nox (defBody st) (tS (cxOf CX0 P w K mg base N qual (defScope st) f cdv A outer s H E).nox E0 g)) : FnOk P w K mg base CX0 (k + 1) f fd ps (spD K mg n (dFun0 N.length g)) := by
  refine F.ok S (fun vs H Q E h => h.1.trans hn.symm) fun cdv A outer s H vs Q E hr h => ⟨_, hbody cdv A outer s H E hr, ?_⟩
  obtain ⟨_, r, t, S0, ds, so, z, q⟩ := h
  exact fin_start (X := (cxOf CX0 P w K mg base N qual (defScope st) f cdv A outer s H E).nox) (vs := vs) (rel_start so z) (good0 q)
/-- a def that may raise -/
theorem Fun.okXD {x qual : Str} {st : Stmt} {f : Addr} {fd : FuncData} {N ps : List Str} {k n : Nat} {g : DS} (F : Fun K x qual st f fd) (S : FnScope N ps (defScope st)) (hn : ps.length = n)
    (hbody : ∀ (cdv : Value) (A : Around) (outer : List Env) (s : Shared) (H : Hp) (E : XK), Room k (A.deeper (envOfC qual (defScope st) s.heap.objs.size f cdv)) →
      PSs (cxOf (L2.CX P w) P w K mg base N qual (defScope st) f cdv A outer s H E) (defBody st) (tS (cxOf (L2.CX P w) P w K mg base N qual (defScope st) f cdv A outer s H E) E g)) : FnOk P w K mg base (L2.CX P w) (k + 1) f fd ps (spD K mg n (dFun N.length g)) := by
  refine F.okX S (fun vs H Q E h => h.1.trans hn.symm) fun cdv A outer s H vs Q E hr h => ⟨_, hbody cdv A outer s H E hr, ?_⟩
  obtain ⟨_, r, t, S0, ds, so, z, q⟩ := h
  exact fin_start (X := cxOf (L2.CX P w) P w K mg base N qual (defScope st) f cdv A outer s H E) (vs := vs) (rel_start so z) q
/-- another function that comes to the same -/
theorem spD_imp {n : Nat} {f f' : Fn} (h : ∀ ds S, ds.length = n → f ds S = f' ds S) : ∀ vs H Q E, spD K mg n f' vs H Q E → spD K mg n f vs H Q E := fun vs H Q E q => by
  obtain ⟨h1, r, t, S, ds, so, z, g⟩ := q
  refine ⟨h1, r, t, S, ds, so, z, ?_⟩
  rw [h ds S (z.length.symm.trans h1)]
  exact g
/-- a def of the module that may be called -/
structure Callee (P : Program) (w : World) (K : PySem.W.Frag) (mg : Str → Option Value) (base : Heap) (CX : CXT) (k : Nat) (x : Str) (n : Nat) (fn : Fn) : Prop where
  ex : ∃ f fd ps, FnOk P w K mg base CX k f fd ps (spD K mg n fn) ∧ mg x = some (.ref f) ∧ PySem.W.keepIn K (.ref f) = true ∧ Binds K fd ps []
theorem Callee.up {CX : CXT} {j k n : Nat} {x : Str} {fn : Fn} (c : Callee P w K mg base CX j x n fn) (h : j ≤ k) : Callee P w K mg base CX k x n fn := by
  obtain ⟨f, fd, ps, F, a, b, d⟩ := c
  exact ⟨f, fd, ps, F.mono h, a, b, d⟩
/-- it comes to another function that is the same -/
theorem Callee.as {CX : CXT} {k n : Nat} {x : Str} {fn fn' : Fn} (c : Callee P w K mg base CX k x n fn) (h : ∀ ds S, ds.length = n → fn ds S = fn' ds S) : Callee P w K mg base CX k x n fn' := by
  obtain ⟨f, fd, ps, F, a, b, d⟩ := c
  exact ⟨f, fd, ps, F.imp (spD_imp h), a, b, d⟩
theorem de_callC {X : Cx} {W : WX} {CX : CXT} {k n : Nat} {fn : Fn} {x : Str} {p pos : Pos} {e : Expr} {es : List Expr} {fs : DA} (c : Callee X.prog X.w X.K X.mg X.base CX k x n fn) (hr : Room k X.A) (hx : Thru CX X W) (ha : ArgN X W (e :: es) fs n) (hg : Gl X x := by rfl) (hdb : (x == ("__debug__" : Str)) = false := by decide)
    (he : starEach (e :: es) X.env = (false, eval e X.env) :: starEach es X.env := by rfl) (hpl : (backTo pos (starEach es X.env)).any (·.1) = false := by rfl) : PE X (.Call (.Name x p) (e :: es) [] pos) (tE X W (dCallF fn fs)) := by
  obtain ⟨f, fd, ps, F, a, b, d⟩ := c
  exact de_callF F hr hg a b d hx ha hdb he hpl
theorem hu65 {A : Around} {k : Nat} (hr : Room k A) : A.units + 65 < cLine := by have := hr.un; omega
end
end DL
end L2

set_option Elab.async false
set_option linter.all false
set_option maxRecDepth 100000
namespace L2
namespace DL
open PySem PySem.Spec PyProof.Rows

section
variable {X : Cx}
/-- {} -/
def dNewK : DE := fun _ S => .ok (.ref S.length) (S ++ [.dK []])
def dNewT : DE := fun _ S => .ok (.ref S.length) (S ++ [.dT []])
theorem growC {K : PySem.W.Frag} {mg : Str → Option Value} {H : Hp} {r t : List Addr} {S : Sto} {p : Addr} {o : HO} {c : Cell} (so : SOk K mg H r t S) (hp : H p = none) (hc : CellOk K mg (upd H p o) (r ++ [p]) t p c) :
    SOk K mg (upd H p o) (r ++ [p]) t (S ++ [c]) ∧ Den K (upd H p o) (r ++ [p]) t (.ref p) (.ref S.length) := by
  refine ⟨so.grow hp hc, .ref ?_⟩
  rw [← so.len, List.getElem?_append_right (Nat.le_refl _), Nat.sub_self]
  rfl
theorem de_newK {W : WX} {pos : Pos} : PE X (.Dict [] [] pos) (tE X W dNewK) := by
  refine PE.imp pe_dnewK fun σ H Q q p hp => ?_
  obtain ⟨r, t, S, env, rel, g⟩ := q
  obtain ⟨so, d⟩ := growC (o := .dK []) (c := .dK []) rel.so hp ⟨[], upd_same, rfl, .nil⟩
  exact g _ _ (Ext.grow hp) so _ d
end
/-- the law's promise, by what its function comes to -/
def spLaw (K : PySem.W.Frag) : Sp := fun vs H Q _ => ∃ (a : Addr) (ns : List Int), vs = [.ref a] ∧ FzL K H a (ns.map V.int) ∧ ns.length ≤ 63 ∧ ∀ H', Q (.bl true) H'
theorem denInts {K : PySem.W.Frag} {H : Hp} {r t : List Addr} : ∀ ns : List Int, DenL K H r t (ns.map V.int) (ns.map D.int)
  | [] => .nil
  | n :: ns => .cons (.int n) (denInts ns)
theorem law_ok {P : Program} {w : World} {K : PySem.W.Frag} {mg : Str → Option Value} {base : Heap} {CX : CXT} {k : Nat} {f : Addr} {fd : FuncData} {ps : List Str} {fn : Fn} (F : FnOk P w K mg base CX k f fd ps (spD K mg 1 fn))
    (h : ∀ ns : List Int, ns.length ≤ 63 → ∃ S, fn [.fz (ns.map D.int)] [] = .ok (.bl true) S) : FnOk P w K mg base CX k f fd ps (spLaw K) := by
  refine F.imp fun vs H Q E q => ?_
  obtain ⟨a, ns, rfl, hS, hl, q⟩ := q
  obtain ⟨S, e⟩ := h ns hl
  refine ⟨rfl, [], [], [], [.fz (ns.map D.int)], ⟨rfl, List.nodup_nil, fun n a c h => by simp at h, fun a h => by cases h⟩, .cons (.fz hS (denInts ns)) .nil, ?_⟩
  rw [e]
  intro H' r' _ _ v dv
  cases dv
  exact q H'
theorem only_fz {K : PySem.W.Frag} {H : Hp} {a : Addr} {xs : List V} (hO : Only H) (hS : SqL K H a xs) : FzL K H a xs := by
  rcases hS with (h | ⟨o, h⟩) | h
  · rcases hO a with z | ⟨o, ys, z⟩
    · rw [h] at z; cases z
    · rw [h] at z; cases z
  · exact .inl ⟨o, h⟩
  · exact .inr h
end DL
end L2

set_option Elab.async false
set_option linter.all false
set_option maxRecDepth 100000
namespace L2
namespace DL
open PySem PySem.Spec PyProof.Rows

/-! ### reckoning -/
theorem lift_some {A : Type} (a : A) (S : Sto) : lift (some a) S = .ok a S := rfl
theorem lift_none {A : Type} (S : Sto) : lift (none : Option A) S = .bad := rfl
theorem orO_some {o o' : Sto → D → D → Option D} {S : Sto} {x y d : D} (h : o S x y = some d) : orO o o' S x y = some d := by unfold orO; rw [h]
theorem orO_none {o o' : Sto → D → D → Option D} {S : Sto} {x y : D} (h : o S x y = none) : orO o o' S x y = o' S x y := by unfold orO; rw [h]
theorem iOp_int (c : Int → Int → Bool) (g : Int → Int → D) (S : Sto) (i j : Int) : iOp c g S (.int i) (.int j) = if c i j = true then some (g i j) else none := rfl
theorem add_ii (S : Sto) (i j : Int) : oAdd S (.int i) (.int j) = some (.int (i + j)) := rfl
theorem sub_ii (S : Sto) (i j : Int) : oSub S (.int i) (.int j) = some (.int (i - j)) := rfl
theorem neg_i (i : Int) : oNeg (.int i) = some (.int (-i)) := rfl
theorem lt_ii (S : Sto) (i j : Int) : oLt S (.int i) (.int j) = some (.bl (decide (i < j))) := rfl
theorem le_ii (S : Sto) (i j : Int) : oLe S (.int i) (.int j) = some (.bl (decide (i ≤ j))) := rfl
theorem gt_ii (S : Sto) (i j : Int) : oGt S (.int i) (.int j) = some (.bl (decide (j < i))) := rfl
theorem ge_ii (S : Sto) (i j : Int) : oGe S (.int i) (.int j) = some (.bl (decide (j ≤ i))) := rfl
theorem eq_ii (S : Sto) (i j : Int) : oEq S (.int i) (.int j) = some (.bl (decide (i = j))) := by
  show some (D.bl (false ^^ decide (i = j))) = _
  rw [Bool.false_xor]
theorem ne_ii (S : Sto) (i j : Int) : oNe S (.int i) (.int j) = some (.bl (!decide (i = j))) := by
  show some (D.bl (true ^^ decide (i = j))) = _
  rw [Bool.true_xor]
theorem eq_ss (S : Sto) (i j : Str) : oEq S (.str i) (.str j) = some (.bl (decide (i = j))) := by
  show some (D.bl (false ^^ decide (i = j))) = _
  rw [Bool.false_xor]
theorem ne_ss (S : Sto) (i j : Str) : oNe S (.str i) (.str j) = some (.bl (!decide (i = j))) := by
  show some (D.bl (true ^^ decide (i = j))) = _
  rw [Bool.true_xor]
theorem isnot_bb (S : Sto) (i j : Bool) : oIsNot S (.bl i) (.bl j) = some (.bl (!decide (i = j))) := by
  show some (D.bl (true ^^ decide (i = j))) = _
  rw [Bool.true_xor]
theorem is_bb (S : Sto) (i j : Bool) : oIs S (.bl i) (.bl j) = some (.bl (decide (i = j))) := by
  show some (D.bl (false ^^ decide (i = j))) = _
  rw [Bool.false_xor]
theorem is_non (S : Sto) (d : D) : oIs S d .non = some (.bl (isNonD d)) := by
  refine (orO_none (by cases d <;> rfl)).trans ?_
  show some (D.bl (false ^^ isNonD d)) = _
  rw [Bool.false_xor]
theorem isnot_non (S : Sto) (d : D) : oIsNot S d .non = some (.bl (!isNonD d)) := by
  refine (orO_none (by cases d <;> rfl)).trans ?_
  show some (D.bl (true ^^ isNonD d)) = _
  rw [Bool.true_xor]
theorem mul_ii {i j : Int} (S : Sto) (h : i.natAbs < 2 ^ 64 ∨ j.natAbs < 2 ^ 64) : oMul S (.int i) (.int j) = some (.int (i * j)) := by
  refine orO_some ((iOp_int _ _ _ _ _).trans (if_pos ?_))
  unfold mulC
  rw [Bool.or_eq_true, decide_eq_true_eq, decide_eq_true_eq]
  exact h
theorem mod_ii {i j : Int} (S : Sto) (h : 0 < j) : oMod S (.int i) (.int j) = some (.int (i % j)) := (iOp_int _ _ _ _ _).trans (if_pos (decide_eq_true h))
theorem div_ii {i j : Int} (S : Sto) (h : 0 < j) (h2 : j < 2 ^ 80) : oDiv S (.int i) (.int j) = some (.int (i / j)) := by
  refine (iOp_int _ _ _ _ _).trans (if_pos ?_)
  unfold divC
  rw [Bool.and_eq_true, decide_eq_true_eq, decide_eq_true_eq]
  exact ⟨h, h2⟩
theorem at_nat {ds : List D} {i : Int} {d : D} (h0 : 0 ≤ i) (h : ds[i.toNat]? = some d) : atI ds i = some d := by
  have e : i = ((i.toNat : Nat) : Int) := by omega
  rw [e]
  exact atI_nat h
theorem ix_tupD (S : Sto) (ds : List D) (i : Int) : oIx S (.tup ds) (.int i) = atI ds i := by
  refine (orO_none rfl).trans ?_
  cases h : atI ds i with
  | none => exact (orO_none h).trans rfl
  | some d => exact orO_some h
theorem ix_lstD (S : Sto) (ds : List D) (i : Int) : oIx S (.lst ds) (.int i) = atI ds i := by
  cases h : atI ds i with
  | none => exact (orO_none h).trans rfl
  | some d => exact orO_some h
theorem ix_fzD (S : Sto) (ds : List D) (i : Int) : oIx S (.fz ds) (.int i) = atI ds i := by
  cases h : atI ds i with
  | none => exact (orO_none h).trans rfl
  | some d => exact orO_some h
theorem lst_ref {S : Sto} {n : Nat} {ds : List D} (hn : S[n]? = some (.lst ds)) : lstOf S (.ref n) = some ds := by
  unfold lstOf
  dsimp only
  rw [hn]
theorem list_ref {S : Sto} {n : Nat} {ds : List D} (hn : S[n]? = some (.lst ds)) : listOf S (.ref n) = some ds := lst_ref hn
theorem ix_refD {S : Sto} {n : Nat} {ds : List D} {i : Int} (hn : S[n]? = some (.lst ds)) : oIx S (.ref n) (.int i) = atI ds i := by
  have e : oIxL S (.ref n) (.int i) = atI ds i := by
    unfold oIxL
    rw [list_ref hn]
  cases h : atI ds i with
  | none => exact (orO_none (e.trans h)).trans rfl
  | some d => exact orO_some (e.trans h)
theorem at_lit0 (d : D) (ds : List D) : atI (d :: ds) 0 = some d := atI_nat (j := 0) rfl
theorem at_lit1 (a d : D) (ds : List D) : atI (a :: d :: ds) 1 = some d := atI_nat (j := 1) rfl
theorem at_lit2 (a b d : D) (ds : List D) : atI (a :: b :: d :: ds) 2 = some d := atI_nat (j := 2) rfl
theorem at_lit3 (a b c d : D) (ds : List D) : atI (a :: b :: c :: d :: ds) 3 = some d := atI_nat (j := 3) rfl
theorem len_fz (S : Sto) (ds : List D) : oLen S [.fz ds] = some (.int ds.length) := rfl
theorem len_lst (S : Sto) (ds : List D) : oLen S [.lst ds] = some (.int ds.length) := rfl
theorem len_tup (S : Sto) (ds : List D) : oLen S [.tup ds] = some (.int ds.length) := rfl
theorem seq_nx {f g : DS} {env env' : Ev} {S S' : Sto} (h : f env S = .ok (.nx, env') S') : sSeq f g env S = g env' S' := by
  unfold sSeq
  rw [h]
  rfl
theorem if_t {c : DB} {f g : DS} {env : Ev} {S S' : Sto} (h : c env S = .ok true S') : sIf c f g env S = f env S' := by
  unfold sIf
  rw [h]
  rfl
theorem if_f {c : DB} {f g : DS} {env : Ev} {S S' : Sto} (h : c env S = .ok false S') : sIf c f g env S = g env S' := by
  unfold sIf
  rw [h]
  rfl
theorem fun0_rt {m : Nat} {g : DS} {ds : List D} {S S' : Sto} {d : D} {env : Ev} (h : g (ds.map some ++ List.replicate (m - ds.length) none) S = .ok (.rt d, env) S') : dFun0 m g ds S = .ok d S' := by
  unfold dFun0 dFun
  rw [h]
  rfl
theorem asB_bl (b : Bool) : asB (.bl b) = some b := rfl
theorem putL_ref {fo fi fe : DE} {env : Ev} {S S1 S2 S3 : Sto} {y : D} {n j : Nat} {ds : List D} {k : Int} (h1 : fe env S = .ok y S1) (h2 : fo env S1 = .ok (.ref n) S2) (h3 : fi env S2 = .ok (.int k) S3) (hl : S3[n]? = some (.lst ds)) (hk : ixN ds.length k = some j) :
    sPutL fo fi fe env S = .ok (.nx, env) (S3.set n (.lst (ds.set j y))) := by
  unfold sPutL
  rw [h1, Out.bind_ok, h2, Out.bind_ok, h3, Out.bind_ok, lst_ref hl]
  dsimp only
  rw [hk]
theorem append_ref {fo fa : DE} {env : Ev} {S S1 S2 : Sto} {y : D} {n : Nat} {ds es : List D} (h1 : fo env S = .ok (.ref n) S1) (hl : S1[n]? = some (.lst ds)) (h2 : fa env S1 = .ok y S2) (hl2 : S2[n]? = some (.lst es)) (hz : es.length < sizeLine) :
    dAppend fo fa env S = .ok .non (S2.set n (.lst (es ++ [y]))) := by
  unfold dAppend
  rw [h1, Out.bind_ok, lst_ref hl]
  refine (if_pos (show (some ds).isSome = true from rfl)).trans ?_
  rw [h2, Out.bind_ok, lst_ref hl2]
  dsimp only
  rw [if_pos hz]
theorem set_get {S : Sto} {n : Nat} {c d : Cell} (h : S[n]? = some c) : (S.set n d)[n]? = some d := List.getElem?_set_self (List.getElem?_eq_some_iff.mp h).1
theorem set_set (S : Sto) (n : Nat) (c d : Cell) : (S.set n c).set n d = S.set n d := List.set_set ..
end DL
end L2

set_option Elab.async false
set_option linter.all false
set_option maxRecDepth 100000
namespace L2
namespace DL
open PySem PySem.Spec PyProof.Rows

/-! ### enumerate of a tuple -/
theorem enumT_new (a : Addr) (items : Array Value) (n : Nat) (dct : Option Addr) (sl : Array (Option Value)) : Meets (Builtin.«enumerate.__new__» ⟨[.type "enumerate", .ref a], []⟩)
    (fun _ R s => s.heap.get? a = some { cls := .type "tuple", dict := dct, data := .seq items n, slots := sl } ∧ R (.ok (.ret (.ref (s.heap.push { cls := .type "tuple_iterator", data := .fields #[.ref a, .int 0 0] }).objs.size)))
      { s with heap := (s.heap.push { cls := .type "tuple_iterator", data := .fields #[.ref a, .int 0 0] }).push { cls := .type "enumerate", data := .fields #[.none, .bool false, .ref s.heap.objs.size, rawInt 0, .none, .none] } }) :=
  .of_wp fun prog w A R s hh => by
    obtain ⟨hp, g, dr, tk, os⟩ := s
    obtain ⟨ha, hr⟩ := hh
    have sub := sub_enumerate
    have isT : Heap.IsTuple (Shared.heap ⟨hp, g, dr, tk, os⟩) a items := ⟨_, ha, rfl, n, rfl⟩
    wp_walk using wpAny_loadPart' ha
    refine wpAny_stack_any fun _ => wpAny_pure ?_
    split
    · rename_i cc _ _ _ _ _
      cases (cc == Value.type "enumerate")
      · wp_walk using wpAny_loadPart' ha, wpAny_pyIter_tuple isT
        exact ⟨_, rfl, hr⟩
      · wp_walk using wpAny_loadPart' ha, wpAny_pyIter_tuple isT
        exact ⟨_, rfl, hr⟩
    · wp_walk using wpAny_loadPart' ha, wpAny_pyIter_tuple isT
      exact ⟨_, rfl, hr⟩
section
variable {prog : Program} {w : World} {A : Around} {E : Value → Shared → Prop} {s : Shared}
theorem enumT_call {a : Addr} {items : Array Value} {Q : Value → Shared → Prop} (ht : s.heap.IsTuple a items)
    (q : ∀ h', IsEnum h' (s.heap.objs.size + 1) s.heap.objs.size 0 .none → h'.IsTupleIter s.heap.objs.size a 0 → (∀ b o, s.heap.get? b = some o → h'.get? b = some o) → Q (.ref (s.heap.objs.size + 1)) { s with heap := h' }) :
    wpAny (model prog w) A (call (.type "enumerate") [.ref a]) Q E s := by
  obtain ⟨⟨c, dct, dt, sl⟩, ha, hc, n, hd⟩ := ht
  have hc' : c = .type "tuple" := hc
  have hd' : dt = .seq items n := hd
  subst hc' hd'
  refine callType_new F.called_enumerate (by decide) (F.typeCall_enumerate_1 _) (F.newCall_enumerate_1 _) (fun ob => F.args_object_init_2 ob _) F.entry_enumerate_new (enumT_new a items n dct sl) ⟨ha, ?_⟩
  have sz : (s.heap.push { cls := .type "tuple_iterator", data := .fields #[.ref a, .int 0 0] }).objs.size = s.heap.objs.size + 1 := Heap.size_push ..
  show _ ∧ _
  rw [sz]
  have he := Heap.get?_push_size (s.heap.push { cls := .type "tuple_iterator", data := .fields #[.ref a, .int 0 0] }) (o := { cls := .type "enumerate", data := .fields #[.none, .bool false, .ref s.heap.objs.size, rawInt 0, .none, .none] }) rfl
  rw [sz] at he
  exact ⟨⟨_, he, rfl⟩, q _ he ⟨_, Heap.get?_push_of_some _ (Heap.get?_push_size _ rfl), rfl, rfl⟩ fun b o x => Heap.get?_push_of_some _ (Heap.get?_push_of_some _ x)⟩
end
/-- the tuple at a, each item in a new pair with its place -/
def IteT (K : PySem.W.Frag) (a : Addr) : It :=
  ⟨fun i H => ∃ xs x, SqT K H a xs ∧ xs[i]? = some x, fun i H v H' => ∃ T x, v = .ref T ∧ H T = none ∧ H' = upd H T (.tup [.int (i : Nat), x]) ∧ ∀ xs, SqT K H a xs → xs[i]? = some x, fun i H => ∃ xs, SqT K H a xs ∧ xs.length ≤ i⟩
theorem turn_enumT {P : Program} {w : World} {K : PySem.W.Frag} {elts : List Expr} {kk : Nat} {tpos : Pos} (a e it : Addr) :
    Turn P w K (.Tuple elts kk tpos) (IteT K a) [e, it] e (fun i h => (∃ old, IsEnum h e it ((i : Nat) : Int) old) ∧ h.IsTupleIter it a i ∧ e ≠ it) where
  mem := List.mem_cons_self
  obj := fun i h st b hb => by
    obtain ⟨⟨old, he⟩, ⟨o, ho, hc, hd⟩, _⟩ := st
    rcases List.mem_cons.mp hb with z | z
    · rw [z]; exact ⟨_, he, fun v q => nomatch q⟩
    · rw [List.mem_singleton.mp z]; exact ⟨o, ho, fun v q => by rw [hd] at q; cases q⟩
  keep := fun i h h' st k => by
    obtain ⟨⟨old, he⟩, hi, hne⟩ := st
    exact ⟨⟨old, k e (by simp) _ he⟩, hi.at fun o q => k it (by simp) o q, hne⟩
  item := by
    intro X hP hw hK hc i pins s σ H E I hf st hg
    subst hP hw hK
    obtain ⟨⟨old, he⟩, hit, hne⟩ := st
    obtain ⟨xs, x, hq, hx⟩ := hg
    obtain ⟨its, rv, p, hz⟩ := I.tuple hq
    obtain ⟨u, hu, ru⟩ := rv.get hx
    have isT : s.heap.IsTuple a its.toArray := p
    have hel : e < s.heap.objs.size := Heap.lt_size he
    have hil : it < s.heap.objs.size := by
      obtain ⟨_, q, _⟩ := hit
      exact Heap.lt_size q
    have nea : e ≠ a := fun z => by
      obtain ⟨o, q, qc, _⟩ := isT
      rw [← z, he] at q
      cases q
      exact absurd (Value.type.inj qc) (by decide)
    have nia : a ≠ it := fun z => by
      obtain ⟨o, q, qc, _⟩ := isT
      obtain ⟨o2, q2, qc2, _⟩ := hit
      rw [z, q2] at q
      cases q
      rw [qc2] at qc
      exact absurd (Value.type.inj qc) (by decide)
    have hi : i < its.toArray.size := by
      have := (List.getElem?_eq_some_iff.mp hu).1
      simpa using this
    refine wpAny_pyNext_enum_itemD (Draws.tuple (A := X.A.in1) (I.ok.hd hc) it a nia its.toArray) he ⟨hit, isT⟩ hi hne (by intro z; rcases List.mem_cons.mp z with y | y; exact hne y; exact nea (List.mem_singleton.mp y)) fun y h' tk hy ho hs hT hsz hk => ?_
    have ey : y = u := by
      have h2 : its.toArray[i]? = some u := by simpa using hu
      rw [h2] at hy
      exact (Option.some.inj hy).symm
    subst ey
    refine ⟨_, rfl, wpAny_letOwnedTupleGo_enum (s := { s with heap := h', toks := tk + 1 }) ho fun h2 he2 sb => ?_⟩
    have hT2 : h2.get? s.heap.objs.size = some { cls := .type "tuple", data := .seq #[.int i tk, y] } := (sb.2 _ (Nat.ne_of_gt hel)).trans hT
    have new : ObjOk X.prog X.w (upd H s.heap.objs.size (.tup [.int (i : Nat), x])) h2 s.heap.objs.size (.tup [.int (i : Nat), x]) :=
      ⟨by show 2 ≤ sizeLine; decide, [.int i tk, y], .cons ⟨_, rfl⟩ (.cons ru .nil), ⟨_, hT2, rfl, _, rfl⟩⟩
    have I2 : Inv X pins σ (upd H s.heap.objs.size (.tup [.int (i : Nat), x])) { s with heap := h2, toks := tk + 1 } :=
      I.turnedNew (ch := [e, it]) (fun b ob hb q => (sb.2 b fun z => hb (by simp [z])).trans (hk b ob (fun z => hb (by simp [z])) (fun z => hb (by simp [z])) q)) hf (Nat.le_refl _) new
    refine ⟨.ref s.heap.objs.size, _, I2, rfl, ⟨_, x, rfl, I.hok.fresh (Nat.le_refl _), rfl, fun ys hys => by rw [I.tuple_inj hys hq]; exact hx⟩, ⟨⟨y, ?_⟩, hs.1.at fun o q => (sb.2 it (Ne.symm hne)).trans q, hne⟩, fun b hb => ?_⟩
    · have e1 : ((i + 1 : Nat) : Int) = (i : Int) + 1 := Int.natCast_succ i
      rw [e1]
      exact he2
    · have hb' : b < s.heap.objs.size := by
        rcases List.mem_cons.mp hb with z | z
        · rw [z]; exact hel
        · rw [List.mem_singleton.mp z]; exact hil
      rw [upd_ne (Nat.ne_of_lt hb')]
      exact (hf b hb).1
  done := by
    intro X hP hw hK hc i pins s σ H E I hf st hg
    subst hP hw hK
    obtain ⟨⟨old, he⟩, hit, hne⟩ := st
    obtain ⟨xs, hq, hx⟩ := hg
    obtain ⟨its, rv, p, hz⟩ := I.tuple hq
    have isT : s.heap.IsTuple a its.toArray := p
    have nia : a ≠ it := fun z => by
      obtain ⟨o, q, qc, _⟩ := isT
      obtain ⟨o2, q2, qc2, _⟩ := hit
      rw [z, q2] at q
      cases q
      rw [qc2] at qc
      exact absurd (Value.type.inj qc) (by decide)
    obtain ⟨f0, f1, f2, f3, f4, f5⟩ := hf it (by simp)
    -- the iterator stands at the end
    have hT : s.TypeIs (.ref e) "enumerate" := ⟨_, he, rfl⟩
    unfold pyNext
    refine wpAny_bind (wpAny_attempt (wpAny_callSpecial?_slot (name := Str.ofString "__next__") hT F.slot_enumerate_next (wpAny_call_entry F.slot_enumerate_next hT F.entry_enumerate_next ?_ (F.args_enumerate_next_1 _))))
    show wpAny _ _ (field (.ref e) 2 >>= _) _ _ _
    refine wpAny_bind (wpAny_field he rfl (x := .ref it) rfl ?_)
    have hend : its.toArray[i]? = none := by
      have := rv.length
      simp only [List.getElem?_toArray]
      exact List.getElem?_eq_none (by omega)
    refine wpAny_bind (wpAny_nextOf_tuple_end (A := X.A.in1) (I.ok.hd hc) hit isT hend fun h' y hx' hy => ?_)
    obtain ⟨o, ho, hcl⟩ := hy
    refine wpAny_bind (wpAny_isInstance (T := "StopIteration") (b := true) ⟨o, ho, hcl⟩ isSubtype_stop ?_)
    exact wpAny_pure ⟨rfl, I.turned (t' := s.toks) (fun b o hb q => hx' b o hb q) f0 f1 f3 f4 f5⟩
  self := fun A i s Q E st h => let ⟨⟨_, he⟩, _⟩ := st; wpAny_pyIter_enum he h
def iEnumT (K : PySem.W.Frag) (ta : TA) : TI := fun σ H R => ta σ H fun vs H1 => ∃ a xs, vs = [.ref a] ∧ SqT K H1 a xs ∧ R (IteT K a) H1
theorem pi_enumT {X : Cx} {e : Expr} {ta : TA} {p pos tpos : Pos} {elts : List Expr} {kk : Nat} (hg : Gl X "enumerate") (hm : X.mg "enumerate" = none) (ha : PA X [e] ta) (hs : starEach [e] X.env = [(false, eval e X.env)] := by rfl) : PI X (.Tuple elts kk tpos) (.Call (.Name "enumerate" p) [e] [] pos) (iEnumT X.K ta) := by
  refine ⟨fun pins s σ H R I h => ?_⟩
  refine Call_ (ld_blt I hg hm boot_enumerate (PyProof.Rows.callWith_type1 (thn (ha.run pos pins s σ H _ I h) fun us s1 ⟨vs, H1, I1, r1, q1⟩ => ?_) hs rfl))
  obtain ⟨a, xs, ex, hq, q⟩ := q1
  subst ex
  rw [Vals.ref1 r1]
  obtain ⟨its, rv, p2, hz⟩ := I1.tuple hq
  refine enumT_call (show s1.heap.IsTuple a its.toArray from p2) fun h' he hit hk => wpAny_pyIter_enum he ?_
  have I2 : Inv X pins σ H1 { s1 with heap := h' } := I1.kept (t' := s1.toks) hk
  have hle : ∀ b, b ∈ [s1.heap.objs.size + 1, s1.heap.objs.size] → s1.heap.objs.size ≤ b := fun b hb => by
    rcases List.mem_cons.mp hb with z | z
    · rw [z]; exact Nat.le_succ _
    · rw [List.mem_singleton.mp z]; exact Nat.le_refl _
  exact ⟨s1.heap.objs.size + 1, [s1.heap.objs.size + 1, s1.heap.objs.size], _, _, H1, rfl, I2, turn_enumT a (s1.heap.objs.size + 1) s1.heap.objs.size, ⟨⟨.none, he⟩, hit, Nat.succ_ne_self _⟩, fun b hb => I1.fpOk (hle b hb) (I1.hok.fresh (hle b hb)), q⟩
/-- the items with their places -/
def enumL : Nat → List D → List D
  | _, [] => []
  | n, d :: ds => .tup [.int (n : Nat), d] :: enumL (n + 1) ds
theorem enumL_get : ∀ {ds : List D} {n i : Nat} {d : D}, (enumL n ds)[i]? = some d → ∃ x, ds[i]? = some x ∧ d = .tup [.int ((n + i : Nat) : Int), x]
  | [], _, _, _, h => by cases h
  | x :: ds, n, 0, d, h => ⟨x, rfl, (Option.some.inj h).symm⟩
  | x :: ds, n, i + 1, d, h => by
    obtain ⟨y, h1, h2⟩ := enumL_get (ds := ds) (n := n + 1) (i := i) h
    exact ⟨y, h1, by rw [h2, Nat.add_right_comm]; rfl⟩
theorem enumL_len : ∀ (ds : List D) (n : Nat), (enumL n ds).length = ds.length
  | [], _ => rfl
  | _ :: ds, n => by rw [List.length_cons, ← enumL_len ds (n + 1)]; rfl
section
variable {X : Cx} {W : WX} {e : Expr} {f : DE} {elts : List Expr} {kk : Nat} {p pos tpos : Pos}
def iEnum (f : DE) : DI := fun env S => (f env S).bind fun d S1 => lift ((itemsOf d).map (enumL 0)) S1
theorem newPair {r t : List Addr} {H : Hp} {S : Sto} {x : V} {d : D} {T : Addr} {i : Nat} (so : SOk X.K X.mg H r t S) (hT : H T = none) (dx : Den X.K H r t x d) :
    Ext r H r (upd H T (.tup [.int (i : Int), x])) ∧ SOk X.K X.mg (upd H T (.tup [.int (i : Int), x])) r t S ∧ Den X.K (upd H T (.tup [.int (i : Int), x])) r t (.ref T) (.tup [.int (i : Int), d]) :=
  ⟨Ext.new hT, so.new hT, .tup upd_same (.cons (.int _) (.cons (Den.ext (Ext.new hT) _ _ dx) .nil))⟩
theorem walk_enumT {a : Addr} {ds : List D} : Walk X (IteT X.K a) [(.ref a, .tup ds)] (enumL 0 ds) := by
  intro i r t H S so tok
  have h := tok _ List.mem_cons_self
  cases h with
  | @tup a xs ds h0 z =>
    have h1 : SqT X.K H a xs := sqT_of h0
    refine ⟨fun e => ⟨xs, h1, by rw [z.length, e, enumL_len]; exact Nat.le_refl _⟩, fun d hd => ?_⟩
    obtain ⟨y, hy, ed⟩ := enumL_get hd
    obtain ⟨v, hv, dv⟩ := z.get hy
    refine ⟨⟨xs, v, h1, hv⟩, fun x H' yl => ?_⟩
    obtain ⟨T, x2, ev, hT, eH, hx⟩ := yl
    have ex := Option.some.inj (hv.symm.trans (hx xs h1))
    subst ev eH ex ed
    rw [Nat.zero_add]
    exact newPair so hT dv
theorem walk_enumL {a : Addr} {d0 : D} {ds : List D} (hd0 : d0 = .lst ds ∨ d0 = .fz ds) : Walk X (Ite X.K a) [(.ref a, d0)] (enumL 0 ds) := by
  intro i r t H S so tok
  have h := tok _ List.mem_cons_self
  obtain ⟨xs, h1, z⟩ : ∃ xs, SqL X.K H a xs ∧ DenL X.K H r t xs ds := by
    rcases hd0 with e | e
    · subst e
      cases h with
      | lst h1 n m z => exact ⟨_, .inl (.inl h1), z⟩
    · subst e
      cases h with
      | fz h1 z => exact ⟨_, h1.sq, z⟩
  refine ⟨fun e => ⟨xs, h1, by rw [z.length, e, enumL_len]; exact Nat.le_refl _⟩, fun d hd => ?_⟩
  obtain ⟨y, hy, ed⟩ := enumL_get hd
  obtain ⟨v, hv, dv⟩ := z.get hy
  refine ⟨⟨xs, v, h1, hv⟩, fun x H' yl => ?_⟩
  obtain ⟨T, x2, ev, hT, eH, hx⟩ := yl
  have ex := Option.some.inj (hv.symm.trans (hx xs h1))
  subst ev eH ex ed
  rw [Nat.zero_add]
  exact newPair so hT dv
theorem di_enum (hg : Gl X "enumerate") (hm : X.mg "enumerate" = none) (he : PE X e (tE X W f)) (hs1 : starEach [e] X.env = (false, eval e X.env) :: starEach [] X.env := by rfl) (hs : starEach [e] X.env = [(false, eval e X.env)] := by rfl) : PI X (.Tuple elts kk tpos) (.Call (.Name "enumerate" p) [e] [] pos) (tI X W (iEnum f)) := by
  refine PI.imp (PI.or (pi_enumT hg hm (pa_cons he pa_nil hs1) hs) (pi_enum hg hm (pa_cons he pa_nil hs1) hs)) fun σ H R q => ?_
  obtain ⟨r, t, S, env, rel, g⟩ := q
  unfold iEnum at g
  cases h : f env S with
  | bad => rw [h] at g; exact (show False from g).elim
  | exc c S1 =>
    rw [h, Out.bind_exc] at g
    refine .inl ⟨r, t, S, env, rel, ?_⟩
    rw [h]
    exact g
  | ok d S1 =>
    rw [h, Out.bind_ok] at g
    obtain ⟨ds, e1, g1⟩ := g.lift
    cases d with
    | tup es =>
      cases e1
      refine .inl ⟨r, t, S, env, rel, ?_⟩
      rw [h]
      intro H1 r1 ex so v dv
      cases dv with
      | tup h1 z => exact ⟨_, _, rfl, sqT_of h1, g1 H1 r1 ex so _ _ walk_enumT (by intro p hp; have ep := List.mem_singleton.mp hp; subst ep; exact .tup h1 z)⟩
    | lst es =>
      cases e1
      refine .inr ⟨r, t, S, env, rel, ?_⟩
      rw [h]
      intro H1 r1 ex so v dv
      cases dv with
      | lst h1 n m z => exact ⟨_, _, rfl, .inl (.inl h1), g1 H1 r1 ex so _ _ (walk_enumL (.inl rfl)) (by intro p hp; have ep := List.mem_singleton.mp hp; subst ep; exact .lst h1 n m z)⟩
    | fz es =>
      cases e1
      refine .inr ⟨r, t, S, env, rel, ?_⟩
      rw [h]
      intro H1 r1 ex so v dv
      cases dv with
      | fz h1 z => exact ⟨_, _, rfl, h1.sq, g1 H1 r1 ex so _ _ (walk_enumL (.inr rfl)) (by intro p hp; have ep := List.mem_singleton.mp hp; subst ep; exact .fz h1 z)⟩
    | _ => cases e1
end
end DL
end L2

set_option Elab.async false
set_option linter.all false
set_option maxRecDepth 100000
namespace L2
namespace DL
open PySem PySem.Spec PyProof.Rows

/-! ### texts that stand alone, what is never reached -/
def sNop : DS := fun env S => .ok (.nx, env) S
section
variable {X : Cx} {E : XK} {pos pos' : Pos}
theorem dts_one {W : WX} {c : Expr} {tt : DB} (h : PT X c (tB' X W tt)) : PTs X [c] (tB' X W tt) := pts_one h
end

/-! ### constants of the module -/
def GlobIs (K : PySem.W.Frag) (mg : Str → Option Value) (x : Str) (d : D) : Prop := ∃ v u, mg x = some u ∧ RelV v u ∧ ∀ H r t, Den K H r t v d
section
variable {K : PySem.W.Frag} {h : Heap} {mg : Str → Option Value} {x : Str} {tk : Tok}
theorem glob_int {i : Int} (X : K.In h) (G : h.Ns mainGlobals mg) (e : PySem.W.nsIn K mainGlobals x = some (some (.int i tk))) : GlobIs K mg x (.int i) :=
  ⟨.int i, _, PySem.W.mg_of X G e, ⟨_, rfl⟩, fun _ _ _ => .int i⟩
theorem glob_str {z : Str} (X : K.In h) (G : h.Ns mainGlobals mg) (e : PySem.W.nsIn K mainGlobals x = some (some (.str z tk))) : GlobIs K mg x (.str z) :=
  ⟨.str z, _, PySem.W.mg_of X G e, ⟨_, rfl⟩, fun _ _ _ => .str z⟩
theorem de_globI {X : Cx} {W : WX} {d : D} {pos : Pos} (g : GlobIs X.K X.mg x d) (hg : Gl X x := by rfl) (hb : (x == ("__debug__" : Str)) = false := by decide) : PE X (.Name x pos) (tE X W (dC d)) := by
  obtain ⟨v, u, h1, h2, h3⟩ := g
  exact de_glob hg h1 h2 h3 hb
end

/-! ### in: flat things in a row of flat things; a sign in a text -/
def flD : D → Option V
  | .non => some .non
  | .bl b => some (.bl b)
  | .int i => some (.int i)
  | .str x => some (.str x)
  | _ => none
def flDL : List D → Option (List V)
  | [] => some []
  | d :: ds => match flD d, flDL ds with
    | some v, some vs => some (v :: vs)
    | _, _ => none
section
variable {K : PySem.W.Frag} {H : Hp} {r t : List Addr}
theorem flD_ok {d : D} {v u : V} (dv : Den K H r t v d) (h : flD d = some u) : v = u ∧ flatV u = true := by
  cases dv <;> first | (cases h; exact ⟨rfl, rfl⟩) | cases h
theorem flDL_ok : ∀ {ds : List D} {vs us : List V}, DenL K H r t vs ds → flDL ds = some us → vs = us ∧ us.all flatV = true
  | [], _, _, .nil, h => by cases h; exact ⟨rfl, rfl⟩
  | d :: ds, _, _, .cons h1 h2, h => by
    unfold flDL at h
    split at h
    · rename_i u us e1 e2
      cases h
      obtain ⟨a1, a2⟩ := flD_ok h1 e1
      obtain ⟨b1, b2⟩ := flDL_ok h2 e2
      subst a1 b1
      exact ⟨rfl, by rw [List.all_cons, a2, b2]; rfl⟩
    · cases h
end
def seqOf (S : Sto) : D → Option (List D)
  | .tup ds => some ds
  | d => listOf S d
def oInF (neg : Bool) : Sto → D → D → Option D := fun S x y => match flD x, seqOf S y with
  | some u, some ds => (flDL ds).map fun us => .bl (if neg then !inV u us else inV u us)
  | _, _ => none
def signOf (x : Str) : Option Nat := match x.cps.toList with
  | [c] => some c
  | _ => none
theorem signOf_ok {x : Str} {c : Nat} (h : signOf x = some c) : x = ⟨#[c]⟩ := by
  unfold signOf at h
  split at h
  · rename_i e
    cases h
    cases x with
    | mk a =>
      have e2 : a = #[c] := by
        have h3 : a.toList = [c] := e
        have := congrArg List.toArray h3
        simpa using this
      rw [e2]
  · cases h
def oInS (neg : Bool) : Sto → D → D → Option D := fun _ x y => match x, y with
  | .str a, .str z => (signOf a).map fun c => .bl (neg ^^ decide (c ∈ z.cps.toList))
  | _, _ => none
section
variable {X : Cx}
theorem seq_ok {K : PySem.W.Frag} {mg : Str → Option Value} {H : Hp} {r t : List Addr} {S : Sto} {d : D} {v : V} {ds : List D} (so : SOk K mg H r t S) (dv : Den K H r t v d) (h : seqOf S d = some ds) : ∃ a xs, v = .ref a ∧ (SqL K H a xs ∨ SqT K H a xs) ∧ DenL K H r t xs ds := by
  cases dv with
  | tup h1 z => cases h; exact ⟨_, _, rfl, .inr (sqT_of h1), z⟩
  | lst h1 n m z => obtain ⟨a, xs, e1, e2, e3⟩ := list_ok so (.lst h1 n m z) h; exact ⟨a, xs, e1, .inl e2, e3⟩
  | fz h1 z => obtain ⟨a, xs, e1, e2, e3⟩ := list_ok so (.fz h1 z) h; exact ⟨a, xs, e1, .inl e2, e3⟩
  | ref h1 => obtain ⟨a, xs, e1, e2, e3⟩ := list_ok so (.ref h1) h; exact ⟨a, xs, e1, .inl e2, e3⟩
  | _ => cases h
theorem od_inF' {neg : Bool} {r t : List Addr} {S : Sto} {H : Hp} {x y : D} {v u : V} {d : D} {Q : VK} (so : SOk X.K X.mg H r t S) (dx : Den X.K H r t v x) (dy : Den X.K H r t u y) (e : oInF neg S x y = some d)
    (q : ∀ w H', Ext r H r H' → SOk X.K X.mg H' r t S → Den X.K H' r t w d → Q w H') : rIn X.K neg v u H Q := by
  unfold oInF at e
  split at e
  · rename_i a ds e1 e2
    obtain ⟨us, e3, e4⟩ := Option.map_eq_some_iff.mp e
    subst e4
    obtain ⟨p, xs, ev, hs, z⟩ := seq_ok so dy e2
    obtain ⟨ex, fx⟩ := flD_ok dx e1
    obtain ⟨es, fs⟩ := flDL_ok z e3
    subst ex es
    exact ⟨p, xs, ev, hs, fx, fs, q _ _ (Ext.refl _ _) so (.bl _)⟩
  · cases e
theorem od_inF : OpD X (compareOp .In) (oInF false) := ⟨_, op_in_seq, fun r t S H x y v u d Q so dx dy e q => od_inF' so dx dy e q⟩
theorem od_notInF : OpD X (compareOp .NotIn) (oInF true) := ⟨_, op_notIn_seq, fun r t S H x y v u d Q so dx dy e q => od_inF' so dx dy e q⟩
theorem od_inS : OpD X (compareOp .In) (oInS false) := by
  refine ⟨_, op_in_sign, fun r t S H x y v u d Q so dx dy e q => ?_⟩
  unfold oInS at e
  split at e
  · rename_i a z
    obtain ⟨c, e1, e2⟩ := Option.map_eq_some_iff.mp e
    subst e2
    cases dx
    cases dy
    rw [signOf_ok e1]
    refine ⟨c, z, rfl, rfl, q _ _ (Ext.refl _ _) so ?_⟩
    rw [Bool.false_xor]
    exact .bl _
  · cases e
theorem od_notInS : OpD X (compareOp .NotIn) (oInS true) := by
  refine ⟨_, op_notIn_sign, fun r t S H x y v u d Q so dx dy e q => ?_⟩
  unfold oInS at e
  split at e
  · rename_i a z
    obtain ⟨c, e1, e2⟩ := Option.map_eq_some_iff.mp e
    subst e2
    cases dx
    cases dy
    rw [signOf_ok e1]
    refine ⟨c, z, rfl, rfl, q _ _ (Ext.refl _ _) so ?_⟩
    rw [Bool.true_xor]
    exact .bl _
  · cases e
def oIn (neg : Bool) : Sto → D → D → Option D := orO (oInF neg) (orO (oInD neg) (oInS neg))
theorem od_in (hu : X.A.units + 65 < cLine) : OpD X (compareOp .In) (oIn false) := od_inF.or ((od_inD hu).or od_inS)
theorem od_notIn (hu : X.A.units + 65 < cLine) : OpD X (compareOp .NotIn) (oIn true) := od_notInF.or ((od_notInD hu).or od_notInS)
end

/-! ### sorted -/
def sortI (ns : List Int) : List Int := ns.mergeSort fun a b => decide (a ≤ b)
theorem sortI_perm (ns : List Int) : (sortI ns).Perm ns := List.mergeSort_perm ..
theorem sortI_pair (ns : List Int) : (sortI ns).Pairwise (· ≤ ·) := by
  have h := List.pairwise_mergeSort (le := fun a b : Int => decide (a ≤ b)) (fun a b c h1 h2 => by simp only [decide_eq_true_eq] at *; omega) (fun a b => by simp only [Bool.or_eq_true, decide_eq_true_eq]; omega) ns
  exact h.imp fun h => of_decide_eq_true h
theorem sortI_only {ns ns' : List Int} (h : ns'.Perm ns) (hp : ns'.Pairwise (· ≤ ·)) : ns' = sortI ns :=
  List.Perm.eq_of_pairwise (fun a b _ _ h1 h2 => by omega) hp (sortI_pair ns) (h.trans (sortI_perm ns).symm)
section
variable {X : Cx}
end
section
variable {X : Cx}
end

/-! ### new lists that will be changed -/
structure CallN (X : Cx) (f : Value) (o : Sto → List D → Option (List D)) : Prop where
  ex : ∃ rr : List V → Hp → VK → Prop, CallR X f rr ∧ ∀ r t S H ds vs es (Q : VK), SOk X.K X.mg H r t S → DenL X.K H r t vs ds → o S ds = some es →
    (∀ p xs, H p = none → DenL X.K H r t xs es → Q (.ref p) (upd H p (.lst xs))) → rr vs H Q
def dCallN (o : Sto → List D → Option (List D)) (fs : DA) : DE := fun env S => (fs env S).bind fun ds S1 => match o S1 ds with
  | some es => .ok (.ref S1.length) (S1 ++ [.lst es])
  | none => .bad
section
variable {X : Cx} {W : WX} {e : Expr} {es : List Expr} {fs : DA} {pos : Pos}
theorem de_callTyN {T : String} {x : Str} {p : Pos} {o : Sto → List D → Option (List D)} (hc : CallN X (.type T) o) (hg : Gl X x) (hm : X.mg x = none) (hv : bootBuiltins x = some (.type T)) (ha : PA X (e :: es) (tA X W fs)) (hn : x ≠ "__name__" := by decide) (hdb : (x == ("__debug__" : Str)) = false := by decide)
    (he : starEach (e :: es) X.env = (false, eval e X.env) :: starEach es X.env := by rfl) (hpl : (backTo pos (starEach es X.env)).any (·.1) = false := by rfl) : PE X (.Call (.Name x p) (e :: es) [] pos) (tE X W (dCallN o fs)) := by
  obtain ⟨rr, h, k⟩ := hc
  refine PE.imp (pe_callTy h hg hm hv ha hn hdb he hpl) fun σ H Q q => ?_
  obtain ⟨r, t, S, env, rel, g⟩ := q
  refine ⟨r, t, S, env, rel, g.bind.mono fun ds S1 r1 H1 ex so g1 vs dvs => ?_⟩
  split at g1
  · rename_i es1 e1
    refine k r1 t S1 H1 ds vs es1 Q so dvs e1 fun p xs hp z => ?_
    obtain ⟨so2, d2⟩ := growL so hp z
    exact g1 _ _ (Ext.grow hp) so2 _ d2
  · exact (show False from g1).elim
def oListN : Sto → List D → Option (List D) := fun S ds => match ds with
  | [d] => seqOf S d
  | _ => none
theorem cn_list : CallN X (.type "list") oListN := by
  refine ⟨_, call_list_of, fun r t S H ds vs es Q so dv e q => ?_⟩
  unfold oListN at e
  split at e
  · cases dv with
    | cons d1 d2 =>
      cases d2
      obtain ⟨a, xs, ev, hs, z⟩ := seq_ok so d1 e
      exact ⟨a, xs, by rw [ev], hs, fun l hl => q l xs hl z⟩
  · cases e
/-- xs + ys -/
def dAddN (fa fb : DE) : DE := fun env S => (fa env S).bind fun x S1 => (fb env S1).bind fun y S2 => match lstOf S2 x, lstOf S2 y with
  | some a, some b => if a.length + b.length ≤ sizeLine then .ok (.ref S2.length) (S2 ++ [.lst (a ++ b)]) else .bad
  | _, _ => .bad
theorem de_addN {a b : Expr} {fa fb : DE} (ha : PE X a (tE X W fa)) (hb : PE X b (tE X W fb)) : PE X (.BinOp a .Add b pos) (tE X W (dAddN fa fb)) := by
  refine PE.imp (pe_op op_cat ha hb) fun σ H Q q => tE_two q fun r t S env x y v u H' rel dx dy g => ?_
  split at g
  · rename_i as bs ea eb
    obtain ⟨p, xs, rfl, h1, z1⟩ := lst_ok rel.so dx ea
    obtain ⟨p2, ys, rfl, h2, z2⟩ := lst_ok rel.so dy eb
    obtain ⟨hl, g2⟩ := g.ite
    refine ⟨p, p2, xs, ys, rfl, rfl, h1, h2, by rw [z1.length, z2.length]; exact hl, fun n hn => ?_⟩
    obtain ⟨so2, d2⟩ := growL rel.so hn (z1.append z2)
    exact g2 _ _ (Ext.grow hn) so2 _ d2
  · exact (show False from g).elim
end
end DL
end L2

set_option Elab.async false
set_option linter.all false
set_option maxRecDepth 100000
namespace L2
namespace DL
open PySem PySem.Spec PyProof.Rows

/-! ### what an outcome comes to, by what is wanted of it -/
structure Wp {A : Type} (m : Out A) (P : A → Sto → Prop) : Prop where
  get : ∃ a S, m = .ok a S ∧ P a S
section
variable {A B : Type} {m : Out A} {P Q : A → Sto → Prop} {S : Sto}
theorem wp_ok (a : A) (S : Sto) (P : A → Sto → Prop) : Wp (.ok a S) P = P a S := propext ⟨fun h => by obtain ⟨b, T, e, p⟩ := h.get; cases e; exact p, fun p => ⟨a, S, rfl, p⟩⟩
theorem wp_no {m : Out A} {P : A → Sto → Prop} (h : ∀ a S, m ≠ .ok a S) : Wp m P = False := propext ⟨fun w => by obtain ⟨a, S, e, _⟩ := w.get; exact h a S e, fun f => f.elim⟩
theorem wp_bind (m : Out A) (k : A → Sto → Out B) (P : B → Sto → Prop) : Wp (m.bind k) P = Wp m fun a S => Wp (k a S) P := by
  cases m with
  | ok a S => rw [Out.bind_ok, wp_ok]
  | exc c S => rw [wp_no (by intro a S h; cases h), wp_no (by intro a S h; cases h)]
  | bad => rw [wp_no (by intro a S h; cases h), wp_no (by intro a S h; cases h)]
theorem wp_noexc (m : Out A) (P : A → Sto → Prop) : Wp (noexc m) P = Wp m P := by
  cases m with
  | ok a S => rfl
  | exc c S => rw [wp_no (by intro a S h; cases h), wp_no (by intro a S h; cases h)]
  | bad => rfl
theorem Wp.mono (h : Wp m P) (k : ∀ a S, P a S → Q a S) : Wp m Q := by
  obtain ⟨a, S, e, p⟩ := h.get
  exact ⟨a, S, e, k a S p⟩
theorem Wp.of {a : A} (h : m = .ok a S) (p : P a S) : Wp m P := ⟨a, S, h, p⟩
end
/-- a comprehension, item by item -/
theorem compGo_wp {g : DG} {env : Ev} {tt : DB} {te : DE} {P : List D → Sto → Prop} (I : List D → List D → Sto → Prop) : ∀ (ds acc : List D) (S : Sto), I ds acc S →
    (∀ d rest acc S, I (d :: rest) acc S → ∃ env', g env d = some env' ∧ Wp (tt env' S) fun b S1 => if b = true then Wp (te env' S1) fun y S2 => acc.length < sizeLine ∧ I rest (acc ++ [y]) S2 else I rest acc S1) →
    (∀ acc S, I [] acc S → P acc S) → Wp (compGo g env tt te ds acc S) P
  | [], acc, S, h, _, hf => Wp.of rfl (hf acc S h)
  | d :: ds, acc, S, h, hs, hf => by
    obtain ⟨env', e1, w⟩ := hs d ds acc S h
    unfold compGo
    rw [e1]
    dsimp only
    rw [wp_bind, wp_noexc]
    refine w.mono fun b S1 q => ?_
    cases b with
    | false => exact compGo_wp I ds acc S1 q hs hf
    | true =>
      rw [if_pos rfl, wp_bind, wp_noexc]
      refine Wp.mono (if_pos rfl ▸ q) fun y S2 q2 => ?_
      rw [if_pos q2.1]
      exact compGo_wp I ds (acc ++ [y]) S2 q2.2 hs hf
/-- .. each item to one that stands so to it -/
inductive All2 {A B : Type} (R : A → B → Prop) : List A → List B → Prop
  | nil : All2 R [] []
  | cons {a : A} {b : B} {as : List A} {bs : List B} : R a b → All2 R as bs → All2 R (a :: as) (b :: bs)
theorem All2.length {A B : Type} {R : A → B → Prop} : ∀ {as : List A} {bs : List B}, All2 R as bs → as.length = bs.length
  | _, _, .nil => rfl
  | _, _, .cons _ h => congrArg Nat.succ h.length
theorem All2.snoc {A B : Type} {R : A → B → Prop} {a : A} {b : B} (h : R a b) : ∀ {as : List A} {bs : List B}, All2 R as bs → All2 R (as ++ [a]) (bs ++ [b])
  | _, _, .nil => .cons h .nil
  | _, _, .cons h1 h2 => .cons h1 (h2.snoc h)
theorem All2.mono {A B : Type} {R R' : A → B → Prop} (k : ∀ a b, R a b → R' a b) : ∀ {as : List A} {bs : List B}, All2 R as bs → All2 R' as bs
  | _, _, .nil => .nil
  | _, _, .cons h1 h2 => .cons (k _ _ h1) (h2.mono k)
theorem All2.right {A B : Type} {R : A → B → Prop} {p : B → Prop} (k : ∀ a b, R a b → p b) : ∀ {as : List A} {bs : List B}, All2 R as bs → ∀ b ∈ bs, p b
  | _, _, .nil, _, h => by cases h
  | _, _, .cons h1 h2, b, h => by
    rcases List.mem_cons.mp h with e | e
    · rw [e]; exact k _ _ h1
    · exact h2.right k b e
theorem compGo_each {g : DG} {env : Ev} {te : DE} {P : List D → Sto → Prop} (I : Sto → Prop) (R : D → D → Prop) {ds : List D} {S : Sto} (hI : I S) (hl : ds.length ≤ sizeLine)
    (hs : ∀ d ∈ ds, ∀ S, I S → ∃ env', g env d = some env' ∧ Wp (te env' S) fun y S' => I S' ∧ R d y) (hf : ∀ ys S', All2 R ds ys → I S' → P ys S') : Wp (compGo g env bYes te ds [] S) P := by
  refine compGo_wp (fun rest acc S => ∃ done, ds = done ++ rest ∧ All2 R done acc ∧ I S) ds [] S ⟨[], rfl, .nil, hI⟩ (fun d rest acc S h => ?_) fun acc S h => ?_
  · obtain ⟨done, e, a, i⟩ := h
    obtain ⟨env', e1, w⟩ := hs d (by rw [e]; exact List.mem_append_right _ List.mem_cons_self) S i
    refine ⟨env', e1, ?_⟩
    show Wp (Out.ok true S) _
    rw [wp_ok, if_pos rfl]
    refine w.mono fun y S' q => ⟨?_, done ++ [d], by rw [e, List.append_assoc]; rfl, a.snoc q.2, q.1⟩
    rw [e, List.length_append, List.length_cons, a.length] at hl
    omega
  · obtain ⟨done, e, a, i⟩ := h
    rw [List.append_nil] at e
    subst e
    exact hf acc S a i
/-- a pure one with a test -/
theorem compGo_filter {g : DG} {env : Ev} {tt : DB} {te : DE} {P : List D → Sto → Prop} (p : D → Bool) (f : D → D) {ds : List D} {S : Sto} (hl : ds.length ≤ sizeLine)
    (hs : ∀ d ∈ ds, ∃ env', g env d = some env' ∧ Wp (tt env' S) (fun b S' => S' = S ∧ b = p d) ∧ (p d = true → Wp (te env' S) fun y S' => S' = S ∧ y = f d)) (hf : P ((ds.filter p).map f) S) : Wp (compGo g env tt te ds [] S) P := by
  refine compGo_wp (fun rest acc S' => ∃ done, ds = done ++ rest ∧ S' = S ∧ acc = (done.filter p).map f) ds [] S ⟨[], rfl, rfl, rfl⟩ (fun d rest acc S' h => ?_) fun acc S' h => ?_
  · obtain ⟨done, e, eS, a⟩ := h
    subst eS
    obtain ⟨env', e1, w, w2⟩ := hs d (by rw [e]; exact List.mem_append_right _ List.mem_cons_self)
    refine ⟨env', e1, w.mono fun b S1 q => ?_⟩
    obtain ⟨eS, eb⟩ := q
    subst eS
    cases hb : p d with
    | true =>
      rw [eb, hb, if_pos rfl]
      refine (w2 hb).mono fun y S2 q2 => ⟨?_, done ++ [d], by rw [e, List.append_assoc]; rfl, q2.1, ?_⟩
      · rw [e, List.length_append, List.length_cons] at hl
        have := List.length_filter_le p done
        rw [a, List.length_map]
        omega
      · rw [q2.2, a, List.filter_append, List.map_append, List.filter_cons, if_pos hb]; rfl
    | false =>
      rw [eb, hb, if_neg Bool.false_ne_true]
      refine ⟨done ++ [d], by rw [e, List.append_assoc]; rfl, rfl, ?_⟩
      rw [a, List.filter_append, List.map_append, List.filter_cons, if_neg (by rw [hb]; exact Bool.false_ne_true)]
      simp
  · obtain ⟨done, e, eS, a⟩ := h
    rw [List.append_nil] at e
    subst e eS a
    exact hf
theorem compGo_pure {g : DG} {env : Ev} {te : DE} {P : List D → Sto → Prop} (f : D → D) {ds : List D} {S : Sto} (hl : ds.length ≤ sizeLine)
    (hs : ∀ d ∈ ds, ∃ env', g env d = some env' ∧ Wp (te env' S) fun y S' => S' = S ∧ y = f d) (hf : P (ds.map f) S) : Wp (compGo g env bYes te ds [] S) P := by
  refine compGo_filter (fun _ => true) f hl (fun d hd => ?_) ?_
  · obtain ⟨env', e1, w⟩ := hs d hd
    exact ⟨env', e1, Wp.of rfl ⟨rfl, rfl⟩, fun _ => w⟩
  · rw [List.filter_eq_self.mpr (fun _ _ => rfl)]
    exact hf
/-- a loop, by what stands ahead of each turn -/
theorem forGo_wp {g : DG} {b : DS} {P : Fl × Ev → Sto → Prop} (I : List D → Ev → Sto → Prop) : ∀ (ds : List D) (env : Ev) (S : Sto), I ds env S →
    (∀ d rest env S, I (d :: rest) env S → ∃ env1, g env d = some env1 ∧ Wp (b env1 S) fun p S' => match p.1 with | .nx => I rest p.2 S' | .ct => I rest p.2 S' | .bk => P (.nx, p.2) S' | .rt v => P (.rt v, p.2) S') →
    (∀ env S, I [] env S → P (.nx, env) S) → Wp (forGo g b ds env S) P
  | [], env, S, h, _, hf => Wp.of rfl (hf env S h)
  | d :: ds, env, S, h, hs, hf => by
    obtain ⟨env1, e1, w⟩ := hs d ds env S h
    unfold forGo
    rw [e1]
    dsimp only
    rw [wp_bind]
    refine w.mono fun p S' q => ?_
    obtain ⟨fl, env2⟩ := p
    cases fl with
    | nx => exact forGo_wp I ds env2 S' q hs hf
    | ct => exact forGo_wp I ds env2 S' q hs hf
    | bk => exact Wp.of rfl q
    | rt v => exact Wp.of rfl q
/-- while, by what falls -/
theorem whGo_wp {c : DB} {b : DS} {P : Fl × Ev → Sto → Prop} (I : Nat → Ev → Sto → Prop) : ∀ (n m : Nat) (env : Ev) (S : Sto), m < n → I m env S →
    (∀ m env S, I m env S → Wp (c env S) fun k S1 => if k = true then Wp (b env S1) fun p S' => match p.1 with | .nx => ∃ j, j < m ∧ I j p.2 S' | .ct => ∃ j, j < m ∧ I j p.2 S' | .bk => P (.nx, p.2) S' | .rt v => P (.rt v, p.2) S' else P (.nx, env) S1) →
    Wp (whGo c b n env S) P
  | 0, m, env, S, hl, _, _ => by omega
  | n + 1, m, env, S, hl, h, hs => by
    unfold whGo
    rw [wp_bind]
    refine (hs m env S h).mono fun k S1 q => ?_
    cases k with
    | false => exact Wp.of rfl q
    | true =>
      rw [if_pos rfl] at q ⊢
      rw [wp_bind]
      refine q.mono fun p S' z => ?_
      obtain ⟨fl, env2⟩ := p
      cases fl with
      | nx => obtain ⟨j, hj, i⟩ := z; exact whGo_wp I n j env2 S' (by omega) i hs
      | ct => obtain ⟨j, hj, i⟩ := z; exact whGo_wp I n j env2 S' (by omega) i hs
      | bk => exact Wp.of rfl z
      | rt v => exact Wp.of rfl z
theorem wp_append {fo fa : DE} {env : Ev} {S S1 : Sto} {n : Nat} {ds : List D} {P : D → Sto → Prop} (h1 : fo env S = .ok (.ref n) S1) (hl : S1[n]? = some (.lst ds)) (h2 : Wp (fa env S1) fun y S2 => ∃ es, S2[n]? = some (.lst es) ∧ es.length < sizeLine ∧ P .non (S2.set n (.lst (es ++ [y])))) : Wp (dAppend fo fa env S) P := by
  obtain ⟨y, S2, e, es, k1, k2, k3⟩ := h2.get
  exact Wp.of (append_ref h1 hl e k1 k2) k3

/-! ### step by step: what is wanted behind each step, without a binder in sight -/
section
variable {A B : Type} {X : Cx} {W : WX} {env : Ev} {S : Sto} {x y d : D} {ds : List D} {P : D → Sto → Prop} {PB : Bool → Sto → Prop} {PA : List D → Sto → Prop} {PF : Fl × Ev → Sto → Prop} {PO : Option Int → Sto → Prop} {fa fb fc fe fo fi : DE} {ta tb tc tt : DB} {fs : DA} {f g b : DS} {gg : DG} {it : DI} {fl : Fl} {i n : Nat}
theorem wps {A : Type} (a : A) (S : Sto) (Q : A → Sto → Prop) : Wp (lift (some a) S) Q = Q a S := by first | rfl | exact wp_ok _ _ _
theorem w_C : Wp (dC d env S) P = P d S := by first | rfl | exact wp_ok _ _ _
def kVar (o : Option (Option D)) (P : D → Sto → Prop) (S : Sto) : Prop := match o with | some (some d) => P d S | _ => False
theorem w_Var : Wp (dVar i env S) P = kVar env[i]? P S := by
  unfold dVar kVar
  cases env[i]? with
  | none => exact wp_no (by intro a S h; cases h)
  | some o =>
    cases o with
    | none => exact wp_no (by intro a S h; cases h)
    | some d => exact wp_ok _ _ _
theorem k_Var : kVar (some (some d)) P S = P d S := by first | rfl | exact wp_ok _ _ _
def kBin1 (o : Sto → D → D → Option D) (fb : DE) (env : Ev) (P : D → Sto → Prop) (x : D) (S : Sto) : Prop := Wp (fb env S) fun y S2 => Wp (lift (o S2 x y) S2) P
def kBin2 (o : Sto → D → D → Option D) (P : D → Sto → Prop) (x y : D) (S : Sto) : Prop := Wp (lift (o S x y) S) P
theorem w_Bin {o} : Wp (dBin o fa fb env S) P = Wp (fa env S) (kBin1 o fb env P) := by unfold dBin; simp only [wp_bind, wp_ok]; rfl
theorem k_Bin1 {o} : kBin1 o fb env P x S = Wp (fb env S) (kBin2 o P x) := by first | rfl | exact wp_ok _ _ _
theorem k_Bin2 {o} : kBin2 o P x y S = Wp (lift (o S x y) S) P := by first | rfl | exact wp_ok _ _ _
def kB (PB : Bool → Sto → Prop) (x : D) (S : Sto) : Prop := Wp (lift (asB x) S) PB
theorem k_B {c : Bool} : kB PB (.bl c) S = PB c S := by first | rfl | exact wp_ok _ _ _
theorem w_Tst : Wp (dTst fa env S) PB = Wp (fa env S) (kB PB) := by unfold dTst; simp only [wp_bind, wp_ok]; rfl
def kCh1 (o o' : Sto → D → D → Option D) (fb fc : DE) (env : Ev) (P : D → Sto → Prop) (x : D) (S : Sto) : Prop := Wp (fb env S) fun y S2 => Wp (lift (o S2 x y) S2) fun z S3 => Wp (lift (asB z) S3) fun k S4 => Wp (if k = true then (fc env S4).bind fun w S5 => lift (o' S5 y w) S5 else .ok (.bl false) S4) P
def kCh2 (o o' : Sto → D → D → Option D) (fc : DE) (env : Ev) (P : D → Sto → Prop) (x y : D) (S : Sto) : Prop := Wp (lift (o S x y) S) fun z S3 => Wp (lift (asB z) S3) fun k S4 => Wp (if k = true then (fc env S4).bind fun w S5 => lift (o' S5 y w) S5 else .ok (.bl false) S4) P
def kCh3 (o' : Sto → D → D → Option D) (fc : DE) (env : Ev) (P : D → Sto → Prop) (y : D) (k : Bool) (S : Sto) : Prop := Wp (if k = true then (fc env S).bind fun w S5 => lift (o' S5 y w) S5 else .ok (.bl false) S) P
def kCh4 (o' : Sto → D → D → Option D) (P : D → Sto → Prop) (y w : D) (S : Sto) : Prop := Wp (lift (o' S y w) S) P
theorem w_Chain {o o'} : Wp (dChain o o' fa fb fc env S) P = Wp (fa env S) (kCh1 o o' fb fc env P) := by unfold dChain; simp only [wp_bind, wp_ok]; rfl
theorem k_Ch1 {o o'} : kCh1 o o' fb fc env P x S = Wp (fb env S) (kCh2 o o' fc env P x) := by first | rfl | exact wp_ok _ _ _
theorem k_Ch2 {o o'} : kCh2 o o' fc env P x y S = Wp (lift (o S x y) S) (kB (kCh3 o' fc env P y)) := by first | rfl | exact wp_ok _ _ _
theorem k_Ch3t {o'} : kCh3 o' fc env P y true S = Wp (fc env S) (kCh4 o' P y) := by unfold kCh3; rw [if_pos rfl, wp_bind]; rfl
theorem k_Ch3f {o'} : kCh3 o' fc env P y false S = P (.bl false) S := by first | rfl | exact wp_ok _ _ _
theorem k_Ch3d {o'} {c : Prop} [Decidable c] (h1 : c → Wp (fc env S) (kCh4 o' P y)) (h2 : ¬ c → P (.bl false) S) : kCh3 o' fc env P y (decide c) S := by
  by_cases h : c
  · rw [decide_eq_true h, k_Ch3t]; exact h1 h
  · rw [decide_eq_false h, k_Ch3f]; exact h2 h
theorem k_Ch4 {o'} {w : D} : kCh4 o' P y w S = Wp (lift (o' S y w) S) P := by first | rfl | exact wp_ok _ _ _
def kAnd (fb : DE) (env : Ev) (P : D → Sto → Prop) (k : Bool) (S : Sto) : Prop := Wp (if k = true then fb env S else .ok (.bl false) S) P
def kOr (fb : DE) (env : Ev) (P : D → Sto → Prop) (k : Bool) (S : Sto) : Prop := Wp (if k = true then .ok (.bl true) S else fb env S) P
def kNot (P : D → Sto → Prop) (k : Bool) (S : Sto) : Prop := P (.bl (!k)) S
theorem w_And : Wp (dAnd fa fb env S) P = Wp (fa env S) (kB (kAnd fb env P)) := by unfold dAnd; simp only [wp_bind, wp_ok]; rfl
theorem w_Or : Wp (dOr fa fb env S) P = Wp (fa env S) (kB (kOr fb env P)) := by unfold dOr; simp only [wp_bind, wp_ok]; rfl
theorem w_Not : Wp (dNot fa env S) P = Wp (fa env S) (kB (kNot P)) := by unfold dNot; simp only [wp_bind, wp_ok]; rfl
theorem k_Andt : kAnd fb env P true S = Wp (fb env S) P := by first | rfl | exact wp_ok _ _ _
theorem k_Andf : kAnd fb env P false S = P (.bl false) S := by first | rfl | exact wp_ok _ _ _
theorem k_Ort : kOr fb env P true S = P (.bl true) S := by first | rfl | exact wp_ok _ _ _
theorem k_Orf : kOr fb env P false S = Wp (fb env S) P := by first | rfl | exact wp_ok _ _ _
theorem k_Not {c : Bool} : kNot P c S = P (.bl (!c)) S := by first | rfl | exact wp_ok _ _ _
def kbAnd (tb : DB) (env : Ev) (P : Bool → Sto → Prop) (k : Bool) (S : Sto) : Prop := Wp (if k = true then tb env S else .ok false S) P
def kbOr (tb : DB) (env : Ev) (P : Bool → Sto → Prop) (k : Bool) (S : Sto) : Prop := Wp (if k = true then .ok true S else tb env S) P
def kbNot (P : Bool → Sto → Prop) (k : Bool) (S : Sto) : Prop := P (!k) S
theorem w_bAnd : Wp (bAnd ta tb env S) PB = Wp (ta env S) (kbAnd tb env PB) := by unfold bAnd; simp only [wp_bind, wp_ok]; rfl
theorem w_bOr : Wp (bOr ta tb env S) PB = Wp (ta env S) (kbOr tb env PB) := by unfold bOr; simp only [wp_bind, wp_ok]; rfl
theorem w_bNot : Wp (bNot ta env S) PB = Wp (ta env S) (kbNot PB) := by unfold bNot; simp only [wp_bind, wp_ok]; rfl
theorem w_bYes : Wp (bYes env S) PB = PB true S := by first | rfl | exact wp_ok _ _ _
theorem k_bAndt : kbAnd tb env PB true S = Wp (tb env S) PB := by first | rfl | exact wp_ok _ _ _
theorem k_bAndf : kbAnd tb env PB false S = PB false S := by first | rfl | exact wp_ok _ _ _
theorem k_bOrt : kbOr tb env PB true S = PB true S := by first | rfl | exact wp_ok _ _ _
theorem k_bOrf : kbOr tb env PB false S = Wp (tb env S) PB := by first | rfl | exact wp_ok _ _ _
theorem k_bNot {c : Bool} : kbNot PB c S = PB (!c) S := by first | rfl | exact wp_ok _ _ _
theorem k_bAndc {c : Bool} (h1 : c = true → Wp (tb env S) PB) (h2 : c = false → PB false S) : kbAnd tb env PB c S := by
  cases c with
  | true => exact h1 rfl
  | false => exact Wp.of rfl (h2 rfl)
def kdIf (fa fb : DE) (env : Ev) (P : D → Sto → Prop) (k : Bool) (S : Sto) : Prop := Wp (if k = true then fa env S else fb env S) P
theorem w_dIf : Wp (dIf tc fa fb env S) P = Wp (tc env S) (kdIf fa fb env P) := by unfold dIf; simp only [wp_bind, wp_ok]; rfl
theorem k_dIft : kdIf fa fb env P true S = Wp (fa env S) P := by first | rfl | exact wp_ok _ _ _
theorem k_dIff : kdIf fa fb env P false S = Wp (fb env S) P := by first | rfl | exact wp_ok _ _ _
theorem w_aNil : Wp (aNil env S) PA = PA [] S := by first | rfl | exact wp_ok _ _ _
def kCons1 (fs : DA) (env : Ev) (P : List D → Sto → Prop) (d : D) (S : Sto) : Prop := Wp (fs env S) fun ds S2 => P (d :: ds) S2
def kCons2 (P : List D → Sto → Prop) (d : D) (ds : List D) (S : Sto) : Prop := P (d :: ds) S
theorem w_aCons : Wp (aCons fa fs env S) PA = Wp (fa env S) (kCons1 fs env PA) := by unfold aCons; simp only [wp_bind, wp_ok]; rfl
theorem k_Cons1 : kCons1 fs env PA d S = Wp (fs env S) (kCons2 PA d) := by first | rfl | exact wp_ok _ _ _
theorem k_Cons2 : kCons2 PA d ds S = PA (d :: ds) S := by first | rfl | exact wp_ok _ _ _
def kTup (P : D → Sto → Prop) (ds : List D) (S : Sto) : Prop := ds.length ≤ sizeLine ∧ P (.tup ds) S
def kLst (P : D → Sto → Prop) (ds : List D) (S : Sto) : Prop := ds.length ≤ sizeLine ∧ P (.lst ds) S
def kCell (P : D → Sto → Prop) (ds : List D) (S : Sto) : Prop := ds.length ≤ sizeLine ∧ P (.ref S.length) (S ++ [.lst ds])
theorem wp_bad {A : Type} {P : A → Sto → Prop} : Wp (.bad : Out A) P = False := wp_no (by intro a S h; cases h)
theorem wp_guard {A : Type} {c : Prop} [Decidable c] {m : Out A} {P : A → Sto → Prop} : Wp (if c then m else .bad) P = (c ∧ Wp m P) := by
  by_cases h : c
  · rw [if_pos h]; exact propext ⟨fun q => ⟨h, q⟩, fun q => q.2⟩
  · rw [if_neg h, wp_bad]; exact propext ⟨fun q => q.elim, fun q => h q.1⟩
theorem w_Tup : Wp (dTup fs env S) P = Wp (fs env S) (kTup P) := by unfold dTup; simp only [wp_bind, wp_guard, wp_ok]; rfl
theorem w_Lst : Wp (dLst fs env S) P = Wp (fs env S) (kLst P) := by unfold dLst; simp only [wp_bind, wp_guard, wp_ok]; rfl
theorem w_Cell : Wp (dCell fs env S) P = Wp (fs env S) (kCell P) := by unfold dCell; simp only [wp_bind, wp_guard, wp_ok]; rfl
theorem k_Tup : kTup P ds S = (ds.length ≤ sizeLine ∧ P (.tup ds) S) := by first | rfl | exact wp_ok _ _ _
theorem k_Lst : kLst P ds S = (ds.length ≤ sizeLine ∧ P (.lst ds) S) := by first | rfl | exact wp_ok _ _ _
theorem k_Cell : kCell P ds S = (ds.length ≤ sizeLine ∧ P (.ref S.length) (S ++ [.lst ds])) := by first | rfl | exact wp_ok _ _ _
def kCall (o : Sto → List D → Option D) (P : D → Sto → Prop) (ds : List D) (S : Sto) : Prop := Wp (lift (o S ds) S) P
theorem w_Call {o} : Wp (dCall o fs env S) P = Wp (fs env S) (kCall o P) := by unfold dCall; simp only [wp_bind, wp_ok]; rfl
theorem k_Call {o} : kCall o P ds S = Wp (lift (o S ds) S) P := by first | rfl | exact wp_ok _ _ _
def kCallF (fn : Fn) (P : D → Sto → Prop) (ds : List D) (S : Sto) : Prop := Wp (fn ds S) P
theorem w_CallF {fn : Fn} : Wp (dCallF fn fs env S) P = Wp (fs env S) (kCallF fn P) := by unfold dCallF; simp only [wp_bind, wp_ok]; rfl
theorem k_CallF {fn : Fn} : kCallF fn P ds S = Wp (fn ds S) P := by first | rfl | exact wp_ok _ _ _
def kCallN (o : Sto → List D → Option (List D)) (P : D → Sto → Prop) (ds : List D) (S : Sto) : Prop := Wp (lift (o S ds) S) fun es S1 => P (.ref S1.length) (S1 ++ [.lst es])
def kNew (P : D → Sto → Prop) (es : List D) (S : Sto) : Prop := P (.ref S.length) (S ++ [.lst es])
theorem w_CallN {o} : Wp (dCallN o fs env S) P = Wp (fs env S) (kCallN o P) := by
  unfold dCallN
  rw [wp_bind]
  congr 1
  funext ds S1
  unfold kCallN
  cases o S1 ds with
  | none => exact (wp_bad).trans (wp_bad).symm
  | some es => exact (wp_ok _ _ _).trans (wp_ok es S1 fun es S1 => P (.ref S1.length) (S1 ++ [.lst es])).symm
theorem k_CallN {o} : kCallN o P ds S = Wp (lift (o S ds) S) (kNew P) := by first | rfl | exact wp_ok _ _ _
theorem k_New : kNew P ds S = P (.ref S.length) (S ++ [.lst ds]) := by first | rfl | exact wp_ok _ _ _
def kAddN1 (fb : DE) (env : Ev) (P : D → Sto → Prop) (x : D) (S : Sto) : Prop := Wp (fb env S) fun y S2 => ∃ a b, lstOf S2 x = some a ∧ lstOf S2 y = some b ∧ a.length + b.length ≤ sizeLine ∧ P (.ref S2.length) (S2 ++ [.lst (a ++ b)])
def kAddN2 (P : D → Sto → Prop) (x y : D) (S : Sto) : Prop := ∃ a b, lstOf S x = some a ∧ lstOf S y = some b ∧ a.length + b.length ≤ sizeLine ∧ P (.ref S.length) (S ++ [.lst (a ++ b)])
theorem w_AddN (h : Wp (fa env S) (kAddN1 fb env P)) : Wp (dAddN fa fb env S) P := by
  unfold dAddN
  rw [wp_bind]
  refine h.mono fun x S1 q => ?_
  rw [wp_bind]
  refine Wp.mono q fun y S2 q => ?_
  obtain ⟨a, b, h1, h2, h3, h4⟩ := q
  rw [h1, h2]
  dsimp only
  rw [if_pos h3]
  exact Wp.of rfl h4
theorem k_AddN1 : kAddN1 fb env P x S = Wp (fb env S) (kAddN2 P x) := by first | rfl | exact wp_ok _ _ _
def kUn (o : D → Option D) (P : D → Sto → Prop) (x : D) (S : Sto) : Prop := Wp (lift (o x) S) P
theorem w_Un {o} : Wp (dUn o fa env S) P = Wp (fa env S) (kUn o P) := by unfold dUn; simp only [wp_bind, wp_ok]; rfl
theorem k_Un {o} : kUn o P x S = Wp (lift (o x) S) P := by first | rfl | exact wp_ok _ _ _
def kSl1 (o : Sto → D → Option Int → Option Int → Option D) (fl fu : DO) (env : Ev) (P : D → Sto → Prop) (x : D) (S : Sto) : Prop := Wp (fl env S) fun l S2 => Wp (fu env S2) fun u S3 => Wp (lift (o S3 x l u) S3) P
def kSl2 (o : Sto → D → Option Int → Option Int → Option D) (fu : DO) (env : Ev) (P : D → Sto → Prop) (x : D) (l : Option Int) (S : Sto) : Prop := Wp (fu env S) fun u S3 => Wp (lift (o S3 x l u) S3) P
def kSl3 (o : Sto → D → Option Int → Option Int → Option D) (P : D → Sto → Prop) (x : D) (l u : Option Int) (S : Sto) : Prop := Wp (lift (o S x l u) S) P
theorem w_Sl {o} {fl fu : DO} : Wp (dSl o fa fl fu env S) P = Wp (fa env S) (kSl1 o fl fu env P) := by unfold dSl; simp only [wp_bind, wp_ok]; rfl
theorem k_Sl1 {o} {fl fu : DO} : kSl1 o fl fu env P x S = Wp (fl env S) (kSl2 o fu env P x) := by first | rfl | exact wp_ok _ _ _
theorem k_Sl2 {o} {fu : DO} {l : Option Int} : kSl2 o fu env P x l S = Wp (fu env S) (kSl3 o P x l) := by first | rfl | exact wp_ok _ _ _
theorem k_Sl3 {o} {l u : Option Int} : kSl3 o P x l u S = Wp (lift (o S x l u) S) P := by first | rfl | exact wp_ok _ _ _
theorem w_No : Wp (oNo env S) PO = PO none S := by first | rfl | exact wp_ok _ _ _
def kSo (P : Option Int → Sto → Prop) (x : D) (S : Sto) : Prop := Wp (lift (asI x) S) fun i S2 => P (some i) S2
theorem w_So : Wp (oSo fa env S) PO = Wp (fa env S) (kSo PO) := by unfold oSo; simp only [wp_bind, wp_ok]; rfl
theorem k_So {j : Int} : kSo PO (.int j) S = PO (some j) S := by first | rfl | exact wp_ok _ _ _
def kItems (P : List D → Sto → Prop) (x : D) (S : Sto) : Prop := Wp (lift (seqItems x) S) P
theorem w_iSeq : Wp (iSeq fa env S) PA = Wp (fa env S) (kItems PA) := by unfold iSeq; simp only [wp_bind, wp_ok]; rfl
theorem k_Items : kItems PA x S = Wp (lift (seqItems x) S) PA := by first | rfl | exact wp_ok _ _ _
def kRng1 (P : List D → Sto → Prop) (ds : List D) (S : Sto) : Prop := Wp (lift (rng1 ds) S) P
def kRng2 (P : List D → Sto → Prop) (ds : List D) (S : Sto) : Prop := Wp (lift (rng2 ds) S) P
theorem w_Range1 : Wp (iRange1 fs env S) PA = Wp (fs env S) (kRng1 PA) := by unfold iRange1; simp only [wp_bind, wp_ok]; rfl
theorem w_Range2 : Wp (iRange2 fs env S) PA = Wp (fs env S) (kRng2 PA) := by unfold iRange2; simp only [wp_bind, wp_ok]; rfl
theorem k_Rng1 : kRng1 PA ds S = Wp (lift (rng1 ds) S) PA := by first | rfl | exact wp_ok _ _ _
theorem k_Rng2 : kRng2 PA ds S = Wp (lift (rng2 ds) S) PA := by first | rfl | exact wp_ok _ _ _
def kEnum (P : List D → Sto → Prop) (x : D) (S : Sto) : Prop := Wp (lift ((itemsOf x).map (enumL 0)) S) P
theorem w_iEnum : Wp (iEnum fa env S) PA = Wp (fa env S) (kEnum PA) := by unfold iEnum; simp only [wp_bind, wp_ok]; rfl
theorem k_Enum : kEnum PA x S = Wp (lift ((itemsOf x).map (enumL 0)) S) PA := by first | rfl | exact wp_ok _ _ _
def kComp (g : DG) (vs : List Nat) (tt : DB) (te : DE) (env : Ev) (P : D → Sto → Prop) (ds : List D) (S : Sto) : Prop := Wp (compGo g (wipeE env vs) tt te ds [] S) fun acc S2 => P (.lst acc) S2
def kAsL (P : D → Sto → Prop) (acc : List D) (S : Sto) : Prop := P (.lst acc) S
theorem w_Comp {vs : List Nat} {te : DE} : Wp (dComp it gg vs tt te env S) P = Wp (it env S) (kComp gg vs tt te env P) := by unfold dComp; simp only [wp_bind, wp_ok]; rfl
theorem k_Comp {vs : List Nat} {te : DE} : kComp gg vs tt te env P ds S = Wp (compGo gg (wipeE env vs) tt te ds [] S) (kAsL P) := by first | rfl | exact wp_ok _ _ _
theorem k_AsL : kAsL P ds S = P (.lst ds) S := by first | rfl | exact wp_ok _ _ _
-- statements
theorem w_Nil : Wp (sNil env S) PF = PF (.nx, env) S := by first | rfl | exact wp_ok _ _ _
theorem w_Nop : Wp (sNop env S) PF = PF (.nx, env) S := by first | rfl | exact wp_ok _ _ _
theorem w_Fl : Wp (sFl fl env S) PF = PF (fl, env) S := by first | rfl | exact wp_ok _ _ _
def kSeq (g : DS) (P : Fl × Ev → Sto → Prop) (p : Fl × Ev) (S : Sto) : Prop := Wp (match p.1 with | .nx => g p.2 S | fl => .ok (fl, p.2) S) P
theorem w_Seq : Wp (sSeq f g env S) PF = Wp (f env S) (kSeq g PF) := by unfold sSeq; simp only [wp_bind, wp_ok]; rfl
theorem k_Seqn : kSeq g PF (.nx, env) S = Wp (g env S) PF := by first | rfl | exact wp_ok _ _ _
theorem k_Seqr : kSeq g PF (.rt d, env) S = PF (.rt d, env) S := by first | rfl | exact wp_ok _ _ _
theorem k_Seqb : kSeq g PF (.bk, env) S = PF (.bk, env) S := by first | rfl | exact wp_ok _ _ _
theorem k_Seqc : kSeq g PF (.ct, env) S = PF (.ct, env) S := by first | rfl | exact wp_ok _ _ _
def kDrop (P : Fl × Ev → Sto → Prop) (env : Ev) (_ : D) (S : Sto) : Prop := P (.nx, env) S
theorem w_Expr : Wp (sExpr fa env S) PF = Wp (fa env S) (kDrop PF env) := by unfold sExpr; simp only [wp_bind, wp_ok]; rfl
theorem k_Drop : kDrop PF env x S = PF (.nx, env) S := by first | rfl | exact wp_ok _ _ _
def kRet (P : Fl × Ev → Sto → Prop) (env : Ev) (d : D) (S : Sto) : Prop := P (.rt d, env) S
theorem w_Ret : Wp (sRet fa env S) PF = Wp (fa env S) (kRet PF env) := by unfold sRet; simp only [wp_bind, wp_ok]; rfl
theorem k_Ret : kRet PF env d S = PF (.rt d, env) S := by first | rfl | exact wp_ok _ _ _
def kSet (i : Nat) (P : Fl × Ev → Sto → Prop) (env : Ev) (d : D) (S : Sto) : Prop := P (.nx, env.set i (some d)) S
theorem w_Set : Wp (sSet i fa env S) PF = Wp (fa env S) (kSet i PF env) := by unfold sSet; simp only [wp_bind, wp_ok]; rfl
theorem k_Set : kSet i PF env d S = PF (.nx, env.set i (some d)) S := by first | rfl | exact wp_ok _ _ _
def kAsg1 (g : DG) (P : Fl × Ev → Sto → Prop) (env : Ev) (d : D) (S : Sto) : Prop := Wp (lift (g env d) S) fun env' S2 => P (.nx, env') S2
def kNx (P : Fl × Ev → Sto → Prop) (env : Ev) (S : Sto) : Prop := P (.nx, env) S
theorem w_Asg : Wp (sAsg fa gg env S) PF = Wp (fa env S) (kAsg1 gg PF env) := by unfold sAsg; simp only [wp_bind, wp_ok]; rfl
theorem k_Asg1 : kAsg1 gg PF env d S = Wp (lift (gg env d) S) (kNx PF) := by first | rfl | exact wp_ok _ _ _
theorem k_Nx : kNx PF env S = PF (.nx, env) S := by first | rfl | exact wp_ok _ _ _
def kIf (f g : DS) (env : Ev) (P : Fl × Ev → Sto → Prop) (k : Bool) (S : Sto) : Prop := Wp (if k = true then f env S else g env S) P
theorem w_If : Wp (sIf tc f g env S) PF = Wp (tc env S) (kIf f g env PF) := by unfold sIf; simp only [wp_bind, wp_ok]; rfl
theorem k_Ift : kIf f g env PF true S = Wp (f env S) PF := by first | rfl | exact wp_ok _ _ _
theorem k_Iff : kIf f g env PF false S = Wp (g env S) PF := by first | rfl | exact wp_ok _ _ _
theorem k_Ifc {c : Bool} (h1 : c = true → Wp (f env S) PF) (h2 : c = false → Wp (g env S) PF) : kIf f g env PF c S := by
  cases c with
  | true => exact h1 rfl
  | false => exact h2 rfl
theorem k_Ifd {c : Prop} [Decidable c] (h1 : c → Wp (f env S) PF) (h2 : ¬ c → Wp (g env S) PF) : kIf f g env PF (decide c) S := k_Ifc (fun h => h1 (of_decide_eq_true h)) fun h => h2 (of_decide_eq_false h)
theorem k_Ifn {c : Prop} [Decidable c] (h1 : ¬ c → Wp (f env S) PF) (h2 : c → Wp (g env S) PF) : kIf f g env PF (!decide c) S := k_Ifc (fun h => h1 (by simpa using h)) fun h => h2 (by simpa using h)
def kFor (g : DG) (b : DS) (env : Ev) (P : Fl × Ev → Sto → Prop) (ds : List D) (S : Sto) : Prop := Wp (forGo g b ds env S) P
theorem w_For : Wp (sFor it gg b env S) PF = Wp (it env S) (kFor gg b env PF) := by unfold sFor; simp only [wp_bind, wp_ok]; rfl
theorem k_For : kFor gg b env PF ds S = Wp (forGo gg b ds env S) PF := by first | rfl | exact wp_ok _ _ _
def kPut1 (fo fi : DE) (env : Ev) (P : Fl × Ev → Sto → Prop) (y : D) (S : Sto) : Prop := Wp (fo env S) fun o S2 => Wp (fi env S2) fun i S3 => ∃ n ds k j, o = .ref n ∧ S3[n]? = some (.lst ds) ∧ i = .int k ∧ ixN ds.length k = some j ∧ P (.nx, env) (S3.set n (.lst (ds.set j y)))
def kPut2 (fi : DE) (env : Ev) (P : Fl × Ev → Sto → Prop) (y o : D) (S : Sto) : Prop := Wp (fi env S) fun i S3 => ∃ n ds k j, o = .ref n ∧ S3[n]? = some (.lst ds) ∧ i = .int k ∧ ixN ds.length k = some j ∧ P (.nx, env) (S3.set n (.lst (ds.set j y)))
def kPut3 (env : Ev) (P : Fl × Ev → Sto → Prop) (y o i : D) (S : Sto) : Prop := ∃ n ds k j, o = .ref n ∧ S[n]? = some (.lst ds) ∧ i = .int k ∧ ixN ds.length k = some j ∧ P (.nx, env) (S.set n (.lst (ds.set j y)))
theorem k_Put1 : kPut1 fo fi env PF y S = Wp (fo env S) (kPut2 fi env PF y) := by first | rfl | exact wp_ok _ _ _
theorem k_Put2 {o : D} : kPut2 fi env PF y o S = Wp (fi env S) (kPut3 env PF y o) := by first | rfl | exact wp_ok _ _ _
def kApp (fa : DE) (env : Ev) (P : D → Sto → Prop) (o : D) (S : Sto) : Prop := ∃ n, o = .ref n ∧ (∃ ds, S[n]? = some (.lst ds)) ∧ Wp (fa env S) fun y S2 => ∃ es, S2[n]? = some (.lst es) ∧ es.length < sizeLine ∧ P .non (S2.set n (.lst (es ++ [y])))
theorem w_App (h : Wp (fo env S) (kApp fa env P)) : Wp (dAppend fo fa env S) P := by
  obtain ⟨o, S1, e1, n, eo, ⟨ds, hd⟩, h2⟩ := h.get
  subst eo
  exact wp_append e1 hd h2
def kApp2 (n : Nat) (P : D → Sto → Prop) (y : D) (S : Sto) : Prop := ∃ es, S[n]? = some (.lst es) ∧ es.length < sizeLine ∧ P .non (S.set n (.lst (es ++ [y])))
theorem k_App {n : Nat} {ds : List D} (h : S[n]? = some (.lst ds)) (h2 : Wp (fa env S) (kApp2 n P)) : kApp fa env P (.ref n) S := ⟨n, rfl, ⟨ds, h⟩, h2⟩
theorem le_size {n : Nat} (h : n ≤ 1000) : (n ≤ sizeLine) = True := by
  have e := sizeLine_eq
  exact eq_true (by omega)
theorem len_str {S : Sto} {x : Str} (h : x.length ≤ sizeLine) : oLen S [.str x] = some (.int x.length) := if_pos h
/-- a def -/
def kFun (P : D → Sto → Prop) (p : Fl × Ev) (S : Sto) : Prop := match p.1 with | .nx => P .non S | .rt d => P d S | _ => False
theorem w_Fun {g : DS} : Wp (dFun n g ds S) P = Wp (g (ds.map some ++ List.replicate (n - ds.length) none) S) (kFun P) := by
  unfold dFun
  rw [wp_bind]
  congr 1
  funext p S1
  obtain ⟨fl, env⟩ := p
  cases fl <;> first | exact wp_ok _ _ _ | exact wp_bad
theorem w_Fun0 {g : DS} : Wp (dFun0 n g ds S) P = Wp (g (ds.map some ++ List.replicate (n - ds.length) none) S) (kFun P) := by unfold dFun0; rw [wp_noexc, w_Fun]
theorem k_Funn : kFun P (.nx, env) S = P .non S := by first | rfl | exact wp_ok _ _ _
theorem k_Funr : kFun P (.rt d, env) S = P d S := by first | rfl | exact wp_ok _ _ _
theorem w_newK : Wp (dNewK env S) P = P (.ref S.length) (S ++ [.dK []]) := by first | rfl | exact wp_ok _ _ _
theorem w_newT : Wp (dNewT env S) P = P (.ref S.length) (S ++ [.dT []]) := by first | rfl | exact wp_ok _ _ _
end
end DL
end L2

set_option Elab.async false
set_option linter.all false
set_option maxRecDepth 100000
namespace L2
namespace DL
open PySem PySem.Spec PyProof.Rows
/-! ### values whose types are known -/
mutual
def typedD (S : Sto) : D → Bool
  | .tup ds => typedL S ds
  | .lst ds => typedL S ds
  | .fz ds => typedL S ds
  | .ref n => (tyN S (.ref n)).isSome
  | .ty _ => false
  | _ => true
def typedL (S : Sto) : List D → Bool
  | [] => true
  | d :: ds => typedD S d && typedL S ds
end
theorem typed_mem {S : Sto} : ∀ {ds : List D} {d : D}, typedL S ds = true → d ∈ ds → typedD S d = true
  | [], _, _, h => by cases h
  | x :: xs, d, h, hm => by
    unfold typedL at h
    rw [Bool.and_eq_true] at h
    rcases List.mem_cons.mp hm with e | e
    · rw [e]; exact h.1
    · exact typed_mem h.2 e
theorem kt_NoneType_int : kitB "NoneType" "int" = some false := by decide +kernel
theorem kt_NoneType_bool : kitB "NoneType" "bool" = some false := by decide +kernel
theorem kt_NoneType_str : kitB "NoneType" "str" = some false := by decide +kernel
theorem kt_NoneType_tuple : kitB "NoneType" "tuple" = some false := by decide +kernel
theorem kt_NoneType_list : kitB "NoneType" "list" = some false := by decide +kernel
theorem kt_NoneType_dict : kitB "NoneType" "dict" = some false := by decide +kernel
theorem kt_bool_int : kitB "bool" "int" = some true := by decide +kernel
theorem kt_bool_bool : kitB "bool" "bool" = some true := by decide +kernel
theorem kt_bool_str : kitB "bool" "str" = some false := by decide +kernel
theorem kt_bool_tuple : kitB "bool" "tuple" = some false := by decide +kernel
theorem kt_bool_list : kitB "bool" "list" = some false := by decide +kernel
theorem kt_bool_dict : kitB "bool" "dict" = some false := by decide +kernel
theorem kt_int_int : kitB "int" "int" = some true := by decide +kernel
theorem kt_int_bool : kitB "int" "bool" = some false := by decide +kernel
theorem kt_int_str : kitB "int" "str" = some false := by decide +kernel
theorem kt_int_tuple : kitB "int" "tuple" = some false := by decide +kernel
theorem kt_int_list : kitB "int" "list" = some false := by decide +kernel
theorem kt_int_dict : kitB "int" "dict" = some false := by decide +kernel
theorem kt_str_int : kitB "str" "int" = some false := by decide +kernel
theorem kt_str_bool : kitB "str" "bool" = some false := by decide +kernel
theorem kt_str_str : kitB "str" "str" = some true := by decide +kernel
theorem kt_str_tuple : kitB "str" "tuple" = some false := by decide +kernel
theorem kt_str_list : kitB "str" "list" = some false := by decide +kernel
theorem kt_str_dict : kitB "str" "dict" = some false := by decide +kernel
theorem kt_tuple_int : kitB "tuple" "int" = some false := by decide +kernel
theorem kt_tuple_bool : kitB "tuple" "bool" = some false := by decide +kernel
theorem kt_tuple_str : kitB "tuple" "str" = some false := by decide +kernel
theorem kt_tuple_tuple : kitB "tuple" "tuple" = some true := by decide +kernel
theorem kt_tuple_list : kitB "tuple" "list" = some false := by decide +kernel
theorem kt_tuple_dict : kitB "tuple" "dict" = some false := by decide +kernel
theorem kt_list_int : kitB "list" "int" = some false := by decide +kernel
theorem kt_list_bool : kitB "list" "bool" = some false := by decide +kernel
theorem kt_list_str : kitB "list" "str" = some false := by decide +kernel
theorem kt_list_tuple : kitB "list" "tuple" = some false := by decide +kernel
theorem kt_list_list : kitB "list" "list" = some true := by decide +kernel
theorem kt_list_dict : kitB "list" "dict" = some false := by decide +kernel
theorem kt_dict_int : kitB "dict" "int" = some false := by decide +kernel
theorem kt_dict_str : kitB "dict" "str" = some false := by decide +kernel
theorem kt_dict_tuple : kitB "dict" "tuple" = some false := by decide +kernel
theorem inst_of {S : Sto} {d : D} {T c : String} {b : Bool} (h : tyN S d = some T) (k : kitB T c = some b) : oIsInst S [d, .ty c] = some (.bl b) := by
  unfold oIsInst
  dsimp only
  rw [h]
  dsimp only
  rw [k]
  rfl

theorem ii_non_int {S : Sto}  : oIsInst S [.non, .ty "int"] = some (.bl false) := inst_of rfl kt_NoneType_int
theorem ii_non_bool {S : Sto}  : oIsInst S [.non, .ty "bool"] = some (.bl false) := inst_of rfl kt_NoneType_bool
theorem ii_non_str {S : Sto}  : oIsInst S [.non, .ty "str"] = some (.bl false) := inst_of rfl kt_NoneType_str
theorem ii_non_tuple {S : Sto}  : oIsInst S [.non, .ty "tuple"] = some (.bl false) := inst_of rfl kt_NoneType_tuple
theorem ii_non_list {S : Sto}  : oIsInst S [.non, .ty "list"] = some (.bl false) := inst_of rfl kt_NoneType_list
theorem ii_non_dict {S : Sto}  : oIsInst S [.non, .ty "dict"] = some (.bl false) := inst_of rfl kt_NoneType_dict
theorem ii_bl_int {S : Sto} {b : Bool} : oIsInst S [(.bl b), .ty "int"] = some (.bl true) := inst_of rfl kt_bool_int
theorem ii_bl_bool {S : Sto} {b : Bool} : oIsInst S [(.bl b), .ty "bool"] = some (.bl true) := inst_of rfl kt_bool_bool
theorem ii_bl_str {S : Sto} {b : Bool} : oIsInst S [(.bl b), .ty "str"] = some (.bl false) := inst_of rfl kt_bool_str
theorem ii_bl_tuple {S : Sto} {b : Bool} : oIsInst S [(.bl b), .ty "tuple"] = some (.bl false) := inst_of rfl kt_bool_tuple
theorem ii_bl_list {S : Sto} {b : Bool} : oIsInst S [(.bl b), .ty "list"] = some (.bl false) := inst_of rfl kt_bool_list
theorem ii_bl_dict {S : Sto} {b : Bool} : oIsInst S [(.bl b), .ty "dict"] = some (.bl false) := inst_of rfl kt_bool_dict
theorem ii_int_int {S : Sto} {i : Int} : oIsInst S [(.int i), .ty "int"] = some (.bl true) := inst_of rfl kt_int_int
theorem ii_int_bool {S : Sto} {i : Int} : oIsInst S [(.int i), .ty "bool"] = some (.bl false) := inst_of rfl kt_int_bool
theorem ii_int_str {S : Sto} {i : Int} : oIsInst S [(.int i), .ty "str"] = some (.bl false) := inst_of rfl kt_int_str
theorem ii_int_tuple {S : Sto} {i : Int} : oIsInst S [(.int i), .ty "tuple"] = some (.bl false) := inst_of rfl kt_int_tuple
theorem ii_int_list {S : Sto} {i : Int} : oIsInst S [(.int i), .ty "list"] = some (.bl false) := inst_of rfl kt_int_list
theorem ii_int_dict {S : Sto} {i : Int} : oIsInst S [(.int i), .ty "dict"] = some (.bl false) := inst_of rfl kt_int_dict
theorem ii_str_int {S : Sto} {x : Str} : oIsInst S [(.str x), .ty "int"] = some (.bl false) := inst_of rfl kt_str_int
theorem ii_str_bool {S : Sto} {x : Str} : oIsInst S [(.str x), .ty "bool"] = some (.bl false) := inst_of rfl kt_str_bool
theorem ii_str_str {S : Sto} {x : Str} : oIsInst S [(.str x), .ty "str"] = some (.bl true) := inst_of rfl kt_str_str
theorem ii_str_tuple {S : Sto} {x : Str} : oIsInst S [(.str x), .ty "tuple"] = some (.bl false) := inst_of rfl kt_str_tuple
theorem ii_str_list {S : Sto} {x : Str} : oIsInst S [(.str x), .ty "list"] = some (.bl false) := inst_of rfl kt_str_list
theorem ii_str_dict {S : Sto} {x : Str} : oIsInst S [(.str x), .ty "dict"] = some (.bl false) := inst_of rfl kt_str_dict
theorem ii_tup_int {S : Sto} {ds : List D} : oIsInst S [(.tup ds), .ty "int"] = some (.bl false) := inst_of rfl kt_tuple_int
theorem ii_tup_bool {S : Sto} {ds : List D} : oIsInst S [(.tup ds), .ty "bool"] = some (.bl false) := inst_of rfl kt_tuple_bool
theorem ii_tup_str {S : Sto} {ds : List D} : oIsInst S [(.tup ds), .ty "str"] = some (.bl false) := inst_of rfl kt_tuple_str
theorem ii_tup_tuple {S : Sto} {ds : List D} : oIsInst S [(.tup ds), .ty "tuple"] = some (.bl true) := inst_of rfl kt_tuple_tuple
theorem ii_tup_list {S : Sto} {ds : List D} : oIsInst S [(.tup ds), .ty "list"] = some (.bl false) := inst_of rfl kt_tuple_list
theorem ii_tup_dict {S : Sto} {ds : List D} : oIsInst S [(.tup ds), .ty "dict"] = some (.bl false) := inst_of rfl kt_tuple_dict
theorem ii_lst_int {S : Sto} {ds : List D} : oIsInst S [(.lst ds), .ty "int"] = some (.bl false) := inst_of rfl kt_list_int
theorem ii_lst_bool {S : Sto} {ds : List D} : oIsInst S [(.lst ds), .ty "bool"] = some (.bl false) := inst_of rfl kt_list_bool
theorem ii_lst_str {S : Sto} {ds : List D} : oIsInst S [(.lst ds), .ty "str"] = some (.bl false) := inst_of rfl kt_list_str
theorem ii_lst_tuple {S : Sto} {ds : List D} : oIsInst S [(.lst ds), .ty "tuple"] = some (.bl false) := inst_of rfl kt_list_tuple
theorem ii_lst_list {S : Sto} {ds : List D} : oIsInst S [(.lst ds), .ty "list"] = some (.bl true) := inst_of rfl kt_list_list
theorem ii_lst_dict {S : Sto} {ds : List D} : oIsInst S [(.lst ds), .ty "dict"] = some (.bl false) := inst_of rfl kt_list_dict
theorem ii_fz_int {S : Sto} {ds : List D} : oIsInst S [(.fz ds), .ty "int"] = some (.bl false) := inst_of rfl kt_list_int
theorem ii_fz_bool {S : Sto} {ds : List D} : oIsInst S [(.fz ds), .ty "bool"] = some (.bl false) := inst_of rfl kt_list_bool
theorem ii_fz_str {S : Sto} {ds : List D} : oIsInst S [(.fz ds), .ty "str"] = some (.bl false) := inst_of rfl kt_list_str
theorem ii_fz_tuple {S : Sto} {ds : List D} : oIsInst S [(.fz ds), .ty "tuple"] = some (.bl false) := inst_of rfl kt_list_tuple
theorem ii_fz_list {S : Sto} {ds : List D} : oIsInst S [(.fz ds), .ty "list"] = some (.bl true) := inst_of rfl kt_list_list
theorem ii_fz_dict {S : Sto} {ds : List D} : oIsInst S [(.fz ds), .ty "dict"] = some (.bl false) := inst_of rfl kt_list_dict
theorem ir_int {S : Sto} {n : Nat} (h : typedD S (.ref n) = true) : oIsInst S [.ref n, .ty "int"] = some (.bl false) := by
  have h' : (tyN S (.ref n)).isSome = true := h
  obtain ⟨T, e⟩ := Option.isSome_iff_exists.mp h'
  have e2 := e
  unfold tyN at e2
  dsimp only at e2
  split at e2
  · exact inst_of (T := "list") (by rw [e]; exact e2.symm) kt_list_int
  · exact inst_of (T := "dict") (by rw [e]; exact e2.symm) kt_dict_int
  · exact inst_of (T := "dict") (by rw [e]; exact e2.symm) kt_dict_int
  · cases e2
theorem ir_str {S : Sto} {n : Nat} (h : typedD S (.ref n) = true) : oIsInst S [.ref n, .ty "str"] = some (.bl false) := by
  have h' : (tyN S (.ref n)).isSome = true := h
  obtain ⟨T, e⟩ := Option.isSome_iff_exists.mp h'
  have e2 := e
  unfold tyN at e2
  dsimp only at e2
  split at e2
  · exact inst_of (T := "list") (by rw [e]; exact e2.symm) kt_list_str
  · exact inst_of (T := "dict") (by rw [e]; exact e2.symm) kt_dict_str
  · exact inst_of (T := "dict") (by rw [e]; exact e2.symm) kt_dict_str
  · cases e2
theorem ir_tuple {S : Sto} {n : Nat} (h : typedD S (.ref n) = true) : oIsInst S [.ref n, .ty "tuple"] = some (.bl false) := by
  have h' : (tyN S (.ref n)).isSome = true := h
  obtain ⟨T, e⟩ := Option.isSome_iff_exists.mp h'
  have e2 := e
  unfold tyN at e2
  dsimp only at e2
  split at e2
  · exact inst_of (T := "list") (by rw [e]; exact e2.symm) kt_list_tuple
  · exact inst_of (T := "dict") (by rw [e]; exact e2.symm) kt_dict_tuple
  · exact inst_of (T := "dict") (by rw [e]; exact e2.symm) kt_dict_tuple
  · cases e2
def isStrD : D → Bool
  | .str _ => true
  | _ => false
def isTupD : D → Bool
  | .tup _ => true
  | _ => false
theorem it_str {S : Sto} {d : D} (h : typedD S d = true) : oIsInst S [d, .ty "str"] = some (.bl (isStrD d)) := by
  cases d with
  | ref n => exact ir_str h
  | ty n => cases h
  | non => exact ii_non_str
  | bl b => exact ii_bl_str
  | int i => exact ii_int_str
  | str x => exact ii_str_str
  | tup ds => exact ii_tup_str
  | lst ds => exact ii_lst_str
  | fz ds => exact ii_fz_str
theorem it_tuple {S : Sto} {d : D} (h : typedD S d = true) : oIsInst S [d, .ty "tuple"] = some (.bl (isTupD d)) := by
  cases d with
  | ref n => exact ir_tuple h
  | ty n => cases h
  | non => exact ii_non_tuple
  | bl b => exact ii_bl_tuple
  | int i => exact ii_int_tuple
  | str x => exact ii_str_tuple
  | tup ds => exact ii_tup_tuple
  | lst ds => exact ii_lst_tuple
  | fz ds => exact ii_fz_tuple
theorem blsOf_map {A : Type} (f : A → Bool) : ∀ l : List A, blsOf (l.map fun a => D.bl (f a)) = some (l.map f)
  | [] => rfl
  | a :: l => by
    rw [List.map_cons, List.map_cons]
    unfold blsOf
    rw [blsOf_map f l]
    rfl
theorem all_lst {A : Type} (S : Sto) (f : A → Bool) (l : List A) : oAll S [.lst (l.map fun a => D.bl (f a))] = some (.bl (l.all f)) := by
  show ((listOf S (.lst _)).bind blsOf).map _ = _
  show (blsOf _).map _ = _
  rw [blsOf_map, Option.map_some, List.all_map]
  rfl
theorem add_ll {S : Sto} {a b : List D} (h : a.length + b.length ≤ 1000) : oAdd S (.lst a) (.lst b) = some (.lst (a ++ b)) := by
  refine (orO_none rfl).trans (orO_some ?_)
  show (if a.length + b.length ≤ sizeLine then some (D.lst (a ++ b)) else none) = _
  rw [if_pos (by have e := sizeLine_eq; omega)]
theorem add_tt {S : Sto} {a b : List D} (h : a.length + b.length ≤ 1000) : oAdd S (.tup a) (.tup b) = some (.tup (a ++ b)) := by
  refine (orO_none rfl).trans ((orO_none rfl).trans (orO_some ?_))
  show (if a.length + b.length ≤ sizeLine then some (D.tup (a ++ b)) else none) = _
  rw [if_pos (by have e := sizeLine_eq; omega)]
theorem tuple_lst (S : Sto) (a : List D) : oTuple S [.lst a] = some (.tup a) := rfl
theorem tuple_tup (S : Sto) (a : List D) : oTuple S [.tup a] = some (.tup a) := rfl
theorem list_tup (S : Sto) (a : List D) : oListC S [.tup a] = some (.lst a) := rfl
theorem list_lst (S : Sto) (a : List D) : oListC S [.lst a] = some (.lst a) := rfl
theorem sl_tup (S : Sto) (a : List D) (l u : Option Int) : oSl S (.tup a) l u = some (.tup (cutD a l u)) := rfl
theorem sl_lst (S : Sto) (a : List D) (l u : Option Int) : oSl S (.lst a) l u = some (.lst (cutD a l u)) := rfl
theorem cut_hi (ds : List D) (i : Int) (h0 : 0 ≤ i) (h : i ≤ ds.length) : cutD ds (some i) none = ds.drop i.toNat := by
  have e : i = ((i.toNat : Nat) : Int) := by omega
  unfold cutD
  rw [e, HT.sIx_nat, HT.sIx_none, Int.toNat_natCast, Nat.min_eq_left (by omega), List.take_of_length_le (by rw [List.length_drop]; omega)]
theorem allc {p : D → Prop} {a : D} {l : List D} (h : p a) (k : ∀ d ∈ l, p d) : ∀ d ∈ a :: l, p d := fun d hd => by
  rcases List.mem_cons.mp hd with e | e
  · rw [e]; exact h
  · exact k d e
theorem alln {p : D → Prop} : ∀ d ∈ ([] : List D), p d := fun d hd => nomatch hd
end DL
end L2

set_option Elab.async false
set_option linter.all false
set_option maxRecDepth 100000
namespace HT
open PySem PySem.Spec PyProof.Rows
section
variable {prog : Program} {w : World} {A : Around} {E : Value → Shared → Prop} {s : Shared}
end
end HT
namespace L2
open PySem PySem.Spec PyProof.Rows
section
variable {X : Cx}
end
namespace DL
section
variable {X : Cx} {W : WX} {e : Expr} {f : DE}
theorem PE.or {e : Expr} {u u' : TE} (h : PE X e u) (h' : PE X e u') : PE X e (fun σ H Q => u σ H Q ∨ u' σ H Q) := ⟨fun pins s σ H Q I q => q.elim (h.run pins s σ H Q I) (h'.run pins s σ H Q I)⟩
/-- x[::-1] -/
def oRev : Sto → D → Option D := fun S x => match x with
  | .tup ds => some (.tup ds.reverse)
  | d => (listOf S d).map fun ds => .lst ds.reverse
def dRev (f : DE) : DE := fun env S => (f env S).bind fun x S1 => lift (oRev S1 x) S1
end
end DL
end L2

set_option Elab.async false
set_option linter.all false
set_option maxRecDepth 100000
namespace L2
namespace DL
open PySem PySem.Spec PyProof.Rows

/-! ### a loop over a list that may be changed, and is not -/
open Classical in
noncomputable def keepC {A : Type} (n : Nat) (ds : List D) (S : Sto) (m : Out A) : Out A := if S[n]? = some (.lst ds) then m else .bad
section
variable {X : Cx} {E : XK} {f : DS} {fe : DE} {pos : Pos}
theorem Good.keepC {A : Type} {K : PySem.W.Frag} {mg : Str → Option Value} {t : List Addr} {Ex : Addr → Hp → Prop} {r : List Addr} {H : Hp} {n : Nat} {ds : List D} {S : Sto} {m : Out A} {R : A → Sto → List Addr → Hp → Prop}
    (g : Good K mg t Ex r H (DL.keepC n ds S m) R) : S[n]? = some (.lst ds) ∧ Good K mg t Ex r H m R := by
  unfold DL.keepC at g
  by_cases h : S[n]? = some (.lst ds)
  · rw [if_pos h] at g; exact ⟨h, g⟩
  · rw [if_neg h] at g; exact (show False from g).elim
end
/-! ### what a def gives back is changed no more -/
section
variable {K : PySem.W.Frag} {mg : Str → Option Value} {H H' : Hp} {r t nw : List Addr}
mutual
def ltD (k : Nat) : D → Bool
  | .tup ds => ltL k ds
  | .lst ds => ltL k ds
  | .fz ds => ltL k ds
  | .ref n => decide (n < k)
  | _ => true
def ltL (k : Nat) : List D → Bool
  | [] => true
  | d :: ds => ltD k d && ltL k ds
end
mutual
theorem Den.lt : ∀ (d : D) (v : V), Den K H r t v d → ltD r.length d = true
  | .non, _, _ => rfl
  | .bl _, _, _ => rfl
  | .int _, _, _ => rfl
  | .str _, _, _ => rfl
  | .ty _, _, _ => rfl
  | .tup ds, _, h => by cases h with | tup h z => exact DenL.lt ds _ z
  | .lst ds, _, h => by cases h with | lst h n m z => exact DenL.lt ds _ z
  | .fz ds, _, h => by cases h with | fz h z => exact DenL.lt ds _ z
  | .ref n, _, h => by cases h with | ref h => exact decide_eq_true (List.getElem?_eq_some_iff.mp h).1
theorem DenL.lt : ∀ (ds : List D) (vs : List V), DenL K H r t vs ds → ltL r.length ds = true
  | [], _, _ => rfl
  | d :: ds, _, h => by
    cases h with
    | cons h1 h2 =>
      show (ltD r.length d && ltL r.length ds) = true
      rw [Den.lt d _ h1, DenL.lt ds _ h2]
      rfl
end
mutual
theorem Den.back : ∀ (d : D) (v : V), Den K H (r ++ nw) t v d → ltD r.length d = true → Den K H r t v d
  | .non, _, h, _ => by cases h; exact .non
  | .bl b, _, h, _ => by cases h; exact .bl b
  | .int i, _, h, _ => by cases h; exact .int i
  | .str x, _, h, _ => by cases h; exact .str x
  | .ty n, _, h, _ => by cases h; exact .ty n
  | .tup ds, _, h, l => by cases h with | tup h z => exact .tup h (DenL.back ds _ z l)
  | .lst ds, _, h, l => by cases h with | lst h n m z => exact .lst h (fun q => n (List.mem_append_left _ q)) m (DenL.back ds _ z l)
  | .fz ds, _, h, l => by cases h with | fz h z => exact .fz h (DenL.back ds _ z l)
  | .ref n, _, h, l => by
    cases h with
    | ref h =>
      rw [List.getElem?_append_left (of_decide_eq_true l)] at h
      exact .ref h
theorem DenL.back : ∀ (ds : List D) (vs : List V), DenL K H (r ++ nw) t vs ds → ltL r.length ds = true → DenL K H r t vs ds
  | [], _, h, _ => by cases h; exact .nil
  | d :: ds, _, h, l => by
    have l' : (ltD r.length d && ltL r.length ds) = true := l
    rw [Bool.and_eq_true] at l'
    cases h with
    | cons h1 h2 => exact .cons (Den.back d _ h1 l'.1) (DenL.back ds _ h2 l'.2)
end
def ltC (k : Nat) : Cell → Bool
  | .lst ds => ltL k ds
  | .dK kvs => ltL k (kvs.map (·.2))
  | .dT kvs => ltL k (kvs.map (·.2))
  | .ins _ fs => ltL k (fs.map (·.2))
  | .exc _ => true
  | .fK kvs => ltL k (kvs.map (·.2))
  | .fT kvs => ltL k (kvs.map (·.2))
  | .dN kvs => ltL k (kvs.map (·.2))
  | .fN kvs => ltL k (kvs.map (·.2))
  | .tC ds => ltL k ds
  | .gone => true
theorem CellOk.lt {a : Addr} {c : Cell} (h : CellOk K mg H r t a c) : ltC r.length c = true := by
  cases c with
  | lst ds => obtain ⟨xs, _, z⟩ := h; exact DenL.lt _ _ z
  | dK ds => obtain ⟨xs, _, z⟩ := h; exact DenL.lt _ _ z.2
  | dT ds => obtain ⟨xs, _, z⟩ := h; exact DenL.lt _ _ z.2
  | ins c fs => obtain ⟨C, dx, ps, _, _, _, z⟩ := h; exact DenL.lt _ _ z.2
  | exc c => rfl
  | fK ds => obtain ⟨o, xs, _, z⟩ := h; exact DenL.lt _ _ z.2
  | fT ds => obtain ⟨o, xs, _, z⟩ := h; exact DenL.lt _ _ z.2
  | dN ds => obtain ⟨u, xs, _, _, z⟩ := h; exact DenL.lt _ _ z.2
  | fN ds => obtain ⟨o, u, xs, _, _, z⟩ := h; exact DenL.lt _ _ z.2
  | tC ds => obtain ⟨o, xs, _, _, z⟩ := h; exact DenL.lt _ _ z
  | gone => rfl
theorem CellOk.back {a : Addr} {c : Cell} (h : CellOk K mg H (r ++ nw) t a c) (l : ltC r.length c = true) : CellOk K mg H r t a c := by
  cases c with
  | lst ds => obtain ⟨xs, h1, z⟩ := h; exact ⟨xs, h1, DenL.back _ _ z l⟩
  | dK ds => obtain ⟨xs, h1, z⟩ := h; exact ⟨xs, h1, z.1, DenL.back _ _ z.2 l⟩
  | dT ds => obtain ⟨xs, h1, z⟩ := h; exact ⟨xs, h1, z.1, DenL.back _ _ z.2 l⟩
  | ins c fs => obtain ⟨C, dx, ps, h1, h2, h3, z⟩ := h; exact ⟨C, dx, ps, h1, h2, h3, z.1, DenL.back _ _ z.2 l⟩
  | exc c => exact h
  | fK ds => obtain ⟨o, xs, h1, z⟩ := h; exact ⟨o, xs, h1, z.1, DenL.back _ _ z.2 l⟩
  | fT ds => obtain ⟨o, xs, h1, z⟩ := h; exact ⟨o, xs, h1, z.1, DenL.back _ _ z.2 l⟩
  | dN ds => obtain ⟨u, xs, h1, n, z⟩ := h; exact ⟨u, xs, h1, n, z.1, DenL.back _ _ z.2 l⟩
  | fN ds => obtain ⟨o, u, xs, h1, n, z⟩ := h; exact ⟨o, u, xs, h1, n, z.1, DenL.back _ _ z.2 l⟩
  | tC ds => obtain ⟨o, xs, h1, hd, z⟩ := h; exact ⟨o, xs, h1, hd, DenL.back _ _ z l⟩
  | gone => exact h
-- new lists are taken as they are
mutual
def mapD (go : Nat → Option D) : D → Option D
  | .tup ds => (mapL go ds).map .tup
  | .lst ds => (mapL go ds).map .lst
  | .fz ds => (mapL go ds).map .fz
  | .ref n => go n
  | d => some d
def mapL (go : Nat → Option D) : List D → Option (List D)
  | [] => some []
  | d :: ds => match mapD go d, mapL go ds with
    | some e, some es => some (e :: es)
    | _, _ => none
end
def rsv (k : Nat) (S : Sto) : Nat → Nat → Option D
  | 0, n => if n < k then some (.ref n) else none
  | f + 1, n => if n < k then some (.ref n) else match S[n]? with
    | some (.lst ds) => (mapL (rsv k S f) ds).map .lst
    | _ => none
mutual
theorem mapD_ok {go : Nat → Option D} (hg : ∀ n a d, (r ++ nw)[n]? = some a → go n = some d → Den K H r t (.ref a) d) : ∀ (d e : D) (v : V), Den K H (r ++ nw) t v d → mapD go d = some e → Den K H r t v e
  | .non, _, _, h, q => by cases h; cases q; exact .non
  | .bl b, _, _, h, q => by cases h; cases q; exact .bl b
  | .int i, _, _, h, q => by cases h; cases q; exact .int i
  | .str x, _, _, h, q => by cases h; cases q; exact .str x
  | .ty n, _, _, h, q => by cases h; cases q; exact .ty n
  | .tup ds, _, _, h, q => by
    obtain ⟨es, q1, q2⟩ := Option.map_eq_some_iff.mp (show (mapL go ds).map D.tup = some _ from q)
    subst q2
    cases h with | tup h z => exact .tup h (mapL_ok hg ds es _ z q1)
  | .lst ds, _, _, h, q => by
    obtain ⟨es, q1, q2⟩ := Option.map_eq_some_iff.mp (show (mapL go ds).map D.lst = some _ from q)
    subst q2
    cases h with | lst h n m z => exact .lst h (fun q => n (List.mem_append_left _ q)) m (mapL_ok hg ds es _ z q1)
  | .fz ds, _, _, h, q => by
    obtain ⟨es, q1, q2⟩ := Option.map_eq_some_iff.mp (show (mapL go ds).map D.fz = some _ from q)
    subst q2
    cases h with | fz h z => exact .fz h (mapL_ok hg ds es _ z q1)
  | .ref n, e, _, h, q => by cases h with | ref h => exact hg n _ e h q
theorem mapL_ok {go : Nat → Option D} (hg : ∀ n a d, (r ++ nw)[n]? = some a → go n = some d → Den K H r t (.ref a) d) : ∀ (ds es : List D) (vs : List V), DenL K H (r ++ nw) t vs ds → mapL go ds = some es → DenL K H r t vs es
  | [], _, _, h, q => by cases h; cases q; exact .nil
  | d :: ds, _, _, h, q => by
    unfold mapL at q
    split at q
    · rename_i e es q1 q2
      cases q
      cases h with
      | cons h1 h2 => exact .cons (mapD_ok hg d e _ h1 q1) (mapL_ok hg ds es _ h2 q2)
    · cases q
end
theorem rsv_ok {S : Sto} (so : SOk K mg H (r ++ nw) t S) : ∀ (f n : Nat) (a : Addr) (d : D), (r ++ nw)[n]? = some a → rsv r.length S f n = some d → Den K H r t (.ref a) d
  | 0, n, a, d, h, q => by
    unfold rsv at q
    split at q
    · rename_i hn
      cases q
      rw [List.getElem?_append_left hn] at h
      exact .ref h
    · cases q
  | f + 1, n, a, d, h, q => by
    unfold rsv at q
    split at q
    · rename_i hn
      cases q
      rw [List.getElem?_append_left hn] at h
      exact .ref h
    · rename_i hn
      split at q
      · rename_i ds hds
        obtain ⟨es, q1, q2⟩ := Option.map_eq_some_iff.mp q
        subst q2
        obtain ⟨xs, h1, z⟩ := so.ok n a _ h hds
        refine .lst h1 (fun z => ?_) (fun z => (so.hid a z).2 (List.mem_of_getElem? h)) (mapL_ok (rsv_ok so f) ds es xs z q1)
        obtain ⟨i, hi, e⟩ := List.getElem_of_mem z
        have e2 : (r ++ nw)[i]? = some a := by rw [List.getElem?_append_left hi, List.getElem?_eq_getElem hi, e]
        have := nodup_get so.nd e2 h
        omega
      · cases q
end
open Classical in
noncomputable def frzF (f : Fn) : Fn := fun ds S => match f ds S with
  | .ok d S1 => if ∀ j c, j < S.length → S1[j]? = some c → S[j]? = some c ∨ ltC S.length c = true then match mapD (rsv S.length S1 64) d with
      | some e => .ok e (S1.take S.length)
      | none => .bad
    else .bad
  | .exc c S1 => if ∀ j c, j < S.length → S1[j]? = some c → S[j]? = some c ∨ ltC S.length c = true then .exc c (S1.take S.length) else .bad
  | .bad => .bad
section
variable {K : PySem.W.Frag} {mg : Str → Option Value} {H H' : Hp} {r r' t : List Addr} {S S1 : Sto}
theorem so_drop (so : SOk K mg H r t S) (ex : Ext r H r' H') (so1 : SOk K mg H' r' t S1) (hc : ∀ j c, j < S.length → S1[j]? = some c → S[j]? = some c ∨ ltC S.length c = true) :
    ∃ nw, r' = r ++ nw ∧ Ext r H r H' ∧ SOk K mg H' r t (S1.take S.length) := by
  obtain ⟨nw, e, hn⟩ := ex.pre
  subst e
  have hl : (r ++ nw).length = S1.length := so1.len
  rw [List.length_append] at hl
  have hrl := so.len
  refine ⟨nw, rfl, ⟨⟨[], by simp⟩, ex.keep, ex.tups, ex.frzs, ex.frzt, ex.owns, ex.there⟩, ⟨by rw [List.length_take]; omega, (List.nodup_append.mp so1.nd).1, fun n a c h1 h2 => ?_, fun a ha => ⟨(so1.hid a ha).1, fun z => (so1.hid a ha).2 (List.mem_append_left _ z)⟩⟩⟩
  have hn1 := (List.getElem?_eq_some_iff.mp h1).1
  rw [List.getElem?_take, if_pos (by omega)] at h2
  have ok := so1.ok n a c (by rw [List.getElem?_append_left hn1]; exact h1) h2
  refine ok.back ?_
  rcases hc n c (by omega) h2 with q | q
  · exact (so.ok n a c h1 q).lt
  · rw [hrl]; exact q
theorem spD_frz {n : Nat} {f : Fn} : ∀ vs H Q E, spD K mg n (frzF f) vs H Q E → spD K mg n f vs H Q E := fun vs H Q E q => by
  obtain ⟨h1, r, t, S, ds, so, z, g⟩ := q
  refine ⟨h1, r, t, S, ds, so, z, ?_⟩
  unfold frzF at g
  cases hf : f ds S with
  | bad => rw [hf] at g; exact (show False from g).elim
  | exc c S1 =>
    rw [hf] at g
    dsimp only at g
    intro C H1 r1 hC ex so1
    by_cases hc : ∀ j c, j < S.length → S1[j]? = some c → S[j]? = some c ∨ ltC S.length c = true
    · rw [if_pos hc] at g
      obtain ⟨nw, e, ex2, so2⟩ := so_drop so ex so1 hc
      exact g C H1 r hC ex2 so2
    · rw [if_neg hc] at g; exact (show False from g).elim
  | ok d S1 =>
    rw [hf] at g
    dsimp only at g
    intro H1 r1 ex so1 v dv
    by_cases hc : ∀ j c, j < S.length → S1[j]? = some c → S[j]? = some c ∨ ltC S.length c = true
    · rw [if_pos hc] at g
      obtain ⟨nw, e, ex2, so2⟩ := so_drop so ex so1 hc
      subst e
      split at g
      · rename_i e he
        refine g H1 r ex2 so2 v (mapD_ok (nw := nw) (rsv_ok so1 64) d e v dv ?_)
        rw [so.len]
        exact he
      · exact (show False from g).elim
    · rw [if_neg hc] at g; exact (show False from g).elim
theorem Callee.frz {P : Program} {w : World} {base : Heap} {CX : CXT} {k n : Nat} {x : Str} {fn : Fn} (c : Callee P w K mg base CX k x n fn) : Callee P w K mg base CX k x n (frzF fn) := by
  obtain ⟨f, fd, ps, F, a, b, d⟩ := c
  exact ⟨f, fd, ps, F.imp spD_frz, a, b, d⟩
end
theorem wp_frz {f : Fn} {ds : List D} {S : Sto} {P : D → Sto → Prop} (h : Wp (f ds S) fun d S1 => (∀ j c, j < S.length → S1[j]? = some c → S[j]? = some c ∨ ltC S.length c = true) ∧ ∃ e, mapD (rsv S.length S1 64) d = some e ∧ P e (S1.take S.length)) : Wp (frzF f ds S) P := by
  obtain ⟨d, S1, e, hc, e2, h2, p⟩ := h.get
  unfold frzF
  rw [e]
  dsimp only
  rw [if_pos hc, h2]
  exact Wp.of rfl p
-- a list of plain things stays what it is
mutual
theorem mapD_id {go : Nat → Option D} : ∀ d : D, ltD 0 d = true → mapD go d = some d
  | .non, _ => rfl
  | .bl _, _ => rfl
  | .int _, _ => rfl
  | .str _, _ => rfl
  | .ty _, _ => rfl
  | .tup ds, h => by show (mapL go ds).map D.tup = _; rw [mapL_id ds h]; rfl
  | .lst ds, h => by show (mapL go ds).map D.lst = _; rw [mapL_id ds h]; rfl
  | .fz ds, h => by show (mapL go ds).map D.fz = _; rw [mapL_id ds h]; rfl
  | .ref n, h => by exact absurd (of_decide_eq_true (show decide (n < 0) = true from h)) (Nat.not_lt_zero n)
theorem mapL_id {go : Nat → Option D} : ∀ ds : List D, ltL 0 ds = true → mapL go ds = some ds
  | [], _ => rfl
  | d :: ds, h => by
    have h' : (ltD 0 d && ltL 0 ds) = true := h
    rw [Bool.and_eq_true] at h'
    unfold mapL
    rw [mapD_id d h'.1, mapL_id ds h'.2]
end
end DL
end L2

set_option Elab.async false
set_option linter.all false
set_option maxRecDepth 100000
namespace L2
namespace DL
open PySem PySem.Spec PyProof.Rows

/-! ### equality of plain things -/
mutual
def plD : Nat → D → Bool
  | _, .non => true
  | _, .int _ => true
  | _, .str x => PyData.strOk x
  | n + 1, .tup ds => plL n ds
  | n + 1, .lst ds => plL n ds
  | _, _ => false
def plL : Nat → List D → Bool
  | _, [] => true
  | n, d :: ds => plD n d && plL n ds
end
mutual
def noB : PyData → Bool
  | .bool _ => false
  | .list xs => noBs xs
  | .tuple xs => noBs xs
  | .dict _ => false
  | _ => true
def noBs : List PyData → Bool
  | [] => true
  | x :: xs => noB x && noBs xs
end
structure PyOk (n : Nat) (p : PyData) : Prop where
  lay : p.canLay0 = true
  dep : p.depth ≤ n
  nob : noB p = true
structure PysOk (n : Nat) (ps : List PyData) : Prop where
  lay : PyData.canLayAll0 ps = true
  dep : PyData.depthAll ps ≤ n
  nob : noBs ps = true
mutual
theorem plD_py : ∀ (n : Nat) (d : D), plD n d = true → ∃ p, toPy d = some p ∧ PyOk n p
  | n, .non, _ => ⟨.none, rfl, rfl, Nat.zero_le _, rfl⟩
  | n, .int i, _ => ⟨.int i, rfl, rfl, Nat.zero_le _, rfl⟩
  | n, .str x, h => ⟨.str x, rfl, by cases n <;> exact h, Nat.zero_le _, rfl⟩
  | n + 1, .tup ds, h => by
    obtain ⟨ps, e, o⟩ := plL_py n ds h
    refine ⟨.tuple ps, ?_, o.lay, Nat.succ_le_succ o.dep, o.nob⟩
    unfold toPy
    rw [e]
  | n + 1, .lst ds, h => by
    obtain ⟨ps, e, o⟩ := plL_py n ds h
    refine ⟨.list ps, ?_, o.lay, Nat.succ_le_succ o.dep, o.nob⟩
    unfold toPy
    rw [e]
  | 0, .tup _, h => by cases h
  | 0, .lst _, h => by cases h
  | 0, .bl _, h => by cases h
  | _ + 1, .bl _, h => by cases h
  | 0, .fz _, h => by cases h
  | _ + 1, .fz _, h => by cases h
  | 0, .ref _, h => by cases h
  | _ + 1, .ref _, h => by cases h
  | 0, .ty _, h => by cases h
  | _ + 1, .ty _, h => by cases h
theorem plL_py : ∀ (n : Nat) (ds : List D), plL n ds = true → ∃ ps, toPyL ds = some ps ∧ PysOk n ps
  | n, [], _ => ⟨[], rfl, rfl, Nat.zero_le _, rfl⟩
  | n, d :: ds, h => by
    have h' : (plD n d && plL n ds) = true := h
    rw [Bool.and_eq_true] at h'
    obtain ⟨p, e1, o1⟩ := plD_py n d h'.1
    obtain ⟨ps, e2, o2⟩ := plL_py n ds h'.2
    refine ⟨p :: ps, ?_, ?_, Nat.max_le.mpr ⟨o1.dep, o2.dep⟩, ?_⟩
    · unfold toPyL
      rw [e1, e2]
    · show (p.canLay0 && PyData.canLayAll0 ps) = true
      rw [o1.lay, o2.lay]
      rfl
    · show (noB p && noBs ps) = true
      rw [o1.nob, o2.nob]
      rfl
end
mutual
theorem eqv_iff : ∀ p q : PyData, noB p = true → noB q = true → (PyData.eqv p q = true ↔ p = q)
  | .none, q, _, hq => by cases q <;> simp [PyData.eqv]
  | .int i, q, _, hq => by cases q <;> first | (cases hq; done) | simp [PyData.eqv]
  | .str i, q, _, hq => by cases q <;> first | (cases hq; done) | simp [PyData.eqv]
  | .list xs, q, hp, hq => by
    cases q with
    | list ys =>
      have := eqvs_iff xs ys hp hq
      simp only [PyData.eqv, this]
      exact ⟨fun h => by rw [h], fun h => PyData.list.inj h⟩
    | _ => first | (cases hq; done) | simp [PyData.eqv]
  | .tuple xs, q, hp, hq => by
    cases q with
    | tuple ys =>
      have := eqvs_iff xs ys hp hq
      simp only [PyData.eqv, this]
      exact ⟨fun h => by rw [h], fun h => PyData.tuple.inj h⟩
    | _ => first | (cases hq; done) | simp [PyData.eqv]
  | .bool _, _, h, _ => by cases h
  | .dict _, _, h, _ => by cases h
theorem eqvs_iff : ∀ xs ys : List PyData, noBs xs = true → noBs ys = true → (PyData.eqvAll xs ys = true ↔ xs = ys)
  | [], [], _, _ => by simp [PyData.eqvAll]
  | [], _ :: _, _, _ => by simp [PyData.eqvAll]
  | _ :: _, [], _, _ => by simp [PyData.eqvAll]
  | x :: xs, y :: ys, h, k => by
    have h' : (noB x && noBs xs) = true := h
    have k' : (noB y && noBs ys) = true := k
    rw [Bool.and_eq_true] at h' k'
    simp only [PyData.eqvAll, Bool.and_eq_true, eqv_iff x y h'.1 k'.1, eqvs_iff xs ys h'.2 k'.2, List.cons.injEq]
end
mutual
theorem toPy_inj : ∀ (n m : Nat) (d e : D) (p : PyData), plD n d = true → plD m e = true → toPy d = some p → toPy e = some p → d = e
  | n, m, .non, e, p, _, he, h1, h2 => by
    cases h1
    cases e <;> first | rfl | (cases h2; done) | (unfold toPy at h2; split at h2 <;> cases h2)
  | n, m, .int i, e, p, _, he, h1, h2 => by
    cases h1
    cases e <;> first | (cases h2; rfl) | (cases h2; done) | (unfold toPy at h2; split at h2 <;> cases h2)
  | n, m, .str i, e, p, _, he, h1, h2 => by
    cases h1
    cases e <;> first | (cases h2; rfl) | (cases h2; done) | (unfold toPy at h2; split at h2 <;> cases h2)
  | n + 1, m, .tup ds, e, p, hd, he, h1, h2 => by
    unfold toPy at h1
    split at h1
    · rename_i ps e1
      cases h1
      cases e with
      | tup es =>
        unfold toPy at h2
        split at h2
        · rename_i qs e2
          cases h2
          cases m with
          | zero => cases he
          | succ m => rw [toPyL_inj n m ds es _ hd he e1 e2]
        · cases h2
      | lst es => unfold toPy at h2; split at h2 <;> cases h2
      | fz es => unfold toPy at h2; split at h2 <;> cases h2
      | _ => cases h2
    · cases h1
  | n + 1, m, .lst ds, e, p, hd, he, h1, h2 => by
    unfold toPy at h1
    split at h1
    · rename_i ps e1
      cases h1
      cases e with
      | lst es =>
        unfold toPy at h2
        split at h2
        · rename_i qs e2
          cases h2
          cases m with
          | zero => cases he
          | succ m => rw [toPyL_inj n m ds es _ hd he e1 e2]
        · cases h2
      | tup es => unfold toPy at h2; split at h2 <;> cases h2
      | fz es => cases m <;> cases he
      | _ => cases h2
    · cases h1
  | 0, _, .tup _, _, _, h, _, _, _ => by cases h
  | 0, _, .lst _, _, _, h, _, _, _ => by cases h
  | 0, _, .bl _, _, _, h, _, _, _ => by cases h
  | _ + 1, _, .bl _, _, _, h, _, _, _ => by cases h
  | 0, _, .fz _, _, _, h, _, _, _ => by cases h
  | _ + 1, _, .fz _, _, _, h, _, _, _ => by cases h
  | 0, _, .ref _, _, _, h, _, _, _ => by cases h
  | _ + 1, _, .ref _, _, _, h, _, _, _ => by cases h
  | 0, _, .ty _, _, _, h, _, _, _ => by cases h
  | _ + 1, _, .ty _, _, _, h, _, _, _ => by cases h
theorem toPyL_inj : ∀ (n m : Nat) (ds es : List D) (ps : List PyData), plL n ds = true → plL m es = true → toPyL ds = some ps → toPyL es = some ps → ds = es
  | n, m, [], es, ps, _, _, h1, h2 => by
    cases h1
    cases es with
    | nil => rfl
    | cons e es => unfold toPyL at h2; split at h2 <;> cases h2
  | n, m, d :: ds, es, ps, hd, he, h1, h2 => by
    have hd' : (plD n d && plL n ds) = true := hd
    rw [Bool.and_eq_true] at hd'
    unfold toPyL at h1
    split at h1
    · rename_i p ps a1 a2
      cases h1
      cases es with
      | nil => cases h2
      | cons e es =>
        have he' : (plD m e && plL m es) = true := he
        rw [Bool.and_eq_true] at he'
        unfold toPyL at h2
        split at h2
        · rename_i q qs b1 b2
          cases h2
          rw [toPy_inj n m d e _ hd'.1 he'.1 a1 b1, toPyL_inj n m ds es _ hd'.2 he'.2 a2 b2]
        · cases h2
    · cases h1
end
theorem shaped_ok {p : PyData} (h : PyOk 64 p) : SeqAt.shaped p = true := by
  show (p.canLay0 && decide (p.depth ≤ 64)) = true
  rw [h.lay, decide_eq_true h.dep]
  rfl
open Classical in
theorem eqD_pl {S : Sto} {x y : D} (neg : Bool) (hx : plD 64 x = true) (hy : plD 64 y = true) : oEqD neg S x y = some (.bl (neg ^^ decide (x = y))) := by
  have tx : topD S x = x := by cases x <;> first | rfl | cases hx
  have ty : topD S y = y := by cases y <;> first | rfl | cases hy
  obtain ⟨p, e1, o1⟩ := plD_py 64 x hx
  obtain ⟨q, e2, o2⟩ := plD_py 64 y hy
  unfold oEqD
  rw [tx, ty, e1, e2]
  dsimp only
  rw [shaped_ok o1, shaped_ok o2, Bool.and_self, if_pos rfl]
  have : PyData.eqv p q = decide (x = y) := by
    rw [Bool.eq_iff_iff, eqv_iff p q o1.nob o2.nob, decide_eq_true_eq]
    exact ⟨fun h => toPy_inj 64 64 x y p hx hy e1 (by rw [e2, h]), fun h => by subst h; rw [e1] at e2; exact Option.some.inj e2⟩
  rw [this]
def compD : D → Bool
  | .tup _ => true
  | .lst _ => true
  | _ => false
open Classical in
theorem ne_pl {S : Sto} {x y : D} (hc : (compD x || compD y) = true) (hx : plD 64 x = true) (hy : plD 64 y = true) : oNe S x y = some (.bl (!decide (x = y))) := by
  refine (orO_none ?_).trans ((eqD_pl true hx hy).trans (by rw [Bool.true_xor]))
  cases x <;> cases y <;> first | rfl | (cases hc; done) | (cases hx; done) | (cases hy; done)
theorem plL_mem {n : Nat} : ∀ {ds : List D}, (∀ d ∈ ds, plD n d = true) → plL n ds = true
  | [], _ => by cases n <;> rfl
  | d :: ds, h => by
    have : plL n (d :: ds) = (plD n d && plL n ds) := by cases n <;> rfl
    rw [this, h d List.mem_cons_self, plL_mem fun d hd => h d (List.mem_cons_of_mem _ hd)]
    rfl
theorem plL_ints (n : Nat) (ns : List Int) : plL n (ns.map D.int) = true := plL_mem fun d hd => by
  obtain ⟨i, _, e⟩ := List.mem_map.mp hd
  subst e
  cases n <;> rfl
end DL
end L2

set_option Elab.async false
set_option linter.all false
set_option maxRecDepth 100000
namespace L2
namespace DL
open PySem PySem.Spec PyProof.Rows

/-! ### tuple(range(n)), list(range(n)) -/
def rgD (d : D) : Option (List D) := match d with
  | .int j => if -1000 ≤ j ∧ j ≤ 100000 then some (rngL 0 j.toNat) else none
  | _ => none
def dTupRg (fa : DE) : DE := fun env S => (fa env S).bind fun d S1 => lift ((rgD d).map .tup) S1
def dLstRg (fa : DE) : DE := fun env S => (fa env S).bind fun d S1 => lift ((rgD d).map .lst) S1
section
variable {X : Cx} {W : WX} {a : Expr} {fa : DE} {p p2 pos pos2 : Pos}
end
section
variable {env : Ev} {S : Sto} {P : D → Sto → Prop} {fa : DE} {x : D}
def kTupRg (P : D → Sto → Prop) (d : D) (S : Sto) : Prop := Wp (lift ((rgD d).map .tup) S) P
def kLstRg (P : D → Sto → Prop) (d : D) (S : Sto) : Prop := Wp (lift ((rgD d).map .lst) S) P
theorem w_TupRg : Wp (dTupRg fa env S) P = Wp (fa env S) (kTupRg P) := by unfold dTupRg; simp only [wp_bind]; rfl
theorem w_LstRg : Wp (dLstRg fa env S) P = Wp (fa env S) (kLstRg P) := by unfold dLstRg; simp only [wp_bind]; rfl
theorem k_TupRg : kTupRg P x S = Wp (lift ((rgD x).map .tup) S) P := rfl
theorem k_LstRg : kLstRg P x S = Wp (lift ((rgD x).map .lst) S) P := rfl
def kRev (P : D → Sto → Prop) (x : D) (S : Sto) : Prop := Wp (lift (oRev S x) S) P
theorem w_Rev : Wp (dRev fa env S) P = Wp (fa env S) (kRev P) := by unfold dRev; simp only [wp_bind]; rfl
theorem k_Rev : kRev P x S = Wp (lift (oRev S x) S) P := rfl
theorem rev_tup (S : Sto) (ds : List D) : oRev S (.tup ds) = some (.tup ds.reverse) := rfl
theorem rev_lst (S : Sto) (ds : List D) : oRev S (.lst ds) = some (.lst ds.reverse) := rfl
end
end DL
end L2

set_option Elab.async false
set_option linter.all false
set_option maxRecDepth 100000
set_option maxHeartbeats 1000000
/-! tables whose keys are tuples of whole numbers and of such tuples: read and written. -/
namespace L2
namespace DL
open PySem PySem.Spec PyProof.Rows
/-! ### their hashes, whatever the world -/
mutual
theorem KeyV.free {H : Hp} (w w' : World) : ∀ (k : NestedKey) (v : V), KeyV H k v → k.hash w = k.hash w'
  | .none, _, h => by cases h
  | .num i, _, _ => by simp only [NestedKey.hash]
  | .text x, _, h => by cases h
  | .tup ks, _, h => by
    cases h with
    | tup h z =>
      simp only [NestedKey.hash]
      rw [KeyVs.free w w' ks _ z]
theorem KeyVs.free {H : Hp} (w w' : World) : ∀ (ks : List NestedKey) (vs : List V), KeyVs H ks vs → NestedKey.hashes w ks = NestedKey.hashes w' ks
  | [], _, _ => by simp only [NestedKey.hashes]
  | k :: ks, _, h => by
    cases h with
    | cons h1 h2 =>
      simp only [NestedKey.hashes]
      rw [KeyV.free w w' k _ h1, KeyVs.free w w' ks _ h2]
end
section
variable {P : Program} {w : World} {H : Hp} {h : Heap}
mutual
theorem KeyV.is (ok : HOk P w H h) : ∀ (k : NestedKey) (v : V) (u : Value), KeyV H k v → RelV v u → NestedIs h k u
  | .none, _, _, z, _ => by cases z
  | .num i, _, u, z, r => by
    cases z
    obtain ⟨t, e⟩ := r
    subst e
    exact .int i t
  | .text x, _, _, z, _ => by cases z
  | .tup ks, _, u, z, r => by
    cases z with
    | @tup a xs _ ha z =>
      have e : u = Value.ref a := r
      subst e
      obtain ⟨_, its, rv, ob, hg, hc, n, hd⟩ := ok a _ ha
      exact .tup hg hc hd (KeyVs.is ok ks _ _ z rv)
theorem KeyVs.is (ok : HOk P w H h) : ∀ (ks : List NestedKey) (vs : List V) (us : List Value), KeyVs H ks vs → Vals vs us → NestedAll h ks us
  | [], _, _, z, r => by
    cases z
    cases r
    exact .nil
  | k :: ks, _, _, z, r => by
    cases z with
    | cons z1 z2 =>
      cases r with
      | cons r1 r2 => exact .cons (KeyV.is ok k _ _ z1 r1) (KeyVs.is ok ks _ _ z2 r2)
end
theorem NPair.all {ps : List (NestedKey × V)} {xs : List (NestedKey × Addr × Value)} (r : Paired (NPair H) ps xs) {Q : NestedKey × Addr × Value → Prop} (q : ∀ p x, NPair H p x → Q x) : ∀ x ∈ xs, Q x := by
  induction r with
  | nil => exact fun x hx => absurd hx List.not_mem_nil
  | cons h1 _ ih =>
    intro x hx
    rcases List.mem_cons.mp hx with e | e
    · rw [e]; exact q _ _ h1
    · exact ih x e
/-- a table there, locked or not -/
def TabN (H : Hp) (a : Addr) (ps : List (NestedKey × V)) : Prop := ∃ u, NT H a u ps ∧ (H a = some u ∨ ∃ o, H a = some (.frz o u))
theorem tabN_rd {a : Addr} {ps : List (NestedKey × V)} (ok : HOk P w H h) (n : TabN H a ps) : ps.length ≤ sizeLine ∧ (a == sysModules) = false ∧ ∃ xs, Paired (NPair H) ps xs ∧ h.DictOfH (nestedKind P w) a xs := by
  obtain ⟨u, ⟨es, xs, e, h1, h2, h3, h4, h5⟩, hu⟩ := n
  subst e
  have φ : ∃ (o : Obj) (ep : Nat), h.get? a = some o ∧ o.ExactDict ∧ o.data = .dict es ep := by
    rcases hu with hu | ⟨o, hu⟩
    · exact (ok a _ hu).1
    · exact (ok a _ hu).2.1
  obtain ⟨o, ep, q1, q2, q3⟩ := φ
  refine ⟨h1, h2, xs, h5, o, es, ep, q1, q2, q3, h3 P w, NPair.all h5 fun p x z => ?_, h4⟩
  obtain ⟨e, z1, z2, _⟩ := z
  rw [e] at z1 z2
  exact ⟨KeyV.is ok x.1 (.ref x.2.1) (.ref x.2.1) z1 rfl, z2⟩
theorem np_val {ps : List (NestedKey × V)} {xs : List (NestedKey × Addr × Value)} (r : Paired (NPair H) ps xs) (k : NestedKey) : RelO (valV ps k) ((atKey xs k).map (·.2)) := by
  induction r with
  | nil => exact trivial
  | @cons p x ps xs h1 _ ih =>
    obtain ⟨e, _, _, rv⟩ := h1
    by_cases q : p.1 = k
    · have e2 : (atKey (x :: xs) k).map (·.2) = some x.2.2 := by simp [atKey, List.find?_cons, ← e, q]
      rw [valV_pos q, e2]
      exact rv
    · have e2 : (atKey (x :: xs) k).map (·.2) = (atKey xs k).map (·.2) := by simp [atKey, List.find?_cons, ← e, q]
      rw [valV_neg q, e2]
      exact ih
theorem np_len {ps : List (NestedKey × V)} {xs : List (NestedKey × Addr × Value)} (r : Paired (NPair H) ps xs) : ps.length = xs.length := Paired.length r
theorem np_any {ps : List (NestedKey × V)} {xs : List (NestedKey × Addr × Value)} (r : Paired (NPair H) ps xs) (k : NestedKey) : (ps.any fun kv => decide (kv.1 = k)) = (atKey xs k).isSome := by
  have h1 := (np_val r k).isSome_eq
  rw [Option.isSome_map] at h1
  rw [valV_any, h1]
theorem np_repl {ps : List (NestedKey × V)} {xs : List (NestedKey × Addr × Value)} (r : Paired (NPair H) ps xs) (k : NestedKey) {y : V} {u : Value} (ry : RelV y u) : Paired (NPair H) (ps.map fun kv => if kv.1 = k then (kv.1, y) else kv) (xs.map (putAt k u)) := by
  induction r with
  | nil => exact .nil
  | @cons p x ps xs h1 _ ih =>
    rw [List.map_cons, List.map_cons]
    refine .cons ?_ ih
    obtain ⟨e, z1, z2, z3⟩ := h1
    unfold putAt
    by_cases q : p.1 = k
    · rw [if_pos q, if_pos (e ▸ q)]
      exact ⟨e, z1, z2, ry⟩
    · rw [if_neg q, if_neg fun z => q (e.trans z)]
      exact ⟨e, z1, z2, z3⟩
theorem np_snoc {p : NestedKey × V} {x : NestedKey × Addr × Value} (h1 : NPair H p x) : ∀ {ps : List (NestedKey × V)} {xs : List (NestedKey × Addr × Value)}, Paired (NPair H) ps xs → Paired (NPair H) (ps ++ [p]) (xs ++ [x])
  | _, _, .nil => .cons h1 .nil
  | _, _, .cons h2 h3 => .cons h2 (np_snoc h1 h3)
theorem np_put {ps : List (NestedKey × V)} {xs : List (NestedKey × Addr × Value)} (r : Paired (NPair H) ps xs) (k : NestedKey) {b : Addr} {y : V} {u : Value} (kb : KeyV H k (.ref b)) (kd : k.depth ≤ 8) (ry : RelV y u) : Paired (NPair H) (putK ps k y) (storedH xs k b u) := by
  unfold putK storedH
  rw [np_any r k]
  cases (atKey xs k).isSome with
  | true => exact np_repl r k ry
  | false => exact np_snoc ⟨rfl, kb, kd, ry⟩ r
/-- the entries, told of one world, hold in all -/
theorem np_free {es : Array DictEntry} {ps : List (NestedKey × V)} {xs : List (NestedKey × Addr × Value)} (r : Paired (NPair H) ps xs) (e : es.toList = xs.map (entryOfKey (nestedKind P w))) : ∀ P' w', es.toList = xs.map (entryOfKey (nestedKind P' w')) := fun P' w' => by
  rw [e]
  refine List.map_congr_left fun x hx => ?_
  have hk : x.1.hash w = x.1.hash w' := NPair.all r (Q := fun x => x.1.hash w = x.1.hash w') (fun p x z => by rw [← z.1]; exact KeyV.free w w' _ _ z.2.1) x hx
  show DictEntry.mk (x.1.hash w) _ _ = DictEntry.mk (x.1.hash w') _ _
  rw [hk]
/-- the object of a table, laid or changed -/
theorem nTab_ok {H' : Hp} {a : Addr} {es : Array DictEntry} {o : Obj} {ep : Nat} (h1 : h.get? a = some o) (h2 : o.ExactDict) (h3 : o.data = .dict es ep) : ObjOk P w H' h a (nTab a es) :=
  ⟨⟨o, ep, h1, h2, h3⟩, ⟨o, h1⟩, fun _ _ ⟨o1, ep1, q1, q2, q3⟩ k => ⟨o1, ep1, k _ q1, q2, q3⟩⟩
theorem tup_upd {a : Addr} {u v : HO} (hu : H a = some u) (hn : ∀ xs, u ≠ .tup xs) : ∀ b xs, H b = some (.tup xs) → upd H a v b = some (.tup xs) := fun b xs e => by
  rw [upd_ne (fun z => by rw [z, hu] at e; cases e; exact hn _ rfl)]
  exact e
theorem nTab_tup {a : Addr} {es : Array DictEntry} : ∀ xs, nTab a es ≠ .tup xs := fun xs z => by
  unfold nTab at z
  cases z
end
section
variable {X : Cx} {pins : List (Addr × Obj)} {σ : St} {H : Hp} {s : Shared} {a b : Addr} {ps : List (NestedKey × V)} {k : NestedKey} {v : V} {u : HO} {r : Value} {A : Around} {E : Value → Shared → Prop}
theorem n_room (hu : A.units + 9 < cLine) : (nestedKind X.prog X.w).room A.in1 := by
  show A.units + 1 + 8 < cLine
  omega
theorem n_key (I : Inv X pins σ H s) (kb : KeyV H k (.ref b)) (kd : k.depth ≤ 8) : (nestedKind X.prog X.w).is s.heap k b := ⟨KeyV.is I.hok _ _ _ kb rfl, kd⟩
/-- d[y] = v -/
theorem n_setItem {Q : Unit → Shared → Prop} (hu : A.units + 9 < cLine) (I : Inv X pins σ H s) (ha : H a = some u) (n : NT H a u ps) (kb : KeyV H k (.ref b)) (kd : k.depth ≤ 8) (hl : ps.length < sizeLine) (rv : RelV v r)
    (h : ∀ u' s', NT (upd H a u') a u' (putK ps k v) → (∃ es, u' = nTab a es) → Inv X pins σ (upd H a u') s' → Q () s') : wpAny (model X.prog X.w) A (setItem (.ref a) (.ref b) r) Q E s := by
  obtain ⟨z, hd, xs, rel, dd⟩ := tabN_rd I.hok ⟨u, n, .inl ha⟩
  have hz : xs.length ≤ sizeLine := by rw [← np_len rel]; exact z
  obtain ⟨es0, _, eu, _⟩ := n
  subst eu
  refine wpAny_setItem_heap (hsz := hz) (n_room hu) (n_key I kb kd) dd fun h' dd' hs => ?_
  obtain ⟨q, es, ep, hq, h2, h3, h4, _, h5⟩ := dd'
  have rel2 := np_put rel k kb kd rv
  have hl2 : (putK ps k v).length ≤ sizeLine := by have := length_putK ps k v; omega
  have n2 : NT H a (nTab a es) (putK ps k v) := ⟨es, _, rfl, hl2, hd, np_free rel2 h4, h5, rel2⟩
  refine h (nTab a es) _ (n2.keep (tup_upd ha nTab_tup)) ⟨es, rfl⟩ (d_write I (by rw [ha]; exact True.intro) hs ⟨q, hq⟩ (nTab_ok hq h2 h3))
end
/-! ### what a table of any kind holds -/
/-- what the table at a holds at the key y, whatever its keys -/
def DGetX (H : Hp) (a : Addr) (y : V) (o : Option V) : Prop := DGet H a y o ∨ ∃ ps k b, TabN H a ps ∧ y = .ref b ∧ KeyV H k (.ref b) ∧ k.depth ≤ 8 ∧ o = valV ps k
def IsDX (H : Hp) (a : Addr) : Prop := IsD H a ∨ ∃ ps, TabN H a ps
section
variable {X : Cx} {pins : List (Addr × Obj)} {σ : St} {H : Hp} {s : Shared} {a : Addr} {y v d : V} {u r : Value} {o : Option V} {A : Around} {E : Value → Shared → Prop}
theorem isDX_at (I : Inv X pins σ H s) (x : IsDX H a) : s.TypeIs (.ref a) "dict" ∧ (∀ b, Value.ref a = .ref b → ∃ ob, s.heap.get? b = some ob ∧ ob.dict = none) ∧ (a == sysModules) = false := by
  rcases x with x | ⟨ps, x⟩
  · exact isD_at I x
  · obtain ⟨_, hd, xs, _, dd⟩ := tabN_rd I.hok x
    refine ⟨dd.typeIs, fun b q => ?_, hd⟩
    cases q
    obtain ⟨ob, _, _, h1, h2, _⟩ := dd
    exact ⟨ob, h1, h2.2.1⟩
theorem xget_type (I : Inv X pins σ H s) (g : DGetX H a y o) : s.TypeIs (.ref a) "dict" := by
  rcases g with g | ⟨ps, k, b, x, _⟩
  · exact dict_typeIs I g
  · exact (isDX_at I (.inr ⟨ps, x⟩)).1
theorem x_getItem {Q : Value → Shared → Prop} (hu : A.units + 9 < cLine) (I : Inv X pins σ H s) (g : DGetX H a y (some v)) (ry : RelV y u) (h : ∀ w' s', Inv X pins σ H s' → RelV v w' → Q w' s') :
    wpAny (model X.prog X.w) A (getItem (.ref a) u) Q E s := by
  rcases g with g | ⟨ps, k, b, x, ey, kb, kd, l⟩
  · exact d_getItem (by omega) I g ry h
  · subst ey
    cases (show u = Value.ref b from ry)
    obtain ⟨z, hd, xs, rel, dd⟩ := tabN_rd I.hok x
    obtain ⟨w', hw, rw'⟩ := RelO.some_of (v := v) (o := (atKey xs k).map (·.2)) (by rw [l]; exact np_val rel k)
    obtain ⟨p, hp, hp2⟩ := Option.map_eq_some_iff.mp hw
    refine wpAny_getItem_heap (n_room hu) (n_key I kb kd) dd hp ?_
    rw [hp2]
    exact h w' _ (I.tok _) rw'
theorem x_in {Q : Value → Shared → Prop} (hu : A.units + 9 < cLine) (I : Inv X pins σ H s) (g : DGetX H a y o) (ry : RelV y u) (h : ∀ s', Inv X pins σ H s' → Q (.bool o.isSome) s') :
    wpAny (model X.prog X.w) A (compareOp .In u (.ref a)) Q E s := by
  rcases g with g | ⟨ps, k, b, x, ey, kb, kd, l⟩
  · exact d_in (by omega) I g ry h
  · subst ey
    cases (show u = Value.ref b from ry)
    obtain ⟨z, hd, xs, rel, dd⟩ := tabN_rd I.hok x
    refine wpAny_in_heap (n_room hu) (n_key I kb kd) hd dd ?_
    have q := (np_val rel k).isSome_eq
    rw [Option.isSome_map] at q
    rw [← q, ← l]
    exact h _ (I.tok _)
theorem x_notIn {Q : Value → Shared → Prop} (hu : A.units + 9 < cLine) (I : Inv X pins σ H s) (g : DGetX H a y o) (ry : RelV y u) (h : ∀ s', Inv X pins σ H s' → Q (.bool (!o.isSome)) s') :
    wpAny (model X.prog X.w) A (compareOp .NotIn u (.ref a)) Q E s := by
  rcases g with g | ⟨ps, k, b, x, ey, kb, kd, l⟩
  · exact d_notIn (by omega) I g ry h
  · subst ey
    cases (show u = Value.ref b from ry)
    obtain ⟨z, hd, xs, rel, dd⟩ := tabN_rd I.hok x
    refine wpAny_notIn_heap (n_room hu) (n_key I kb kd) hd dd ?_
    have q := (np_val rel k).isSome_eq
    rw [Option.isSome_map] at q
    rw [← q, ← l]
    exact h _ (I.tok _)
end
/-! ### their rules -/
def tXGet (td ty : TE) : TE := fun σ H Q => td σ H fun x H1 => ty σ H1 fun y H2 => ∃ a v, x = .ref a ∧ DGetX H2 a y (some v) ∧ Q v H2
/-- what is asked of a table that is written -/
def XPut (H : Hp) (a : Addr) (y v : V) (R : Hp → Prop) : Prop := (∃ H', DPut H a y v H' ∧ R H') ∨ ∃ u ps k b, H a = some u ∧ NT H a u ps ∧ y = .ref b ∧ KeyV H k (.ref b) ∧ k.depth ≤ 8 ∧ ps.length < sizeLine ∧
  ∀ u', NT (upd H a u') a u' (putK ps k v) → (∃ es, u' = nTab a es) → R (upd H a u')
def sXPut (td ty tv : TE) : TS := fun D σ H => tv σ H fun v H1 => td σ H1 fun x H2 => ty σ H2 fun y H3 => ∃ a, x = .ref a ∧ XPut H3 a y v fun H4 => D.nx σ H4
section
variable {X : Cx} {o i e f value : Expr} {pos pos' apos cpos : Pos} {td ty tv tx : TE}
theorem pe_xget (hu : X.A.units + 9 < cLine) (ho : PE X o td) (hi : PE X i ty) (hs : NoSl i) : PE X (.Subscript o i pos) (tXGet td ty) := by
  refine ⟨fun pins s σ H Q I h => subD_of PySem.F.slot_dict_getitem.lookup hs (thn (ho.run pins s σ H _ I h) ?_)⟩
  rintro u s1 ⟨x, H1, I1, rx, q1⟩
  refine thn (hi.run pins s1 σ H1 _ I1 q1) ?_
  rintro iv s2 ⟨y, H2, I2, ry, a, v, rfl, g, q2⟩
  obtain rfl := (show u = Value.ref a from rx)
  exact ⟨xget_type I2 g, x_getItem hu I2 g ry fun w' s3 I3 rw' => ⟨v, H2, I3, rw', q2⟩⟩
theorem ps_xput (hu : X.A.units + 9 < cLine) (ho : PE X o td) (hi : PE X i ty) (hv : PE X value tv) (hs : swapsWith value (some (.Subscript o i pos')) pos.line X.env = pure false) : PS X (.Assign [.Subscript o i pos'] value pos) (sXPut td ty tv) := by
  refine ⟨fun pins s σ H D I h => wpAny_Assign_Subscript (thn (hv.run pins s σ H _ I h) ?_) hs⟩
  rintro r s1 ⟨v, H1, I1, rv, q1⟩
  refine thn (ho.run pins s1 σ H1 _ I1 q1) ?_
  rintro u s2 ⟨x, H2, I2, rx, q2⟩
  refine thn (hi.run pins s2 σ H2 _ I2 q2) ?_
  rintro iv s3 ⟨y, H3, I3, ry, a, rfl, g⟩
  obtain rfl := (show u = Value.ref a from rx)
  rcases g with ⟨H4, g, q3⟩ | ⟨u0, ps, k, b, ha, n, rfl, kb, kd, hl, q3⟩
  · exact d_setItem (by omega) I3 g ry rv fun s4 I4 => ⟨σ, H4, I4, q3⟩
  · obtain rfl := (show iv = Value.ref b from ry)
    exact n_setItem hu I3 ha n kb kd hl rv fun u' s4 n4 e4 I4 => ⟨σ, _, I4, q3 u' n4 e4⟩
theorem or_xIn (hu : X.A.units + 9 < cLine) : OpR X (compareOp .In) (fun x y H Q => ∃ a o, y = .ref a ∧ DGetX H a x o ∧ Q (.bl o.isSome) H) := by
  rintro pins s σ H x y v u Q I rx ry ⟨a, o, rfl, g, q⟩
  cases ry
  exact x_in hu I g rx fun s3 I3 => ⟨.bl o.isSome, H, I3, rfl, q⟩
theorem or_xNotIn (hu : X.A.units + 9 < cLine) : OpR X (compareOp .NotIn) (fun x y H Q => ∃ a o, y = .ref a ∧ DGetX H a x o ∧ Q (.bl (!o.isSome)) H) := by
  rintro pins s σ H x y v u Q I rx ry ⟨a, o, rfl, g, q⟩
  cases ry
  exact x_notIn hu I g rx fun s3 I3 => ⟨.bl (!o.isSome), H, I3, rfl, q⟩
end
section
variable {P : Program} {w : World} {K : PySem.W.Frag} {tg : Expr} {d : Addr} {o : Obj} {es : Array DictEntry} {ep : Nat}
end
section
variable {X : Cx}
end
end DL
end L2

set_option Elab.async false
set_option linter.all false
set_option maxRecDepth 100000
namespace L2
namespace DL
open PySem PySem.Spec PyProof.Rows

/-! ### tables -/
section
variable {κ : Type} [DecidableEq κ]
def valD (kvs : List (κ × D)) (k : κ) : Option D := (kvs.find? fun kv => decide (kv.1 = k)).map (·.2)
def putD (kvs : List (κ × D)) (k : κ) (v : D) : List (κ × D) := if (kvs.any fun kv => decide (kv.1 = k)) = true then kvs.map (fun kv => if kv.1 = k then (kv.1, v) else kv) else kvs ++ [(k, v)]
variable {K : PySem.W.Frag} {H : Hp} {r t : List Addr}
theorem DenP.split {p : κ × V} {ps : List (κ × V)} {ds : List (κ × D)} (h : DenP K H r t (p :: ps) ds) : ∃ d es, ds = (p.1, d) :: es ∧ Den K H r t p.2 d ∧ DenP K H r t ps es := by
  obtain ⟨h1, h2⟩ := h
  cases ds with
  | nil => cases h1
  | cons e es =>
    obtain ⟨k, d⟩ := e
    rw [List.map_cons, List.map_cons] at h1
    obtain ⟨e1, e2⟩ := List.cons.inj h1
    cases e1
    rw [List.map_cons, List.map_cons] at h2
    cases h2 with
    | cons a b => exact ⟨d, es, rfl, a, e2, b⟩
theorem DenP.nil0 : DenP K H r t ([] : List (κ × V)) [] := ⟨rfl, .nil⟩
theorem DenP.cons0 {k : κ} {v : V} {d : D} {ps : List (κ × V)} {ds : List (κ × D)} (h : Den K H r t v d) (z : DenP K H r t ps ds) : DenP K H r t ((k, v) :: ps) ((k, d) :: ds) := by
  refine ⟨?_, ?_⟩
  · rw [List.map_cons, List.map_cons, z.1]
  · rw [List.map_cons, List.map_cons]
    exact .cons h z.2
theorem DenP.nilD {ds : List (κ × D)} (h : DenP K H r t ([] : List (κ × V)) ds) : ds = [] := by
  cases ds with
  | nil => rfl
  | cons e es => exact absurd h.1 (by simp)
theorem DenP.len : ∀ {ps : List (κ × V)} {ds : List (κ × D)}, DenP K H r t ps ds → ps.length = ds.length
  | _, _, h => by
    have := congrArg List.length h.1
    rw [List.length_map, List.length_map] at this
    exact this
theorem DenP.val (k : κ) : ∀ {ps : List (κ × V)} {ds : List (κ × D)}, DenP K H r t ps ds → (∀ d, valD ds k = some d → ∃ v, valV ps k = some v ∧ Den K H r t v d) ∧ (valV ps k).isSome = (valD ds k).isSome
  | [], ds, h => by rw [h.nilD]; exact ⟨fun d e => (by cases e), rfl⟩
  | p :: ps, ds, h => by
    obtain ⟨d, es, e, hd, hp⟩ := h.split
    subst e
    obtain ⟨ih1, ih2⟩ := DenP.val k hp
    by_cases e : p.1 = k
    · have q : valD ((p.1, d) :: es) k = some d := by simp [valD, List.find?_cons, e]
      rw [valV_pos e, q]
      exact ⟨fun d' e' => by cases e'; exact ⟨_, rfl, hd⟩, rfl⟩
    · have q : valD ((p.1, d) :: es) k = valD es k := by simp [valD, List.find?_cons, e]
      rw [valV_neg e, q]
      exact ⟨ih1, ih2⟩
theorem DenP.any (k : κ) : ∀ {ps : List (κ × V)} {ds : List (κ × D)}, DenP K H r t ps ds → (ps.any fun kv => decide (kv.1 = k)) = ds.any fun kv => decide (kv.1 = k)
  | [], ds, h => by rw [h.nilD]; rfl
  | p :: ps, ds, h => by
    obtain ⟨d, es, e, hd, hp⟩ := h.split
    subst e
    rw [List.any_cons, List.any_cons, DenP.any k hp]
theorem DenP.repl (k : κ) {v : V} {d : D} (hv : Den K H r t v d) : ∀ {ps : List (κ × V)} {ds : List (κ × D)}, DenP K H r t ps ds → DenP K H r t (ps.map fun kv => if kv.1 = k then (kv.1, v) else kv) (ds.map fun kv => if kv.1 = k then (kv.1, d) else kv)
  | [], ds, h => by rw [h.nilD]; exact .nil0
  | p :: ps, ds, h => by
    obtain ⟨d', es, e, hd, hp⟩ := h.split
    subst e
    rw [List.map_cons, List.map_cons]
    by_cases e : p.1 = k
    · rw [if_pos e, if_pos (show (p.1, d').1 = k from e)]
      exact .cons0 hv (DenP.repl k hv hp)
    · rw [if_neg e, if_neg (show ¬ (p.1, d').1 = k from e)]
      exact .cons0 hd (DenP.repl k hv hp)
theorem DenP.snoc {k : κ} {v : V} {d : D} (hv : Den K H r t v d) : ∀ {ps : List (κ × V)} {ds : List (κ × D)}, DenP K H r t ps ds → DenP K H r t (ps ++ [(k, v)]) (ds ++ [(k, d)])
  | [], ds, h => by rw [h.nilD]; exact .cons0 hv .nil0
  | p :: ps, ds, h => by
    obtain ⟨d', es, e, hd, hp⟩ := h.split
    subst e
    exact .cons0 hd (DenP.snoc hv hp)
theorem DenP.put (k : κ) {v : V} {d : D} {ps : List (κ × V)} {ds : List (κ × D)} (h : DenP K H r t ps ds) (hv : Den K H r t v d) : DenP K H r t (putK ps k v) (putD ds k d) := by
  unfold putK putD
  rw [h.any k]
  by_cases q : (ds.any fun kv => decide (kv.1 = k)) = true
  · rw [if_pos q, if_pos q]; exact h.repl k hv
  · rw [if_neg q, if_neg q]; exact h.snoc hv
end
/-- a key -/
def keyD : D → Option Key
  | .int i => some (.inl i)
  | .str x => some (.inr x)
  | _ => none
def keyDL : List D → Option (List Key)
  | [] => some []
  | d :: ds => match keyD d, keyDL ds with
    | some k, some ks => some (k :: ks)
    | _, _ => none
section
variable {K : PySem.W.Frag} {mg : Str → Option Value} {H : Hp} {r t : List Addr} {S : Sto}
theorem keyD_ok {d : D} {v : V} {k : Key} (dv : Den K H r t v d) (h : keyD d = some k) : v = kV k := by
  cases dv <;> first | (cases h; rfl) | cases h
theorem keyDL_ok : ∀ {ds : List D} {vs : List V} {ks : List Key}, DenL K H r t vs ds → keyDL ds = some ks → vs = ks.map kV
  | [], _, _, .nil, h => by cases h; rfl
  | d :: ds, _, _, .cons h1 h2, h => by
    unfold keyDL at h
    split at h
    · rename_i k ks e1 e2
      cases h
      rw [keyD_ok h1 e1, keyDL_ok h2 e2]
      rfl
    · cases h
mutual
def keyN : D → Option NestedKey
  | .int i => some (.num i)
  | .tup ds => (keyNL ds).map .tup
  | _ => none
def keyNL : List D → Option (List NestedKey)
  | [] => some []
  | d :: ds => match keyN d, keyNL ds with
    | some k, some ks => some (k :: ks)
    | _, _ => none
end
/-- a tuple that is a key -/
def keyT : D → Option NestedKey
  | .tup ds => match keyNL ds with
    | some ks => if (NestedKey.tup ks).depth ≤ 8 then some (.tup ks) else none
    | none => none
  | _ => none
mutual
theorem keyN_ok : ∀ (d : D) (v : V) (k : NestedKey), Den K H r t v d → keyN d = some k → KeyV H k v
  | .int i, _, _, h, e => by cases h; cases e; exact .num i
  | .tup ds, _, _, h, e => by
    unfold keyN at e
    obtain ⟨ks, e1, e2⟩ := Option.map_eq_some_iff.mp e
    subst e2
    cases h with
    | tup h z => exact .tup h (keyNL_ok ds _ ks z e1)
  | .non, _, _, _, e => by cases e
  | .bl _, _, _, _, e => by cases e
  | .str _, _, _, _, e => by cases e
  | .lst _, _, _, _, e => by cases e
  | .fz _, _, _, _, e => by cases e
  | .ref _, _, _, _, e => by cases e
  | .ty _, _, _, _, e => by cases e
theorem keyNL_ok : ∀ (ds : List D) (vs : List V) (ks : List NestedKey), DenL K H r t vs ds → keyNL ds = some ks → KeyVs H ks vs
  | [], _, _, h, e => by cases h; cases e; exact .nil
  | d :: ds, _, _, h, e => by
    unfold keyNL at e
    split at e
    · rename_i k ks e1 e2
      cases e
      cases h with
      | cons h1 h2 => exact .cons (keyN_ok d _ k h1 e1) (keyNL_ok ds _ ks h2 e2)
    · cases e
end
theorem keyT_ok {d : D} {v : V} {k : NestedKey} (dv : Den K H r t v d) (e : keyT d = some k) : ∃ b, v = .ref b ∧ KeyV H k (.ref b) ∧ k.depth ≤ 8 := by
  unfold keyT at e
  split at e
  · rename_i ds
    split at e
    · rename_i ks e1
      split at e
      · rename_i hd
        cases e
        cases dv with
        | tup h z => exact ⟨_, rfl, .tup h (keyNL_ok ds _ ks z e1), hd⟩
      · cases e
    · cases e
  · cases e
mutual
def nD : NestedKey → D
  | .none => .non
  | .num i => .int i
  | .text x => .str x
  | .tup ks => .tup (nDL ks)
def nDL : List NestedKey → List D
  | [] => []
  | k :: ks => nD k :: nDL ks
end
/-- what the table at d holds at a key: none where d is no table or the key no key -/
def getT (S : Sto) (d y : D) : Option (Option D) := match d with
  | .ref n => match S[n]?, y with
    | some (.dT kvs), .tup ds => (keyDL ds).map fun ks => valD kvs ks
    | some (.dK kvs), y => (keyD y).map fun k => valD kvs k
    | some (.fK kvs), y => (keyD y).map fun k => valD kvs k
    | some (.fT kvs), .tup ds => (keyDL ds).map fun ks => valD kvs ks
    | some (.dN kvs), y => (keyT y).map fun k => valD kvs k
    | some (.fN kvs), y => (keyT y).map fun k => valD kvs k
    | _, _ => none
  | _ => none
theorem getT_ok {d y : D} {v u : V} {o : Option D} (so : SOk K mg H r t S) (dv : Den K H r t v d) (dy : Den K H r t u y) (h : getT S d y = some o) :
    ∃ a ov, v = .ref a ∧ DGetX H a u ov ∧ ov.isSome = o.isSome ∧ ∀ e, o = some e → ∃ w, ov = some w ∧ Den K H r t w e := by
  unfold getT at h
  split at h
  · rename_i n
    cases dv with
    | @ref a n hn =>
      split at h
      · rename_i kvs ds hS
        obtain ⟨ks, h1, h2⟩ := Option.map_eq_some_iff.mp h
        subst h2
        obtain ⟨ps, hp, z⟩ := so.ok n a _ hn hS
        cases dy with
        | tup ht zt =>
          rw [keyDL_ok zt h1] at ht
          obtain ⟨q1, q2⟩ := z.val ks
          exact ⟨a, _, rfl, .inl (DGet.t hp ht), q2, fun e he => q1 e he⟩
      · rename_i kvs y hS
        obtain ⟨k, h1, h2⟩ := Option.map_eq_some_iff.mp h
        subst h2
        obtain ⟨ps, hp, z⟩ := so.ok n a _ hn hS
        obtain ⟨q1, q2⟩ := z.val k
        rw [keyD_ok dy h1]
        exact ⟨a, _, rfl, .inl (DGet.k hp), q2, fun e he => q1 e he⟩
      · rename_i kvs y hS
        obtain ⟨k, h1, h2⟩ := Option.map_eq_some_iff.mp h
        subst h2
        obtain ⟨o, ps, hp, z⟩ := so.ok n a _ hn hS
        obtain ⟨q1, q2⟩ := z.val k
        rw [keyD_ok dy h1]
        exact ⟨a, _, rfl, .inl (.inl ⟨ps, k, .inr ⟨o, hp⟩, rfl, rfl⟩), q2, fun e he => q1 e he⟩
      · rename_i kvs ds hS
        obtain ⟨ks, h1, h2⟩ := Option.map_eq_some_iff.mp h
        subst h2
        obtain ⟨o, ps, hp, z⟩ := so.ok n a _ hn hS
        cases dy with
        | tup ht zt =>
          rw [keyDL_ok zt h1] at ht
          obtain ⟨q1, q2⟩ := z.val ks
          exact ⟨a, _, rfl, .inl (.inr ⟨ps, ks, _, .inr ⟨o, hp⟩, rfl, ht, rfl⟩), q2, fun e he => q1 e he⟩
      · rename_i kvs y hS
        obtain ⟨k, h1, h2⟩ := Option.map_eq_some_iff.mp h
        subst h2
        obtain ⟨w, ps, hp, nt, z⟩ := so.ok n a _ hn hS
        obtain ⟨q1, q2⟩ := z.val k
        obtain ⟨b, eb, kb, kd⟩ := keyT_ok dy h1
        exact ⟨a, _, rfl, .inr ⟨ps, k, b, ⟨w, nt, .inl hp⟩, eb, kb, kd, rfl⟩, q2, fun e he => q1 e he⟩
      · rename_i kvs y hS
        obtain ⟨k, h1, h2⟩ := Option.map_eq_some_iff.mp h
        subst h2
        obtain ⟨o, w, ps, hp, nt, z⟩ := so.ok n a _ hn hS
        obtain ⟨q1, q2⟩ := z.val k
        obtain ⟨b, eb, kb, kd⟩ := keyT_ok dy h1
        exact ⟨a, _, rfl, .inr ⟨ps, k, b, ⟨w, nt, .inr ⟨o, hp⟩⟩, eb, kb, kd, rfl⟩, q2, fun e he => q1 e he⟩
      · cases h
  · cases h
def oInT (neg : Bool) : Sto → D → D → Option D := fun S x y => (getT S y x).map fun o => .bl (neg ^^ o.isSome)
end
section
variable {X : Cx} {W : WX} {E : XK} {o e i k : Expr} {fo fa fi fe fk : DE} {pos pos' : Pos}
theorem od_inT (hu : X.A.units + 9 < cLine) : OpD X (compareOp .In) (oInT false) := by
  refine ⟨_, or_xIn hu, fun r t S H x y v u d Q so dx dy e q => ?_⟩
  obtain ⟨o, e1, e2⟩ := Option.map_eq_some_iff.mp e
  subst e2
  obtain ⟨a, ov, ev, g, h1, _⟩ := getT_ok so dy dx e1
  refine ⟨a, ov, ev, g, q _ _ (Ext.refl _ _) so ?_⟩
  rw [h1, Bool.false_xor]
  exact .bl _
theorem od_notInT (hu : X.A.units + 9 < cLine) : OpD X (compareOp .NotIn) (oInT true) := by
  refine ⟨_, or_xNotIn hu, fun r t S H x y v u d Q so dx dy e q => ?_⟩
  obtain ⟨o, e1, e2⟩ := Option.map_eq_some_iff.mp e
  subst e2
  obtain ⟨a, ov, ev, g, h1, _⟩ := getT_ok so dy dx e1
  refine ⟨a, ov, ev, g, q _ _ (Ext.refl _ _) so ?_⟩
  rw [h1, Bool.true_xor]
  exact .bl _
/-- d[y] -/
def oGetT : Sto → D → D → Option D := fun S x y => (getT S x y).bind id
theorem de_getT (hu : X.A.units + 9 < cLine) (ho : PE X o (tE X W fo)) (hi : PE X i (tE X W fi)) (hs : NoSl i) : PE X (.Subscript o i pos) (tE X W (dBin oGetT fo fi)) := by
  refine PE.imp (pe_xget hu ho hi hs) fun σ H Q q => tE_two q fun r t S env x y v u H' rel dx dy g => ?_
  obtain ⟨d, e, g⟩ := g.lift
  obtain ⟨od, e1, e2⟩ := Option.bind_eq_some_iff.mp e
  obtain ⟨a, ov, ev, gg, _, h2⟩ := getT_ok rel.so dx dy e1
  obtain ⟨w, e3, dw⟩ := h2 d e2
  rw [e3] at gg
  exact ⟨a, w, ev, gg, g.here rel.so w dw⟩
/-- d[y] = v -/
def putT (S : Sto) (x y v : D) : Option Sto := match x with
  | .ref n => match S[n]?, y with
    | some (.dT kvs), .tup ds => if kvs.length < sizeLine then (keyDL ds).map fun ks => S.set n (.dT (putD kvs ks v)) else none
    | some (.dK kvs), y => if kvs.length < sizeLine then (keyD y).map fun k => S.set n (.dK (putD kvs k v)) else none
    | some (.dN kvs), y => if kvs.length < sizeLine then (keyT y).map fun k => S.set n (.dN (putD kvs k v)) else none
    | _, _ => none
  | _ => none
theorem putT_ok {K : PySem.W.Frag} {mg : Str → Option Value} {H : Hp} {r t : List Addr} {S S' : Sto} {x y d : D} {v u w : V} (so : SOk K mg H r t S) (dx : Den K H r t v x) (dy : Den K H r t u y) (dd : Den K H r t w d) (h : putT S x y d = some S') :
    ∃ a, v = .ref a ∧ ∀ R : Hp → Prop, (∀ H', Ext r H r H' → SOk K mg H' r t S' → R H') → XPut H a u w R := by
  unfold putT at h
  split at h
  · rename_i n
    cases dx with
    | @ref a n hn =>
      split at h
      · rename_i kvs ds hS
        split at h
        · rename_i hl
          obtain ⟨ks, h1, h2⟩ := Option.map_eq_some_iff.mp h
          subst h2
          obtain ⟨ps, hp, z⟩ := so.ok n a _ hn hS
          cases dy with
          | tup ht zt =>
            rw [keyDL_ok zt h1] at ht
            have ex : Ext r H r (upd H a (.dT (putK ps ks w))) := Ext.write hp trivial (List.mem_of_getElem? hn)
            exact ⟨a, rfl, fun R q => .inl ⟨_, DPut.t hp ht (by rw [z.len]; exact hl), q _ ex (so.write hn hp trivial ⟨_, upd_same, DenP.ext ex (z.put ks dd)⟩)⟩⟩
        · cases h
      · rename_i kvs y hS
        split at h
        · rename_i hl
          obtain ⟨k, h1, h2⟩ := Option.map_eq_some_iff.mp h
          subst h2
          obtain ⟨ps, hp, z⟩ := so.ok n a _ hn hS
          rw [keyD_ok dy h1]
          have ex : Ext r H r (upd H a (.dK (putK ps k w))) := Ext.write hp trivial (List.mem_of_getElem? hn)
          exact ⟨a, rfl, fun R q => .inl ⟨_, DPut.k hp (by rw [z.len]; exact hl), q _ ex (so.write hn hp trivial ⟨_, upd_same, DenP.ext ex (z.put k dd)⟩)⟩⟩
        · cases h
      · rename_i kvs y hS
        split at h
        · rename_i hl
          obtain ⟨k, h1, h2⟩ := Option.map_eq_some_iff.mp h
          subst h2
          obtain ⟨u0, ps, hp, nt, z⟩ := so.ok n a _ hn hS
          obtain ⟨b, eb, kb, kd⟩ := keyT_ok dy h1
          refine ⟨a, rfl, fun R q => .inr ⟨u0, ps, k, b, hp, nt, eb, kb, kd, by rw [z.len]; exact hl, fun u' n' e' => ?_⟩⟩
          have mu : Mut (some u0) := by
            obtain ⟨es, _, e, _⟩ := nt
            rw [e]
            exact trivial
          have ex : Ext r H r (upd H a u') := Ext.write hp mu (List.mem_of_getElem? hn)
          exact q _ ex (so.write hn hp mu ⟨u', _, upd_same, n', DenP.ext ex (z.put k dd)⟩)
        · cases h
      · cases h
  · cases h
def sPutT (fo fi fe : DE) : DS := fun env S => (fe env S).bind fun y S1 => (fo env S1).bind fun x S2 => (fi env S2).bind fun i S3 => match putT S3 x i y with
  | some S4 => .ok (.nx, env) S4
  | none => .bad
theorem ds_putT (hu : X.A.units + 9 < cLine) (ho : PE X o (tE X (WC E) fo)) (hi : PE X i (tE X (WC E) fi)) (hv : PE X e (tE X (WC E) fe)) (hs : swapsWith e (some (.Subscript o i pos')) pos.line X.env = pure false := by rfl) : PS X (.Assign [.Subscript o i pos'] e pos) (tS X E (sPutT fo fi fe)) := by
  refine PS.imp (ps_xput hu ho hi hv hs) fun D σ H q => ?_
  obtain ⟨r, t, S, env, rel, g⟩ := q
  refine ⟨r, t, S, env, rel, g.bind.mono fun y S1 r1 H1 ex so g1 yv dy => ?_⟩
  have rel1 := rel.ext ex so
  refine ⟨r1, t, S1, env, rel1, g1.bind.mono fun x S2 r2 H2 ex2 so2 g2 xv dx => ?_⟩
  have rel2 := rel1.ext ex2 so2
  refine ⟨r2, t, S2, env, rel2, g2.bind.mono fun id S3 r3 H3 ex3 so3 g3 iv div => ?_⟩
  split at g3
  · rename_i S4 hp
    obtain ⟨a, ev, gp⟩ := putT_ok so3 (Den.ext ex3 _ _ dx) div (Den.ext (ex2.trans ex3) _ _ dy) hp
    exact ⟨a, ev, gp _ fun H4 ex4 so4 => g3 _ r3 ex4 so4 σ ((rel2.ext ex3 so3).ext ex4 so4)⟩
  · exact (show False from g3).elim
end
/-- {} for keys that are nested -/
def dNewN : DE := fun _ S => .ok (.ref S.length) (S ++ [.dN []])
theorem w_newN {env : Ev} {S : Sto} {P : D → Sto → Prop} : Wp (dNewN env S) P = P (.ref S.length) (S ++ [.dN []]) := by first | rfl | exact wp_ok _ _ _
end DL
end L2

set_option Elab.async false
set_option linter.all false
set_option maxRecDepth 100000
namespace L2
open PySem PySem.Spec PyProof.Rows
section
variable {X : Cx}
end
end L2
namespace L2
namespace DL
open PySem PySem.Spec PyProof.Rows
theorem hu1 {A : Around} {k : Nat} (hr : Room k A) : A.units + 9 < cLine := by have := hr.un; omega
section
variable {X : Cx} {W : WX} {k v : Expr} {fk fv : DE} {pos : Pos}
end
section
variable {env : Ev} {S : Sto} {P : D → Sto → Prop} {PF : Fl × Ev → Sto → Prop} {fk fv fo fi fe : DE} {x y o : D} {n : Nat}
def kDi1 (fv : DE) (n : Nat) (env : Ev) (P : D → Sto → Prop) (x : D) (S : Sto) : Prop := Wp (fv env S) fun y S2 => ∃ ks, (∃ ds, x = .tup ds ∧ keyDL ds = some ks) ∧ S2[n]? = some (.dT []) ∧ P (.ref n) (S2.set n (.dT [(ks, y)]))
def kDi2 (n : Nat) (P : D → Sto → Prop) (x y : D) (S : Sto) : Prop := ∃ ks, (∃ ds, x = .tup ds ∧ keyDL ds = some ks) ∧ S[n]? = some (.dT []) ∧ P (.ref n) (S.set n (.dT [(ks, y)]))
theorem k_Di1 : kDi1 fv n env P x S = Wp (fv env S) (kDi2 n P x) := rfl
def kPT1 (fo fi : DE) (env : Ev) (P : Fl × Ev → Sto → Prop) (y : D) (S : Sto) : Prop := Wp (fo env S) fun o S2 => Wp (fi env S2) fun i S3 => ∃ S4, putT S3 o i y = some S4 ∧ P (.nx, env) S4
def kPT2 (fi : DE) (env : Ev) (P : Fl × Ev → Sto → Prop) (y o : D) (S : Sto) : Prop := Wp (fi env S) fun i S3 => ∃ S4, putT S3 o i y = some S4 ∧ P (.nx, env) S4
def kPT3 (env : Ev) (P : Fl × Ev → Sto → Prop) (y o i : D) (S : Sto) : Prop := ∃ S4, putT S o i y = some S4 ∧ P (.nx, env) S4
theorem w_PutT (h : Wp (fe env S) (kPT1 fo fi env PF)) : Wp (sPutT fo fi fe env S) PF := by
  obtain ⟨y, S1, e1, h1⟩ := h.get
  obtain ⟨o, S2, e2, h2⟩ := Wp.get h1
  obtain ⟨i, S3, e3, S4, e4, hp⟩ := Wp.get h2
  unfold sPutT
  rw [e1, Out.bind_ok, e2, Out.bind_ok, e3, Out.bind_ok, e4]
  exact Wp.of rfl hp
theorem k_PT1 : kPT1 fo fi env PF y S = Wp (fo env S) (kPT2 fi env PF y) := rfl
theorem k_PT2 : kPT2 fi env PF y o S = Wp (fi env S) (kPT3 env PF y o) := rfl
end
section
variable {X : Cx}
end
end DL
end L2

set_option Elab.async false
set_option linter.all false
set_option maxRecDepth 100000
namespace L2
namespace DL
open PySem PySem.Spec PyProof.Rows
section
variable {X : Cx} {E : XK} {f : DS} {fe : DE} {pos : Pos}
theorem PS.or {e : Stmt} {u u' : TS} (h : PS X e u) (h' : PS X e u') : PS X e (fun D σ H => u D σ H ∨ u' D σ H) := ⟨fun pins s σ H D I q => q.elim (h.run pins s σ H D I) (h'.run pins s σ H D I)⟩
end
section
variable {f : DE} {g : DG} {b : DS} {env : Ev} {S : Sto} {P : Fl × Ev → Sto → Prop}
end
end DL
end L2

set_option Elab.async false
set_option linter.all false
set_option maxRecDepth 100000
/-! min, max of a list of ints -/
namespace L2
namespace DL
open PySem PySem.Spec PyProof.Rows
section
variable {X : Cx}
end
end DL
end L2

set_option Elab.async false
set_option linter.all false
set_option maxRecDepth 100000
set_option maxHeartbeats 1000000
/-! Exceptions: raised, caught and kept, asked for their class; xs.count(b), xs.index(b). -/
namespace L2
namespace DL
open PySem PySem.Spec PyProof.Rows

/-! ### classes -/
/-- an own exception class -/
structure ErrC (K : PySem.W.Frag) (mg : Str → Option Value) (x : Str) : Prop where
  ex : ∃ C, mg x = some (.ref C) ∧ PySem.W.excIn K C [.type "ValueError", .type "Exception", .type "BaseException", .type "object"] "ValueError.__new__" = true ∧ PySem.W.keepIn K (.ref C) = true ∧
    PySem.W.subIn K (.ref C) (.type "BaseException") = some true ∧ PySem.W.typeIn K (.ref C) = some (.type "type")
/-- the class x of a clause catches those of cs -/
structure CatC (K : PySem.W.Frag) (mg : Str → Option Value) (x : Str) (cs : List Str) : Prop where
  ex : ∃ C, mg x = some (.ref C) ∧ ∀ c ∈ cs, ∀ D, mg c = some (.ref D) → PySem.W.exmOne K (.ref D) (.ref C) = some true
/-- what isinstance tells of exceptions of the classes in tab -/
structure IsC (K : PySem.W.Frag) (mg : Str → Option Value) (x : Str) (tab : List (Str × Bool)) : Prop where
  ex : ∃ C, mg x = some (.ref C) ∧ ∀ p ∈ tab, ∀ D, mg p.1 = some (.ref D) → ExcC K D ∧ PySem.W.kitOne K (.ref D) (.ref C) = some p.2
structure IsB (K : PySem.W.Frag) (mg : Str → Option Value) (x : String) (tab : List (Str × Bool)) : Prop where
  ex : ∀ p ∈ tab, ∀ D, mg p.1 = some (.ref D) → ExcC K D ∧ PySem.W.kitOne K (.ref D) (.type x) = some p.2

/-! ### raise -/
def sRaise (x : Str) : DS := fun _ S => .exc x S
section
variable {X : Cx} {E : XK} {pos p p2 pos' : Pos} {x m : Str} {j : Nat}
theorem ds_raise (hc : X.calm = true) (tk : Takes X (WC E)) (er : ErrC X.K X.mg x) (hg : Gl X x) (hdb : (x == ("__debug__" : Str)) = false := by decide) : PS X (.Raise (some (.Call (.Name x p) [.Constant (.str m) j p2] [] pos')) none pos) (tS X E (sRaise x)) := by
  obtain ⟨C, h1, h2, h3, h4, h5⟩ := er.ex
  refine PS.imp (ps_raise hc tk (pmk_own PySem.F.excBase_ValueError h2 h1 h3 (raises_own h4 h5) hg hdb)) fun D σ H q => ?_
  obtain ⟨r, t, S, env, rel, g⟩ := q
  exact g C H r h1 (Ext.refl _ _) rel.so
end

/-! ### a caught exception is known to the heap -/
section
variable {X : Cx} {pins : List (Addr × Obj)} {σ : St} {H : Hp} {s : Shared}
theorem Inv.track {a : Addr} {o : Obj} {φ : Heap → Prop} (I : Inv X pins σ H s) (ha : s.heap.get? a = some o) (nd : ∀ v, o.data ≠ .cell v) (hn : H a = none) (nL : a ≠ X.env.locals) (n0 : X.s_0.heap.get? a = none)
    (np : ∀ p ∈ X.pn ++ pins, p.1 ≠ a) (hp : φ s.heap) (st : ∀ h1 h2 : Heap, φ h1 → (∀ o, h1.get? a = some o → h2.get? a = some o) → φ h2) : Inv X pins σ (upd H a (.ext φ)) s := by
  have up : ∀ b u, H b = some u → upd H a (.ext φ) b = some u := fun b u e => by rw [upd_ne (ne_of_none e hn)]; exact e
  refine ⟨I.ok, I.os, I.bare, ⟨I.base.keep, I.base.slot, fun b u e n hx => ?_, I.base.there, fun b xs e => up _ _ (I.base.tups b xs e), fun b u v e => up _ _ (I.base.frzs b u v e), fun b ps e => ?_⟩, I.loc, I.cell, ?_, fun x c e => ?_, fun p hm => ?_, fun b u e => ?_, I.len⟩
  · rw [upd_ne (fun z => by rw [z, n0] at e; cases e)]
    exact I.base.free b u e n hx
  · obtain ⟨more, h⟩ := I.base.tbls b ps e
    exact ⟨more, up _ _ h⟩
  · rw [upd_ne (Ne.symm nL)]
    exact I.free
  · obtain ⟨v, o', h1, h2⟩ := I.cell x c e
    rw [upd_ne (fun z => by rw [z, ha] at h1; cases h1; exact nd _ h2)]
    exact I.freeC x c e
  · obtain ⟨h1, h2, h3⟩ := I.pin p hm
    exact ⟨h1, by rw [upd_ne (np p hm)]; exact h2, h3⟩
  · by_cases z : b = a
    · subst z
      rw [upd_same] at e
      cases e
      exact ⟨hp, ⟨o, ha⟩, st⟩
    · rw [upd_ne z] at e
      exact (I.hok b u e).stay (fun c v _ q => q) (fun c q => up _ _ q) fun c xs q => up _ _ q
end
theorem excO_st {a : Addr} {cls : Value} : ∀ h1 h2 : Heap, (∃ (oe : Obj) (vs : Array Value), h1.get? a = some oe ∧ Zc cls none oe ∧ oe.data = .fields vs) → (∀ o, h1.get? a = some o → h2.get? a = some o) → ∃ (oe : Obj) (vs : Array Value), h2.get? a = some oe ∧ Zc cls none oe ∧ oe.data = .fields vs :=
  fun h1 h2 ⟨oe, vs, e, z⟩ k => ⟨oe, vs, k _ e, z⟩
/-- what 'except x as n: suite' wishes of the body's exceptions, all of them of x; behind it the exception is known -/
def wKeep (K : PySem.W.Frag) (c : Value) (i : Nat) (ts : TS) (Dn : Ends) : WX := fun cls d σ H =>
  d = none ∧ PySem.W.exmOne K cls c = some true ∧ ∀ a, H a = none → ts { nx := fun σ' H' => H' a = none → Dn.nx (σ'.set i none) (upd H' a (ExcO a cls)), rt := fun _ _ => False } (σ.set i (some (.ref a))) H
section
variable {X : Cx} {x n : Str} {c : Value} {i : Nat} {body suite : List Stmt} {b₀ : Stmt} {np pos pos' : Pos} {tb : WX → TS} {ts : TS}
theorem ps_try_keep (hs : X.stack = X.env :: X.outer) (hf : X.env.frame = some X.env.locals) (hex : X.ex = []) (hN : X.N.Nodup) (hi : X.N[i]? = some n) (hln : X.env.kindOf n = some .local) (hc : Names X x c)
    (hb : ∀ (W : WX) (pn : List (Addr × Obj)) (xe : Value → Shared → Prop), Takes (X.tr pn xe) W → PSs (X.tr pn xe) body (tb W))
    (hsu : ∀ (a : Addr) (oe : Obj) (pn : List (Addr × Obj)), PSs (X.suite a ((a, oe) :: pn)) (b₀ :: suite) ts) :
    PS X (.Try body [.ExceptHandler (some (.Name x np)) (some n) (b₀ :: suite) pos'] [] [] pos) (fun Dn σ H => tb (wKeep X.K c i ts Dn) Dn σ H) := by
  refine ⟨fun pins s σ H Dn I h => wpAny_Try_except ?_⟩
  have ok := I.ok
  have frames : X.A.frames = some (X.env :: X.outer) := ok.frames.trans (congrArg some hs)
  refine wpAny_mono ((hb (wKeep X.K c i ts Dn) (X.pn ++ pins) _ fun u s' air => ?_).run [] s σ H Dn (I.toTry _) h) (fun fl s1 e => ?_) fun _ _ e => e
  · obtain ⟨a, B, sI, _, σ', H', cls, d, rfl, J', nb, up, sky, na, os, ag, hd, hm, hyes⟩ := air
    subst hd
    have J : Inv X pins σ' H' sI := J'.ofTry ok
    rw [show (X.tr (X.pn ++ pins) _).stack = X.env :: X.outer from hs] at sky
    refine Sky.land Zc.steady frames hf sky fun g1 f1 u1 => ?_
    obtain ⟨o1, v1, e1, z1, d1⟩ := f1.there
    have aB : B.get? a = none := f1.2.1
    have aFr : a ∉ frs (X.env :: X.outer) := fun q => by
      obtain ⟨_, o', e', hcell⟩ := f1.2.2.1.mem q
      rw [e1] at e'
      cases e'
      exact hcell _ d1
    have aL : a ≠ X.env.locals := fun q => aFr (List.mem_filterMap.mpr ⟨X.env, List.mem_cons_self, by rw [hf, q]⟩)
    have aF : a ∉ X.fs := fun q => by
      obtain ⟨e, he, q⟩ := List.mem_filterMap.mp q
      exact aFr (List.mem_filterMap.mpr ⟨e, List.mem_cons_of_mem _ he, q⟩)
    have aI : sI.heap.get? a = none := by
      cases q : sI.heap.get? a with
      | none => rfl
      | some o =>
        have z := nb a o q (by rw [hs]; exact aFr)
        rw [aB] at z
        cases z
    have a0 : X.s_0.heap.get? a = none := by
      cases q : X.s_0.heap.get? a with
      | none => rfl
      | some o =>
        obtain ⟨o', z⟩ := J.base.there a o q (by rw [hex]; exact fun z => nomatch z)
        rw [aI] at z
        cases z
    have aP : ∀ p ∈ X.pn ++ pins, p.1 ≠ a := fun p hp q => by
      have z := (J.pin p hp).1
      rw [q, aI] at z
      cases z
    have J1 : Inv X pins σ' H' { s' with heap := g1 } := J.landed nb f1.1 (up.trans u1) os ag
    have S1 := J1.suite e1 d1 na aL aF
    refine wpAny_handleBy_cons (codeAny_handlers_test ?_) (fun q => nomatch q)
    have tyA : PySem.W.Looks (model X.prog X.w) g1 (typeOf (.ref a)) cls := fun A Q E s k q => wpAny_typeOf_ref (k _ _ e1) (by rw [z1.1]; exact q)
    have look : ∀ {Q E : Value → Shared → Prop}, Q c { s' with heap := g1 } → wpAny (model X.prog X.w) (X.A.mark (some (.ref a))) (eval (.Name x np) X.env) Q E { s' with heap := g1 } := fun q => by
      obtain ⟨k1, k2, k3 | ⟨k3, k4, k5⟩⟩ := hc
      · exact ld_glob (X := X.suite a ((a, o1) :: (X.pn ++ pins))) S1 k1 k3 q k2
      · exact ld_blt (X := X.suite a ((a, o1) :: (X.pn ++ pins))) S1 k1 k3 k4 q k5 k2
    refine look ((PySem.W.exm_one (M := model X.prog X.w) J1.kIn tyA hm).here (codeAny_handlers_suite_as (HandSPX.lands_againZ f1 fun g2 f2 u2 => ?_)))
    have J2 : Inv X pins σ' H' { s' with heap := g2 } := J.landed nb f2.1 ((up.trans u1).trans u2) os ag
    obtain ⟨o2, v2, e2, z2, d2⟩ := f2.there
    refine store_ok (X := X.suite a ((a, o2) :: (X.pn ++ pins))) (v := .ref a) (J2.suite e2 d2 na aL aF) hN hi (.inl hln) rfl (fun s5 S5 => ?_) (.inr hln)
    refine wpAny_mono ((hsu a o2 (X.pn ++ pins)).run [] s5 _ H' _ S5 (hyes a na)) (fun fl s6 q => ?_) fun _ _ z => False.elim z
    cases fl with
    | next =>
      obtain ⟨σ6, H6, S6, q6⟩ := q
      obtain ⟨p1, p2, _, _, _⟩ := S6.pin (a, o2) List.mem_cons_self
      have T6 : Inv X pins σ6 (upd H6 a (ExcO a cls)) s6 := Inv.track (S6.unsuite ok) p1 (fun v z => by rw [show (a, o2).2 = o2 from rfl, d2] at z; cases z) p2 aL a0 aP ⟨o2, v2, p1, z2, d2⟩ excO_st
      exact gone_ok T6 hN hi hln fun s7 J7 => ⟨_, _, J7, q6 p2⟩
    | brk => obtain ⟨_, _, _, z⟩ := q; exact z.elim
    | cont => obtain ⟨_, _, _, z⟩ := q; exact z.elim
    | ret u => obtain ⟨_, _, _, _, _, z⟩ := q; exact z.elim
  · cases fl with
    | next => obtain ⟨σ', H', J, q⟩ := e; exact wpAny_execs_nil ⟨σ', H', J.ofTry ok, q⟩
    | brk => obtain ⟨σ', H', J, q⟩ := e; exact ⟨σ', H', J.ofTry ok, q⟩
    | cont => obtain ⟨σ', H', J, q⟩ := e; exact ⟨σ', H', J.ofTry ok, q⟩
    | ret u => obtain ⟨v, σ', H', J, r, q⟩ := e; exact ⟨v, σ', H', J.ofTry ok, r, q⟩
end
/-- a reading whose exceptions may ask for the slots; for statements that set none -/
def tSW (X : Cx) (W : WX) (f : DS) : TS := fun Dn σ H => ∃ r t S env, Rel X.K X.mg H r t S env σ ∧ Good X.K X.mg t (EW W σ) r H (f env S) (RS X Dn t)
section
variable {X : Cx} {W : WX} {E : XK} {e : Expr} {st : Stmt} {f g : DS} {fe : DE} {pos : Pos}
theorem dw_one (h : PS X st (tSW X W f)) : PSs X [st] (tSW X W f) := pss_one h
theorem dw_expr (he : PE X e (tE X W fe)) (hs : swapsWith e none pos.line X.env = pure false := by rfl) : PS X (.Expr e pos) (tSW X W (sExpr fe)) := by
  refine PS.imp (ps_expr he hs) fun D σ H q => ?_
  obtain ⟨r, t, S, env, rel, g0⟩ := q
  exact ⟨r, t, S, env, rel, g0.bind.mono fun d S1 r1 H1 ex so g1 v dv => Good.here g1 so σ (rel.ext ex so)⟩
theorem dw_if {c : Expr} {a b : List Stmt} {tc : DB} (hc : PT X c (tB' X W tc)) (ha : PSs X a (tSW X W f)) (hb : PSs X b (tSW X W g)) : PS X (.If c a b pos) (tSW X W (sIf tc f g)) := by
  refine PS.imp (ps_if hc ha hb) fun D σ H q => ?_
  obtain ⟨r, t, S, env, rel, g0⟩ := q
  refine ⟨r, t, S, env, rel, g0.bind.mono fun k S1 r1 H1 ex so g1 => ?_⟩
  cases k with
  | true => exact ⟨r1, t, S1, env, rel.ext ex so, g1⟩
  | false => exact ⟨r1, t, S1, env, rel.ext ex so, g1⟩
end
/-- try: g / except .. as n: m = n, where the body raises but those of cs; i is n's slot, j m's -/
def sTryK (cs : List Str) (i j : Nat) (g : DS) : DS := fun env S => match g env S with
  | .ok p S1 => .ok p S1
  | .exc c S1 => if c ∈ cs ∧ i < env.length then .ok (.nx, ((env.set i (some (.ref S1.length))).set j (some (.ref S1.length))).set i none) (S1 ++ [.exc c]) else .bad
  | .bad => .bad
theorem ds_tryK {X : Cx} {E : XK} {x n m : Str} {i j : Nat} {cs : List Str} {body : List Stmt} {g : DS} {np pos pos' spos p1 p2 : Pos} (hs : X.stack = X.env :: X.outer) (hf : X.env.frame = some X.env.locals) (hex : X.ex = []) (hN : X.N.Nodup) (hij : i ≠ j)
    (ct : CatC X.K X.mg x cs) (hg : Gl X x)
    (hb : ∀ (W : WX) (pn : List (Addr × Obj)) (xe : Value → Shared → Prop), Takes (X.tr pn xe) W → PSs (X.tr pn xe) body (tSW (X.tr pn xe) W g))
    (hi : X.N[i]? = some n := by rfl) (hj : X.N[j]? = some m := by rfl) (hln : X.env.kindOf n = some .local := by rfl) (hlm : X.env.kindOf m = some .local := by rfl) (hdb : (x == ("__debug__" : Str)) = false := by decide)
    (hd : (n == ("__debug__" : Str)) = false := by decide) (hcd : (n == ("__classdict__" : Str)) = false := by decide) (hsw : ∀ a oe pn, swapsWith (.Name n p1) (some (.Name m p2)) spos.line (X.suite a ((a, oe) :: pn)).env = pure false := by intro _ _ _; rfl) :
    PS X (.Try body [.ExceptHandler (some (.Name x np)) (some n) [.Assign [.Name m p2] (.Name n p1) spos] pos'] [] [] pos) (tS X E (sTryK cs i j g)) := by
  obtain ⟨C, hC, hmt⟩ := ct.ex
  have hkm : X.env.scope.names.lookup m = some .local := hlm
  have hkn : X.env.scope.names.lookup n = some .local := hln
  refine PS.imp (ps_try_keep (ts := tAsg (tVar i) (gName j)) (tb := fun W => tSW X W g) hs hf hex hN hi hln ⟨hg, hdb, .inl hC⟩ hb fun a oe pn => pss_one (ps_set (i := j) hN hj (.inl hkm) (pe_var hi (.inl hkn) hd hcd) (hsw a oe pn) (.inr hkm))) fun Dn σ H q => ?_
  obtain ⟨r, t, S, env, rel, q⟩ := q
  refine ⟨r, t, S, env, rel, ?_⟩
  unfold sTryK at q
  cases hgo : g env S with
  | ok p S1 => rw [hgo] at q; exact q
  | bad => rw [hgo] at q; exact (show False from q).elim
  | exc c S1 =>
    rw [hgo] at q
    dsimp only at q
    by_cases hc : c ∈ cs ∧ i < env.length
    · rw [if_pos hc] at q
      intro D H' r' hD ex so
      have hl : i < σ.length := by rw [← rel.len]; exact hc.2
      refine ⟨rfl, hmt c hc.1 D hD, fun a na => ⟨.ref a, List.getElem?_set_self hl, fun _ => ?_⟩⟩
      have ex2 := ex.trans (Ext.grow (r := r') (o := ExcO a (.ref D)) na)
      have so2 : SOk X.K X.mg (upd H' a (ExcO a (.ref D))) (r' ++ [a]) t (S1 ++ [.exc c]) := so.grow na ⟨D, hD, upd_same⟩
      have dn : Den X.K (upd H' a (ExcO a (.ref D))) (r' ++ [a]) t (.ref a) (.ref S1.length) := .ref (by rw [← so.len, List.getElem?_append_right (Nat.le_refl _), Nat.sub_self]; rfl)
      exact q _ _ ex2 so2 _ ((((rel.ext ex2 so2).set i dn).set j dn).wipe i)
    · rw [if_neg hc] at q
      exact (show False from q).elim

/-! ### isinstance(e, X) -/
theorem call_isX {X : Cx} : CallR X (.builtin "isinstance") (fun xs H Q => ∃ (a D : Addr) (c : V) (cv : Value) (b : Bool), xs = [.ref a, c] ∧ ExcC X.K D ∧ H a = some (ExcO a (.ref D)) ∧ (∀ u, RelV c u → u = cv) ∧ PySem.W.kitOne X.K (.ref D) cv = some b ∧ Q (.bl b) H) := by
  intro pins s σ H xs us Q I r h
  obtain ⟨a, D, c, cv, b, rfl, C, ha, hcv, e, q⟩ := h
  obtain ⟨u1, u2, rfl, r1, r2⟩ := vals2 r
  cases r1
  have ec := hcv _ r2
  subst ec
  obtain ⟨⟨oe, vs, h1, h2, h3⟩, _, _⟩ := I.hok a _ ha
  have J : PySem.W.InstAt s.heap a oe D none := by
    obtain ⟨oc, od, oda, osl⟩ := oe
    obtain ⟨k1, k2⟩ := h2
    dsimp only at k1 k2 h3
    subst k1 k2 h3
    exact ⟨h1, rfl, rfl, trivial⟩
  exact PySem.W.kia_one (PySem.W.handS_kitx_exc C.hg C.hk C.hs C.hd C.ha C.hn C.ht C.hm) I.kIn J e (fun z => nomatch z) fun tk => ⟨.bl b, H, I.tok tk, rfl, q⟩
def isV (tab : List (Str × Bool)) (S : Sto) : D → Option D
  | .ref n => match S[n]? with
    | some (.exc c) => (tab.lookup c).map D.bl
    | _ => none
  | _ => none
def dIsE (tab : List (Str × Bool)) (fe : DE) : DE := fun env S => (fe env S).bind fun d S1 => lift (isV tab S1 d) S1
theorem lookup_mem : ∀ {tab : List (Str × Bool)} {c : Str} {b : Bool}, tab.lookup c = some b → (c, b) ∈ tab
  | [], _, _, h => by cases h
  | (k, v) :: r, c, b, h => by
    rw [List.lookup_cons] at h
    by_cases e : c = k
    · subst e
      rw [show (c == c) = true from beq_self_eq_true c] at h
      cases h
      exact List.mem_cons_self
    · rw [show (c == k) = false from beq_eq_false_iff_ne.mpr e] at h
      exact List.mem_cons_of_mem _ (lookup_mem h)
section
variable {X : Cx} {W : WX} {e : Expr} {fe : DE} {p p2 pos : Pos} {x : Str} {tab : List (Str × Bool)}
theorem isE_read {c : V} {cv : Value} {te : TE} (he : ∀ σ H Q, te σ H Q = Q c H) (hcv : ∀ u, RelV c u → u = cv) (ht : ∀ q ∈ tab, ∀ D, X.mg q.1 = some (.ref D) → ExcC X.K D ∧ PySem.W.kitOne X.K (.ref D) cv = some q.2) {σ : St} {H : Hp} {Q : VK} (q : tE X W (dIsE tab fe) σ H Q) :
    tCB (fun xs H Q => ∃ (a D : Addr) (c : V) (cv : Value) (b : Bool), xs = [.ref a, c] ∧ ExcC X.K D ∧ H a = some (ExcO a (.ref D)) ∧ (∀ u, RelV c u → u = cv) ∧ PySem.W.kitOne X.K (.ref D) cv = some b ∧ Q (.bl b) H) (tCons (tE X W fe) (tCons te tNil)) σ H Q := by
  obtain ⟨r, t, S, env, rel, g⟩ := q
  refine ⟨r, t, S, env, rel, g.bind.mono fun d S1 r1 H1 ex so g1 v dv => ?_⟩
  show te σ H1 _
  rw [he]
  obtain ⟨y, ey, g2⟩ := g1.lift
  unfold isV at ey
  split at ey
  · rename_i n
    split at ey
    · rename_i k hS
      obtain ⟨b, hl, e2⟩ := Option.map_eq_some_iff.mp ey
      subst e2
      cases dv with
      | @ref a n hn =>
        obtain ⟨D, hD, ha⟩ := so.ok n a _ hn hS
        obtain ⟨h1, h2⟩ := ht _ (lookup_mem hl) D hD
        exact ⟨a, D, c, cv, b, rfl, h1, ha, hcv, h2, Good.here g2 so _ (.bl b)⟩
    · cases ey
  · cases ey
theorem de_isE (ic : IsC X.K X.mg x tab) (he : PE X e (tE X W fe)) (hg2 : Gl X x) (hm : X.mg "isinstance" = none) (hg : Gl X "isinstance" := by rfl) (hdb : (x == ("__debug__" : Str)) = false := by decide)
    (hs : starEach [e, .Name x p2] X.env = (false, eval e X.env) :: starEach [.Name x p2] X.env := by rfl) (hpl : (backTo pos (starEach [.Name x p2] X.env)).any (·.1) = false := by rfl) :
    PE X (.Call (.Name "isinstance" p) [e, .Name x p2] [] pos) (tE X W (dIsE tab fe)) := by
  obtain ⟨C, hC, ht⟩ := ic.ex
  exact PE.imp (pe_callB call_isX hg hm (by decide +kernel) (pa_cons he (pa_cons (pe_glob (v := .ref C) hg2 hC rfl hdb) pa_nil) hs) (by decide) (by decide) hs hpl) fun σ H Q q => isE_read (c := .ref C) (cv := .ref C) (fun _ _ _ => rfl) (fun u h => h) ht q
theorem de_isB {T : String} (ib : IsB X.K X.mg T tab) (he : PE X e (tE X W fe)) (hx : x = Str.ofString T) (hg2 : Gl X x) (hm2 : X.mg x = none) (hv : bootBuiltins x = some (.type T)) (hm : X.mg "isinstance" = none) (hg : Gl X "isinstance" := by rfl) (hdb : (x == ("__debug__" : Str)) = false := by decide) (hn : x ≠ "__name__" := by decide)
    (hs : starEach [e, .Name x p2] X.env = (false, eval e X.env) :: starEach [.Name x p2] X.env := by rfl) (hpl : (backTo pos (starEach [.Name x p2] X.env)).any (·.1) = false := by rfl) :
    PE X (.Call (.Name "isinstance" p) [e, .Name x p2] [] pos) (tE X W (dIsE tab fe)) :=
  PE.imp (pe_callB call_isX hg hm (by decide +kernel) (pa_cons he (pa_cons (pe_bltn (v := .ty T) hg2 hm2 hv rfl hn hdb) pa_nil) hs) (by decide) (by decide) hs hpl) fun σ H Q q => isE_read (c := .ty T) (cv := .type T) (fun _ _ _ => rfl) (fun u h => h) ib.ex q
end

/-! ### xs.count(b), xs.index(b), a list of truths -/
section
variable {X : Cx}
theorem vals_bls : ∀ {bs : List Bool} {us : List Value}, Vals (bs.map V.bl) us → us = bs.map Value.bool
  | [], _, h => by cases h; rfl
  | b :: bs, _, h => by
    cases h with
    | cons h1 h2 =>
      cases h1
      rw [vals_bls h2]
      rfl
def bE (b : Bool) : Value → Bool
  | .bool c => c == b
  | _ => false
theorem bE_at {A : Around} {s : Shared} {bs : List Bool} {b : Bool} : ∀ y, y ∈ (bs.map Value.bool).toArray → SeqAt.EqAt A s y (.bool b) (bE b y) := fun y hy => by
  obtain ⟨c, _, e⟩ := List.mem_map.mp (show y ∈ bs.map Value.bool by simpa using hy)
  subst e
  exact SeqAt.EqAt.bool_bool c b
theorem mt_countB : MtR X "list.count" (fun x xs H Q => ∃ (p : Addr) (bs : List Bool) (b : Bool), x = .ref p ∧ xs = [.bl b] ∧ SqL X.K H p (bs.map V.bl) ∧ Q (.int (bs.count b : Nat)) H) := by
  intro pins s σ H x xs v us Q I rx rxs h
  obtain ⟨p, bs, b, rfl, rfl, hs, q⟩ := h
  cases rx
  obtain ⟨u, rfl, ru⟩ := rxs.one
  cases ru
  obtain ⟨its, rv, ⟨⟨cls, dd, data, sl⟩, n, ho, hc, hdn, hd⟩, hlen⟩ := I.list hs
  simp only at hc hd
  subst hc hd
  have e := vals_bls rv
  subst e
  refine call_meets PySem.F.slot_list_count ⟨_, ho, rfl⟩ PySem.F.entry_list_count (PySem.F.args_list_count_2 _ _)
    (SeqAt.list_countAt p (bs.map Value.bool).toArray n dd sl (.bool b) (bE b)) ⟨ho, bE_at, ?_⟩
  have ec : (bs.map Value.bool).toArray.toList.countP (bE b) = bs.count b := by
    show (bs.map Value.bool).countP (bE b) = _
    rw [List.countP_map]
    rfl
  refine ⟨.int (bs.count b : Nat), H, I.tok _, ⟨s.toks, ?_⟩, q⟩
  show Value.int (((bs.map Value.bool).toArray.toList.countP (bE b) : Nat) : Int) s.toks = Value.int ((bs.count b : Nat) : Int) s.toks
  rw [ec]
theorem mt_indexB : MtR X "list.index" (fun x xs H Q => ∃ (p : Addr) (bs : List Bool) (b : Bool), x = .ref p ∧ xs = [.bl b] ∧ SqL X.K H p (bs.map V.bl) ∧ b ∈ bs ∧ Q (.int (bs.idxOf b : Nat)) H) := by
  intro pins s σ H x xs v us Q I rx rxs h
  obtain ⟨p, bs, b, rfl, rfl, hs, hb, q⟩ := h
  cases rx
  obtain ⟨u, rfl, ru⟩ := rxs.one
  cases ru
  obtain ⟨its, rv, ⟨⟨cls, dd, data, sl⟩, n, ho, hc, hdn, hd⟩, hlen⟩ := I.list hs
  simp only at hc hd
  subst hc hd
  have e := vals_bls rv
  subst e
  have hsz := sizeLine_eq
  have hj : bs.idxOf b < bs.length := List.idxOf_lt_length_iff.mpr hb
  have hl : bs.length ≤ sizeLine := by rw [List.length_map] at hlen; exact hlen
  refine call_meets PySem.F.slot_list_index ⟨_, ho, rfl⟩ PySem.F.entry_list_index (PySem.F.args_list_index_2 _ _)
    (SeqAt.list_indexAt p (bs.map Value.bool).toArray n dd sl (.bool b) (bE b) (bs.idxOf b) (by simpa using hj) (by omega) ?_ fun m hm hlt => ?_) ⟨ho, bE_at, ?_⟩
  · have e : (bs.map Value.bool).toArray[bs.idxOf b]'(by simpa using hj) = .bool (bs[bs.idxOf b]) := by simp
    rw [e, List.getElem_idxOf hj]
    exact beq_self_eq_true b
  · have hm2 : m < bs.length := by simpa using hm
    have e : (bs.map Value.bool).toArray[m] = .bool bs[m] := by simp
    rw [e]
    have z := List.not_of_lt_findIdx (p := fun c => c == b) (xs := bs) (i := m) hlt
    show (bs[m] == b) = false
    simpa using z
  · exact ⟨.int (bs.idxOf b : Nat), H, I.tok _, ⟨s.toks, rfl⟩, q⟩
end
def oCountB : Sto → D → D → Option D := fun S x y => match y with
  | .bl b => ((listOf S x).bind blsOf).map fun bs => .int (bs.count b : Nat)
  | _ => none
def oIndexB : Sto → D → D → Option D := fun S x y => match y with
  | .bl b => ((listOf S x).bind blsOf).bind fun bs => if b ∈ bs then some (.int (bs.idxOf b : Nat)) else none
  | _ => none
section
variable {X : Cx} {W : WX} {e : Expr} {fo fa : DE}
/-- x.name(y), the thing a list -/
def dMeth (o : Sto → D → D → Option D) (fo fa : DE) : DE := fun env S => (fo env S).bind fun x S1 => if (listOf S1 x).isSome = true then (fa env S1).bind fun y S2 => lift (o S2 x y) S2 else .bad
theorem de_meth {rr : V → List V → Hp → VK → Prop} {o : Sto → D → D → Option D} (hb : PE X e (tBM X.K "list" rr (tE X W fo) (tCons (tE X W fa) tNil)))
    (ho : ∀ (r t : List Addr) (S : Sto) (H : Hp) (v u : V) (x y d : D) (Q : VK), SOk X.K X.mg H r t S → Den X.K H r t v x → Den X.K H r t u y → o S x y = some d → (∀ w, Den X.K H r t w d → Q w H) → rr v [u] H Q) : PE X e (tE X W (dMeth o fo fa)) := by
  refine PE.imp hb fun σ H Q q => ?_
  obtain ⟨r, t, S, env, rel, g⟩ := q
  refine ⟨r, t, S, env, rel, g.bind.mono fun od S1 r1 H1 ex so g1 v dv => ?_⟩
  have rel1 := rel.ext ex so
  obtain ⟨hty, g2⟩ := g1.ite
  obtain ⟨ds, hds⟩ := Option.isSome_iff_exists.mp hty
  obtain ⟨a, xs, ev, ha1, _⟩ := list_ok so dv hds
  refine ⟨by rw [ev]; exact Or.inl ⟨rfl, _, ha1⟩, r1, t, S1, env, rel1, g2.bind.mono fun y S2 r2 H2 ex2 so2 g3 yv dy => ?_⟩
  obtain ⟨d, ed, g4⟩ := g3.lift
  exact ho r2 t S2 H2 v yv od y d Q so2 (Den.ext ex2 _ _ dv) dy ed (Good.here g4 so2)
theorem de_countB (hb : PE X e (tBM X.K "list" (fun x xs H Q => ∃ (p : Addr) (bs : List Bool) (b : Bool), x = .ref p ∧ xs = [.bl b] ∧ SqL X.K H p (bs.map V.bl) ∧ Q (.int (bs.count b : Nat)) H) (tE X W fo) (tCons (tE X W fa) tNil))) : PE X e (tE X W (dMeth oCountB fo fa)) :=
  de_meth hb fun r t S H v u x y d Q so dx dy e q => by
    unfold oCountB at e
    split at e
    · obtain ⟨bs, h1, h2⟩ := Option.map_eq_some_iff.mp e
      obtain ⟨es, h3, h4⟩ := Option.bind_eq_some_iff.mp h1
      subst h2
      obtain ⟨a, xs, rfl, h5, z⟩ := list_ok so dx h3
      cases dy
      rw [bls_eq h4] at z
      rw [z.bls] at h5
      exact ⟨a, bs, _, rfl, rfl, h5, q _ (.int _)⟩
    · cases e
theorem de_indexB (hb : PE X e (tBM X.K "list" (fun x xs H Q => ∃ (p : Addr) (bs : List Bool) (b : Bool), x = .ref p ∧ xs = [.bl b] ∧ SqL X.K H p (bs.map V.bl) ∧ b ∈ bs ∧ Q (.int (bs.idxOf b : Nat)) H) (tE X W fo) (tCons (tE X W fa) tNil))) : PE X e (tE X W (dMeth oIndexB fo fa)) :=
  de_meth hb fun r t S H v u x y d Q so dx dy e q => by
    unfold oIndexB at e
    split at e
    · obtain ⟨bs, h1, e2⟩ := Option.bind_eq_some_iff.mp e
      obtain ⟨es, h3, h4⟩ := Option.bind_eq_some_iff.mp h1
      split at e2
      · rename_i hb
        cases e2
        obtain ⟨a, xs, rfl, h5, z⟩ := list_ok so dx h3
        cases dy
        rw [bls_eq h4] at z
        rw [z.bls] at h5
        exact ⟨a, bs, _, rfl, rfl, h5, hb, q _ (.int _)⟩
      · cases e2
    · cases e
end

/-! ### what comes out: an exception -/
structure Ex {A : Type} (m : Out A) (c : Str) (Q : Sto → Prop) : Prop where
  get : ∃ S, m = .exc c S ∧ Q S
section
variable {A B : Type} {c : Str} {Q : Sto → Prop} {P : D → Sto → Prop} {PF : Fl × Ev → Sto → Prop} {f g : DS} {fe fo fa : DE} {fs : DA} {tc : DB} {fn : Fn} {env : Ev} {S : Sto} {n : Nat} {ds : List D}
theorem Ex.bind1 {m : Out A} {k : A → Sto → Out B} (h : Ex m c Q) : Ex (m.bind k) c Q := by
  obtain ⟨S, e, q⟩ := h.get
  exact ⟨S, by rw [e]; rfl, q⟩
theorem Ex.bind2 {m : Out A} {k : A → Sto → Out B} (h : Wp m fun a S => Ex (k a S) c Q) : Ex (m.bind k) c Q := by
  obtain ⟨a, S, e, q⟩ := h.get
  rw [e]
  exact q
theorem ex_seq1 (h : Ex (f env S) c Q) : Ex (sSeq f g env S) c Q := h.bind1
theorem ex_seq2 (h : Wp (f env S) fun p S1 => p.1 = .nx ∧ Ex (g p.2 S1) c Q) : Ex (sSeq f g env S) c Q := Ex.bind2 (h.mono fun p S1 q => by
  obtain ⟨fl, e⟩ := p
  obtain ⟨q1, q2⟩ := q
  cases q1
  exact q2)
theorem ex_expr (h : Ex (fe env S) c Q) : Ex (sExpr fe env S) c Q := h.bind1
theorem ex_ret (h : Ex (fe env S) c Q) : Ex (sRet fe env S) c Q := h.bind1
theorem ex_if (h : Wp (tc env S) fun b S1 => Ex (if b = true then f env S1 else g env S1) c Q) : Ex (sIf tc f g env S) c Q := Ex.bind2 h
theorem ex_raise (h : Q S) : Ex (sRaise c env S) c Q := ⟨S, rfl, h⟩
theorem ex_callF (h : Wp (fs env S) fun ds S1 => Ex (fn ds S1) c Q) : Ex (dCallF fn fs env S) c Q := Ex.bind2 h
theorem ex_fun (h : Ex (g (ds.map some ++ List.replicate (n - ds.length) none) S) c Q) : Ex (dFun n g ds S) c Q := h.bind1
theorem Ex.mono {m : Out A} {Q' : Sto → Prop} (h : Ex m c Q) (k : ∀ S, Q S → Q' S) : Ex m c Q' := by
  obtain ⟨S, e, q⟩ := h.get
  exact ⟨S, e, k S q⟩
/-- a try whose body raises, or does not -/
theorem w_TryX {cs : List Str} {i j : Nat} (h : Ex (g env S) c fun S1 => PF (.nx, ((env.set i (some (.ref S1.length))).set j (some (.ref S1.length))).set i none) (S1 ++ [.exc c])) (hc : c ∈ cs) (hi : i < env.length) : Wp (sTryK cs i j g env S) PF := by
  obtain ⟨S1, e, q⟩ := h.get
  refine ⟨_, _, ?_, q⟩
  unfold sTryK
  rw [e]
  exact if_pos ⟨hc, hi⟩
theorem w_Try {cs : List Str} {i j : Nat} (h : Wp (g env S) PF) : Wp (sTryK cs i j g env S) PF := by
  obtain ⟨p, S1, e, q⟩ := h.get
  refine ⟨_, _, ?_, q⟩
  unfold sTryK
  rw [e]
def kIsE (tab : List (Str × Bool)) (P : D → Sto → Prop) (x : D) (S : Sto) : Prop := Wp (lift (isV tab S x) S) P
theorem w_IsE {tab : List (Str × Bool)} : Wp (dIsE tab fe env S) P = Wp (fe env S) (kIsE tab P) := by
  unfold dIsE
  simp only [wp_bind]
  rfl
theorem k_IsE {tab : List (Str × Bool)} {x : D} : kIsE tab P x S = Wp (lift (isV tab S x) S) P := rfl
theorem isV_ref {tab : List (Str × Bool)} (h : S[n]? = some (.exc c)) : isV tab S (.ref n) = (tab.lookup c).map D.bl := by
  unfold isV
  dsimp only
  rw [h]
def kMeth1 (o : Sto → D → D → Option D) (fa : DE) (env : Ev) (P : D → Sto → Prop) (x : D) (S : Sto) : Prop := (listOf S x).isSome = true ∧ Wp (fa env S) fun y S2 => Wp (lift (o S2 x y) S2) P
theorem w_Meth {o : Sto → D → D → Option D} (h : Wp (fo env S) (kMeth1 o fa env P)) : Wp (dMeth o fo fa env S) P := by
  unfold dMeth
  rw [wp_bind]
  refine h.mono fun x S1 q => ?_
  rw [if_pos q.1, wp_bind]
  exact q.2
end
theorem err_c {A : Type} {p : A → Prop} {a : A} {l : List A} (h : p a) (k : ∀ d ∈ l, p d) : ∀ d ∈ a :: l, p d := fun d hd => by
  rcases List.mem_cons.mp hd with e | e
  · rw [e]; exact h
  · exact k d e
theorem err_n {A : Type} {p : A → Prop} : ∀ d ∈ ([] : List A), p d := fun d hd => nomatch hd
end DL
end L2

set_option Elab.async false
set_option linter.all false
set_option maxRecDepth 100000
set_option maxHeartbeats 1000000
/-! Comprehensions over a list that may be changed; comprehensions whose list is changed afterwards. -/
namespace L2
namespace DL
open PySem PySem.Spec PyProof.Rows

/-! ### a hidden list becomes a cell -/
section
variable {K : PySem.W.Frag} {mg : Str → Option Value} {H : Hp} {r t : List Addr} {p : Addr}
mutual
theorem Den.bare : ∀ (d : D) (v : V), Den K H r (p :: t) v d → Den K H (r ++ [p]) t v d
  | .non, _, h => by cases h; exact .non
  | .bl b, _, h => by cases h; exact .bl b
  | .int i, _, h => by cases h; exact .int i
  | .str x, _, h => by cases h; exact .str x
  | .ty n, _, h => by cases h; exact .ty n
  | .tup ds, _, h => by
    cases h with
    | tup h z => exact .tup h (DenL.bare ds _ z)
  | .lst ds, _, h => by
    cases h with
    | @lst a xs _ h n m z =>
      refine .lst h (fun q => ?_) (fun q => m (List.mem_cons_of_mem _ q)) (DenL.bare ds _ z)
      rcases List.mem_append.mp q with q | q
      · exact n q
      · exact m (by rw [List.mem_singleton.mp q]; exact List.mem_cons_self)
  | .fz ds, _, h => by
    cases h with
    | fz h z => exact .fz h (DenL.bare ds _ z)
  | .ref n, _, h => by
    cases h with
    | ref h => exact .ref (by rw [List.getElem?_append_left (List.getElem?_eq_some_iff.mp h).1]; exact h)
theorem DenL.bare : ∀ (ds : List D) (vs : List V), DenL K H r (p :: t) vs ds → DenL K H (r ++ [p]) t vs ds
  | [], _, h => by cases h; exact .nil
  | d :: ds, _, h => by
    cases h with
    | cons h1 h2 => exact .cons (Den.bare d _ h1) (DenL.bare ds _ h2)
end
theorem DenP.bare {κ : Type} {xs : List (κ × V)} {ds : List (κ × D)} (h : DenP K H r (p :: t) xs ds) : DenP K H (r ++ [p]) t xs ds := ⟨h.1, DenL.bare _ _ h.2⟩
theorem CellOk.bare {a : Addr} {c : Cell} (h : CellOk K mg H r (p :: t) a c) : CellOk K mg H (r ++ [p]) t a c := by
  cases c with
  | lst ds => obtain ⟨xs, h1, z⟩ := h; exact ⟨xs, h1, DenL.bare _ _ z⟩
  | dK ds => obtain ⟨xs, h1, z⟩ := h; exact ⟨xs, h1, z.bare⟩
  | dT ds => obtain ⟨xs, h1, z⟩ := h; exact ⟨xs, h1, z.bare⟩
  | ins c fs => obtain ⟨C, dx, ps, h1, h2, h3, z⟩ := h; exact ⟨C, dx, ps, h1, h2, h3, z.bare⟩
  | exc c => exact h
  | fK ds => obtain ⟨o, xs, h1, z⟩ := h; exact ⟨o, xs, h1, z.bare⟩
  | fT ds => obtain ⟨o, xs, h1, z⟩ := h; exact ⟨o, xs, h1, z.bare⟩
  | dN ds => obtain ⟨u, xs, h1, n, z⟩ := h; exact ⟨u, xs, h1, n, z.bare⟩
  | fN ds => obtain ⟨o, u, xs, h1, n, z⟩ := h; exact ⟨o, u, xs, h1, n, z.bare⟩
  | tC ds => obtain ⟨o, xs, h1, hd, z⟩ := h; exact ⟨o, xs, h1, hd, DenL.bare _ _ z⟩
  | gone => exact h
theorem SOk.bare {S : Sto} {accV : List V} {acc : List D} (hpt : p ∉ t) (so : SOk K mg H r (p :: t) S) (hp : H p = some (.lst accV)) (z : DenL K H r (p :: t) accV acc) : SOk K mg H (r ++ [p]) t (S ++ [.lst acc]) := by
  have np := (so.hid p List.mem_cons_self).2
  refine ⟨by rw [List.length_append, List.length_append, so.len]; rfl, ?_, fun n a c h1 h2 => ?_, fun a ha => ⟨(so.hid a (List.mem_cons_of_mem _ ha)).1, fun q => ?_⟩⟩
  · rw [List.nodup_append]
    refine ⟨so.nd, by simp, fun a ha b hb => ?_⟩
    rw [List.mem_singleton.mp hb]
    exact fun e => np (e ▸ ha)
  · by_cases hn : n < r.length
    · rw [List.getElem?_append_left hn] at h1
      rw [List.getElem?_append_left (by rw [← so.len]; exact hn)] at h2
      exact (so.ok n a c h1 h2).bare
    · rw [List.getElem?_append_right (by omega)] at h1
      rw [List.getElem?_append_right (by rw [← so.len]; omega), ← so.len] at h2
      have e : n - r.length = 0 := by
        have := (List.getElem?_eq_some_iff.mp h1).1
        rw [List.length_singleton] at this
        omega
      rw [e] at h1 h2
      cases h1
      cases h2
      exact ⟨accV, hp, DenL.bare _ _ z⟩
  · rcases List.mem_append.mp q with q | q
    · exact (so.hid a (List.mem_cons_of_mem _ ha)).2 q
    · exact hpt (by rw [← List.mem_singleton.mp q]; exact ha)
theorem Ext.more {r1 : List Addr} {H1 : Hp} (e : Ext r1 H1 r H) (hp : H1 p = none) : Ext r1 H1 (r ++ [p]) H := by
  obtain ⟨nw, h1, h2⟩ := e.pre
  refine ⟨⟨nw ++ [p], by rw [h1, List.append_assoc], fun q hq => ?_⟩, e.keep, e.tups, e.frzs, e.frzt, e.owns, e.there⟩
  rcases List.mem_append.mp hq with z | z
  · exact h2 q z
  · rw [List.mem_singleton.mp z]; exact hp
end

theorem keepC_bind {A B : Type} {n : Nat} {ds : List D} {S : Sto} {m : Out A} {k : A → Sto → Out B} : (keepC n ds S m).bind k = keepC n ds S (m.bind k) := by
  unfold keepC
  split <;> rfl
noncomputable def compGoC (n : Nat) (ds0 : List D) (g : DG) (env : Ev) (tt : DB) (te : DE) : List D → List D → Sto → Out (List D)
  | [], acc, S => keepC n ds0 S (.ok acc S)
  | d :: ds, acc, S => keepC n ds0 S (match g env d with
    | none => .bad
    | some env' => (noexc (tt env' S)).bind fun k S1 => if k = true then (noexc (te env' S1)).bind fun y S2 => if acc.length < sizeLine then compGoC n ds0 g env tt te ds (acc ++ [y]) S2 else .bad
      else compGoC n ds0 g env tt te ds acc S1)
/-- a comprehension over a list that may be changed, and is not -/
noncomputable def dCompC (fe : DE) (g : DG) (vs : List Nat) (tt : DB) (te : DE) : DE := fun env S => (fe env S).bind fun d S1 => match d, lstOf S1 d with
  | .ref n, some ds => (compGoC n ds g (wipeE env vs) tt te ds [] S1).bind fun acc S2 => .ok (.lst acc) S2
  | _, _ => .bad
section
variable {X : Cx} {W : WX} {tg iter elt : Expr} {fe : DE} {g : DG} {tt : DB} {te : DE} {scope : Scope} {own : List (Str × Nat)} {go : List Nat} {ifs : List Expr} {pos : Pos} {σ : St} {H : Hp} {Q : VK}
def CInvC (X : Cx) (W : WX) (n : Nat) (a : Addr) (ds0 : List D) (g : DG) (vs : List Nat) (tt : DB) (te : DE) (σ : St) (Q : VK) (env : Ev) (t r1 : List Addr) (H1 : Hp) (p : Addr) (ds : List D) (H2 : Hp) : Prop :=
  ∃ r2 S2 acc accV, r2[n]? = some a ∧ H2 p = some (.lst accV) ∧ DenL X.K H2 r2 (p :: t) accV acc ∧ Rel X.K X.mg H2 r2 (p :: t) S2 (wipeE env vs) (wipe σ vs) ∧ Ext r1 H1 r2 H2 ∧
      Good X.K X.mg t (EW W σ) r1 H1 ((compGoC n ds0 g (wipeE env vs) tt te ds acc S2).bind fun acc S2 => .ok (.lst acc) S2) fun d _ r' H' => ∀ v, Den X.K H' r' t v d → Q v H'
theorem tLcC_of {vs : List Nat} (hgo : ∀ i ∈ go, i ∈ vs) (q : tE X W (dCompC fe g vs tt te) σ H Q) : tLc (iList X.K (tE X W fe)) (tG X.K X.mg go g) (tB' X W0 tt) (tE X W0 te) vs σ H Q := by
  obtain ⟨r, t, S, env, rel, g0⟩ := q
  refine ⟨r, t, S, env, rel, g0.bind.mono fun d S1 r1 H1 ex so g1 v dv => ?_⟩
  have rel1 := rel.ext ex so
  split at g1
  case h_2 => exact (show False from g1).elim
  rename_i n ds hds
  obtain ⟨a, xs, ev, hn, ha, z⟩ := ref_lst so dv hds
  subst ev
  refine ⟨a, rfl, ⟨xs, .inl (.inl ha)⟩, fun p hp => ?_⟩
  have nn := notinNew so hp
  refine ⟨fun i m H2 => m = ds.length - i ∧ i ≤ ds.length ∧ CInvC X W n a ds g vs tt te σ Q env t r1 H1 p (ds.drop i) H2,
    ⟨ds.length, rfl, Nat.zero_le _, r1, S1, [], [], hn, upd_same, .nil, (rel1.hide hp).wipes vs, Ext.new hp, g1⟩, ?_⟩
  rintro i m H2 ⟨rfl, hi, r2, S2, acc, accV, hn2, hD2, dacc, rel2, ex2, g2⟩
  have nD : p ∉ r2 := (rel2.so.hid p List.mem_cons_self).2
  by_cases hlt : i < ds.length
  · rw [List.drop_eq_getElem_cons hlt] at g2
    unfold compGoC at g2
    rw [keepC_bind] at g2
    obtain ⟨hS2, g2⟩ := g2.keepC
    obtain ⟨b, ys, eb, hb2, hys, z2⟩ := ref_lst rel2.so (.ref hn2) (lst_ref hS2)
    cases eb
    obtain ⟨u, hu, du⟩ := z2.get (List.getElem?_eq_getElem hlt)
    cases hE : g (wipeE env vs) ds[i] with
    | none => rw [hE] at g2; exact (show False from g2).elim
    | some env' =>
      rw [hE] at g2
      dsimp only at g2
      rw [Out.bind_assoc] at g2
      refine .inr ⟨⟨ys, u, .inl (.inl hys), hu⟩, fun H3 => CInvC X W n a ds g vs tt te σ Q env t r1 H1 p (ds.drop (i + 1)) H3, fun H' h => ⟨ds.length - (i + 1), by omega, rfl, hlt, h⟩, fun x H' y => ?_⟩
      obtain ⟨eH, hx⟩ := y
      subst eH
      have ex1 := Option.some.inj ((hx ys (.inl (.inl hys))).symm.trans hu)
      subst ex1
      refine ⟨r2, p :: t, S2, wipeE env vs, ds[i], rel2, du, env', hE, fun σ2 relS off => ⟨wipe_back off hgo, ?_⟩⟩
      refine ⟨r2, p :: t, S2, env', relS, (Good.split g2).mono fun b S3 r3 H3 ex3 so3 g3 => ?_⟩
      have hD3 : H3 p = some (.lst accV) := ex3.keep p _ hD2 nD
      have rel3 := rel2.ext ex3 so3
      have nD3 : p ∉ r3 := (so3.hid p List.mem_cons_self).2
      cases b with
      | false => exact iteF ⟨r3, S3, acc, accV, ex3.get hn2, hD3, DenL.ext ex3 _ _ dacc, rel3, ex2.trans ex3, g3⟩
      | true =>
        refine iteT ?_
        have g3' := g3
        rw [if_pos rfl, Out.bind_assoc] at g3'
        refine ⟨r3, p :: t, S3, env', relS.ext ex3 so3, (Good.split g3').mono fun y S4 r4 H4 ex4 so4 g4 yv dyv => ?_⟩
        have hD4 : H4 p = some (.lst accV) := ex4.keep p _ hD3 nD3
        have hz : acc.length < sizeLine ∧ Good X.K X.mg t (EW W σ) r1 H1 ((compGoC n ds g (wipeE env vs) tt te (ds.drop (i + 1)) (acc ++ [y]) S4).bind fun acc S2 => .ok (.lst acc) S2) (fun d _ r' H' => ∀ v, Den X.K H' r' t v d → Q v H') := by
          by_cases hz : acc.length < sizeLine
          · rw [if_pos hz] at g4; exact ⟨hz, g4⟩
          · rw [if_neg hz] at g4; exact (show False from g4).elim
        have exB := ex3.trans ex4
        have hT : ∀ ys, H4 p ≠ some (.tup ys) := fun ys e => by rw [hD4] at e; cases e
        have hF : ∀ ob u, H4 p ≠ some (.frz ob u) := fun ob u e => by rw [hD4] at e; cases e
        have mD : p ∈ p :: t := List.mem_cons_self
        exact ⟨accV, hD4, by rw [dacc.length]; exact hz.1, r4, S4, acc ++ [y], accV ++ [yv], exB.get hn2, upd_same, DenL.over mD hT hF _ _ ((DenL.ext exB _ _ dacc).append (.cons dyv .nil)), (rel3.ext ex4 so4).over mD hD4, (ex2.trans exB).overNew hp, hz.2⟩
  · have e : i = ds.length := by omega
    subst e
    rw [List.drop_length] at g2
    unfold compGoC at g2
    rw [keepC_bind] at g2
    obtain ⟨hS2, g2⟩ := g2.keepC
    obtain ⟨b, ys, eb, hb2, hys, z2⟩ := ref_lst rel2.so (.ref hn2) (lst_ref hS2)
    cases eb
    have sub : ∀ a ∈ t, a ∈ p :: t := fun a ha => List.mem_cons_of_mem _ ha
    exact .inl ⟨⟨ys, .inl (.inl hys), by rw [z2.length]; exact Nat.le_refl _⟩, g2 H2 r2 ex2 (rel2.so.less sub) _ (.lst hD2 nD nn.2 (DenL.less sub _ _ dacc))⟩
theorem de_compC (hc : X.calm = true) (hN : X.N.Nodup) (hi : PE X iter (tE X W fe)) (ok : BlkOk X.N X.env.scope scope own) (hgo : ∀ i ∈ go, i ∈ own.map (·.2))
    (hg : ∀ (s : Shared) (H : Hp) (C : Addr) (cl : List (Str × Addr)) (fp : List Addr), PG (X.blk s H scope (compEnvC scope cl C X.env) fp) tg (tG X.K X.mg go g)) (ht : ∀ (s : Shared) (H : Hp) (C : Addr) (cl : List (Str × Addr)) (fp : List Addr), PTs (X.blk s H scope (compEnvC scope cl C X.env) fp) ifs (tB' X W0 tt))
    (he : ∀ (s : Shared) (H : Hp) (C : Addr) (cl : List (Str × Addr)) (fp : List Addr), PE (X.blk s H scope (compEnvC scope cl C X.env) fp) elt (tE X W0 te)) (hs : ∀ x, foldedSetIterable iter X.env x = pure x := by intro _; rfl) :
    PE X (.ListComp elt [⟨tg, iter, ifs, 0⟩] scope pos) (tE X W (dCompC fe g (own.map (·.2)) tt te)) :=
  PE.imp (pe_lc hc hN (pi_list hi) ok hg ht he hs) fun _ _ _ q => tLcC_of hgo q
end
section
variable {X : Cx} {W : WX} {tg iter elt : Expr} {it : DI} {g : DG} {tt : DB} {te : DE} {scope : Scope} {own : List (Str × Nat)} {go : List Nat} {ifs : List Expr} {pos : Pos} {σ : St} {H : Hp} {Q : VK}
end
end DL
end L2

set_option Elab.async false
set_option linter.all false
set_option maxRecDepth 100000
set_option maxHeartbeats 1000000
/-! xs.extend(ys), d.pop(k), x in a written tuple, {'a': x, ..}. -/
namespace L2
namespace DL
open PySem PySem.Spec PyProof.Rows

/-! ### extend -/
def dExtend (fo fa : DE) : DE := fun env S => (fo env S).bind fun o S1 => if (lstOf S1 o).isSome = true then (fa env S1).bind fun y S2 => match o, lstOf S2 o, lstOf S2 y with
  | .ref n, some ds, some es => if ds.length + es.length ≤ sizeLine then .ok .non (S2.set n (.lst (ds ++ es))) else .bad
  | _, _, _ => .bad
  else .bad
section
variable {X : Cx} {W : WX} {e : Expr} {fo fa fi : DE} {K : PySem.W.Frag} {mg : Str → Option Value}
theorem de_extend (hb : PE X e (tBM X.K "list" rExtend (tE X W fo) (tCons (tE X W fa) tNil))) : PE X e (tE X W (dExtend fo fa)) := by
  refine PE.imp hb fun σ H Q q => ?_
  obtain ⟨r, t, S, env, rel, g⟩ := q
  refine ⟨r, t, S, env, rel, g.bind.mono fun od S1 r1 H1 ex so g1 v dv => ?_⟩
  have rel1 := rel.ext ex so
  obtain ⟨hty, g2⟩ := g1.ite
  obtain ⟨ds, hds⟩ := Option.isSome_iff_exists.mp hty
  obtain ⟨a, xs, ev, ha1, _⟩ := lst_ok so dv hds
  refine ⟨by rw [ev]; exact Or.inl ⟨rfl, _, SqL.of ha1⟩, r1, t, S1, env, rel1, g2.bind.mono fun y S2 r2 H2 ex2 so2 g3 yv dy => ?_⟩
  split at g3
  · rename_i n zs es hz he
    obtain ⟨hl, g4⟩ := g3.ite
    obtain ⟨b, ys, ev2, hn, hb, z⟩ := ref_lst so2 (Den.ext ex2 _ _ dv) he
    obtain ⟨c, ws, ec, hc, z2⟩ := lst_ok so2 dy hz
    refine ⟨b, c, ys, ws, ev2, by rw [ec], hb, hc, by rw [z.length, z2.length]; exact hl, ?_⟩
    obtain ⟨ex3, so3⟩ := put_lst so2 hn hb (z.append z2)
    exact g4 _ r2 ex3 so3 _ .non
  · exact (show False from g3).elim
end
section
variable {env : Ev} {S : Sto} {P : D → Sto → Prop} {fo fa fi fv : DE}
def kExt (fa : DE) (env : Ev) (P : D → Sto → Prop) (o : D) (S : Sto) : Prop := ∃ n, o = .ref n ∧ (∃ ds, S[n]? = some (.lst ds)) ∧ Wp (fa env S) fun y S2 => ∃ ds es, S2[n]? = some (.lst ds) ∧ lstOf S2 y = some es ∧ ds.length + es.length ≤ sizeLine ∧ P .non (S2.set n (.lst (ds ++ es)))
theorem w_Ext (h : Wp (fo env S) (kExt fa env P)) : Wp (dExtend fo fa env S) P := by
  unfold dExtend
  rw [wp_bind]
  refine h.mono fun o S1 q => ?_
  obtain ⟨n, eo, ⟨ds, hd⟩, h2⟩ := q
  subst eo
  rw [lst_ref hd, if_pos (show (some ds).isSome = true from rfl), wp_bind]
  refine Wp.mono h2 fun y S2 q => ?_
  obtain ⟨ds, es, h1, h3, h4, p⟩ := q
  rw [lst_ref h1, h3]
  dsimp only
  rw [if_pos h4]
  exact Wp.of rfl p
end

/-! ### d.pop(k) -/
def isTab (S : Sto) : D → Bool
  | .ref n => match S[n]? with
    | some (.dK _) => true
    | _ => false
  | _ => false
def dropD (kvs : List (Key × D)) (k : Key) : List (Key × D) := kvs.filter fun kv => decide (kv.1 ≠ k)
def dPopK (fo fi : DE) : DE := fun env S => (fo env S).bind fun o S1 => if isTab S1 o = true then (fi env S1).bind fun i S2 => match o with
  | .ref n => match S2[n]?, keyD i with
    | some (.dK kvs), some k => match valD kvs k with
      | some d => .ok d (S2.set n (.dK (dropD kvs k)))
      | none => .bad
    | _, _ => .bad
  | _ => .bad
  else .bad
theorem DenP.drop {K : PySem.W.Frag} {H : Hp} {r t : List Addr} (k : Key) : ∀ {ps : List (Key × V)} {ds : List (Key × D)}, DenP K H r t ps ds → DenP K H r t (dropK ps k) (dropD ds k)
  | [], ds, h => by rw [h.nilD]; exact .nil0
  | p :: ps, ds, h => by
    obtain ⟨d, es, e, hd, hp⟩ := h.split
    subst e
    have ih := DenP.drop k hp
    unfold dropK dropD at ih ⊢
    rw [List.filter_cons, List.filter_cons]
    by_cases c : p.1 = k
    · rw [if_neg (by simpa using c), if_neg (by simpa using c)]
      exact ih
    · rw [if_pos (by simpa using c), if_pos (by simpa using c)]
      exact .cons0 hd ih
section
variable {X : Cx} {W : WX} {o e : Expr} {fo fi : DE} {apos cpos : Pos}
theorem de_popK (ho : PE X o (tE X W fo)) (he : PE X e (tE X W fi)) (m : M1 X o "pop" apos e cpos) : PE X (.Call (.Attribute o "pop" apos) [e] [] cpos) (tE X W (dPopK fo fi)) := by
  refine PE.imp (pe_dpop1 ho he m) fun σ H Q q => ?_
  obtain ⟨r, t, S, env, rel, g⟩ := q
  refine ⟨r, t, S, env, rel, g.bind.mono fun od S1 r1 H1 ex so g1 v dv => ?_⟩
  have rel1 := rel.ext ex so
  obtain ⟨hty, g2⟩ := g1.ite
  cases dv with
  | @ref a n hn =>
    have hty' : ∃ kvs, S1[n]? = some (.dK kvs) := by
      unfold isTab at hty
      dsimp only at hty
      split at hty
      · rename_i kvs h; exact ⟨kvs, h⟩
      · cases hty
    obtain ⟨kvs0, hS1⟩ := hty'
    obtain ⟨ps0, hp0, _⟩ := so.ok n a _ hn hS1
    refine ⟨a, rfl, .inl ⟨ps0, .inl hp0⟩, r1, t, S1, env, rel1, g2.bind.mono fun i S2 r2 H2 ex2 so2 g3 iv di => ?_⟩
    dsimp only at g3
    split at g3
    · rename_i kvs k hS hk
      split at g3
      · rename_i d hd
        have hn2 := ex2.get hn
        obtain ⟨ps, hp, z⟩ := so2.ok n a _ hn2 hS
        obtain ⟨w, hw, dw⟩ := (z.val k).1 d hd
        refine ⟨ps, k, w, hp, keyD_ok di hk, hw, ?_⟩
        have ex3 : Ext r2 H2 r2 (upd H2 a (.dK (dropK ps k))) := Ext.write hp trivial (List.mem_of_getElem? hn2)
        have so3 := so2.write (o := .dK (dropK ps k)) hn2 hp trivial (c := .dK (dropD kvs k)) ⟨_, upd_same, DenP.ext ex3 (z.drop k)⟩
        exact g3 _ r2 ex3 so3 w (Den.ext ex3 _ _ dw)
      · exact (show False from g3).elim
    · exact (show False from g3).elim
  | _ => exact absurd hty Bool.false_ne_true
end
section
variable {env : Ev} {S : Sto} {P : D → Sto → Prop} {fo fi : DE}
def kPop (fi : DE) (env : Ev) (P : D → Sto → Prop) (o : D) (S : Sto) : Prop := ∃ n, o = .ref n ∧ (∃ kvs, S[n]? = some (.dK kvs)) ∧ Wp (fi env S) fun i S2 => ∃ kvs k d, S2[n]? = some (.dK kvs) ∧ keyD i = some k ∧ valD kvs k = some d ∧ P d (S2.set n (.dK (dropD kvs k)))
theorem w_PopK (h : Wp (fo env S) (kPop fi env P)) : Wp (dPopK fo fi env S) P := by
  unfold dPopK
  rw [wp_bind]
  refine h.mono fun o S1 q => ?_
  obtain ⟨n, eo, ⟨kvs, hd⟩, h2⟩ := q
  subst eo
  rw [if_pos (by unfold isTab; dsimp only; rw [hd]), wp_bind]
  refine Wp.mono h2 fun i S2 q => ?_
  obtain ⟨kvs, k, d, h1, h3, h4, p⟩ := q
  dsimp only
  rw [h1, h3]
  dsimp only
  rw [h4]
  exact Wp.of rfl p
end

/-! ### x in a written tuple of texts -/
structure GlobT (K : PySem.W.Frag) (mg : Str → Option Value) (x : Str) (xs : List Str) : Prop where
  ex : ∃ a, mg x = some (.ref a) ∧ ∀ H, SqT K H a (xs.map V.str)
def dInG (neg : Bool) (xs : List Str) (fe : DE) : DE := fun env S => (fe env S).bind fun d S1 => match d with
  | .str x => .ok (.bl (neg ^^ decide (x ∈ xs))) S1
  | _ => .bad
theorem inV_strs (x : Str) : ∀ ns : List Str, inV (.str x) (ns.map V.str) = decide (x ∈ ns)
  | [] => rfl
  | n :: ns => by
    show (eqV (.str n) (.str x) || inV (.str x) (ns.map V.str)) = _
    rw [inV_strs x ns]
    show (n == x || decide (x ∈ ns)) = _
    rw [Bool.eq_iff_iff, Bool.or_eq_true, decide_eq_true_eq, decide_eq_true_eq, beq_iff_eq, List.mem_cons]
    exact or_congr ⟨fun h => h.symm, fun h => h.symm⟩ Iff.rfl
theorem flat_strs (ns : List Str) : (ns.map V.str).all flatV = true := by
  rw [List.all_map]
  exact List.all_eq_true.mpr fun _ _ => rfl
section
variable {X : Cx} {W : WX} {a : Expr} {fe : DE} {p pos : Pos} {x : Str} {xs : List Str}
theorem inG_read {neg : Bool} {c : Addr} (hs : ∀ H, SqT X.K H c (xs.map V.str)) {σ : St} {H : Hp} {Q : VK} (q : tE X W (dInG neg xs fe) σ H Q) : tOp (rIn X.K neg) (tE X W fe) (tC (.ref c)) σ H Q := by
  obtain ⟨r, t, S, env, rel, g⟩ := q
  refine ⟨r, t, S, env, rel, g.bind.mono fun d S1 r1 H1 ex so g1 v dv => ?_⟩
  split at g1
  · cases dv
    refine ⟨c, _, rfl, .inr (hs H1), rfl, flat_strs xs, ?_⟩
    rw [inV_strs]
    have := Good.here g1 so _ (.bl _)
    cases neg <;> simpa using this
  · exact (show False from g1).elim
theorem dt_notInG (gt : GlobT X.K X.mg x xs) (ha : PE X a (tE X W fe)) (hg : Gl X x) (hm : behindInMarks .NotIn (.Name x p) = false) (hdb : (x == ("__debug__" : Str)) = false := by decide) : PT X (.Compare a [.NotIn] [.Name x p] pos) (tB' X W (dTst (dInG true xs fe))) := by
  obtain ⟨c, h1, h2⟩ := gt.ex
  exact PT.imp (pt_cmpR op_notIn_seq ha (pe_glob (v := .ref c) hg h1 rfl hdb) hm) fun σ H Q q => tB_test (te := tOp (rIn X.K true) (tE X W fe) (tC (.ref c))) (fun σ H Q q => inG_read h2 q) q
end
section
variable {env : Ev} {S : Sto} {P : D → Sto → Prop} {fe : DE} {neg : Bool} {xs : List Str}
def kInG (neg : Bool) (xs : List Str) (P : D → Sto → Prop) (d : D) (S : Sto) : Prop := match d with
  | .str x => P (.bl (neg ^^ decide (x ∈ xs))) S
  | _ => False
theorem w_InG (h : Wp (fe env S) (kInG neg xs P)) : Wp (dInG neg xs fe env S) P := by
  unfold dInG
  rw [wp_bind]
  refine h.mono fun d S1 q => ?_
  cases d with
  | str x => exact Wp.of rfl q
  | _ => exact q.elim
theorem k_InG {x : Str} : kInG neg xs P (.str x) S = P (.bl (neg ^^ decide (x ∈ xs))) S := rfl
end

section
variable {X : Cx} {W : WX} {pos : Pos} {keys : List (Option Expr)} {vals : List Expr} {ks : List Key} {fs : DA}
end
section
variable {env : Ev} {S : Sto} {P : D → Sto → Prop} {ks : List Key} {fs : DA}
end
section
variable {X : Cx} {E : XK}
end
theorem ex_frz {f : Fn} {ds : List D} {S : Sto} {c : Str} {Q : Sto → Prop} (h : Ex (f ds S) c fun S1 => (∀ j c, j < S.length → S1[j]? = some c → S[j]? = some c ∨ ltC S.length c = true) ∧ Q (S1.take S.length)) : Ex (frzF f ds S) c Q := by
  obtain ⟨S1, e, hc, q⟩ := h.get
  refine ⟨S1.take S.length, ?_, q⟩
  unfold frzF
  rw [e]
  exact if_pos hc
end DL
end L2

set_option Elab.async false
set_option linter.all false
set_option maxRecDepth 100000
set_option maxHeartbeats 1000000
/-! [.. for k in d], list(d), d != {}: tables. -/
namespace L2
namespace DL
open PySem PySem.Spec PyProof.Rows

/-! ### a table is locked, and unlocked -/
section
variable {K : PySem.W.Frag} {mg : Str → Option Value} {H : Hp} {r t : List Addr} {p : Addr} {o : HO}
mutual
theorem Den.off (hT : ∀ xs, H p ≠ some (.tup xs)) (hL : ∀ xs, H p ≠ some (.lst xs)) (hF : ∀ ob xs, H p ≠ some (.frz ob (.lst xs))) : ∀ (d : D) (v : V), Den K H r t v d → Den K (upd H p o) r t v d
  | .non, _, h => by cases h; exact .non
  | .bl b, _, h => by cases h; exact .bl b
  | .int i, _, h => by cases h; exact .int i
  | .str x, _, h => by cases h; exact .str x
  | .ty n, _, h => by cases h; exact .ty n
  | .tup ds, _, h => by
    cases h with
    | tup h z => exact .tup (by rw [upd_ne (fun e => by subst e; exact hT _ h)]; exact h) (DenL.off hT hL hF ds _ z)
  | .lst ds, _, h => by
    cases h with
    | lst h n m z => exact .lst (by rw [upd_ne (fun e => by subst e; exact hL _ h)]; exact h) n m (DenL.off hT hL hF ds _ z)
  | .fz ds, _, h => by
    cases h with
    | fz h z => exact .fz (h.imp (fun ⟨o, q⟩ => ⟨o, by rw [upd_ne (fun e => by subst e; exact hF _ _ q)]; exact q⟩) id) (DenL.off hT hL hF ds _ z)
  | .ref n, _, h => by
    cases h with
    | ref h => exact .ref h
theorem DenL.off (hT : ∀ xs, H p ≠ some (.tup xs)) (hL : ∀ xs, H p ≠ some (.lst xs)) (hF : ∀ ob xs, H p ≠ some (.frz ob (.lst xs))) : ∀ (ds : List D) (vs : List V), DenL K H r t vs ds → DenL K (upd H p o) r t vs ds
  | [], _, h => by cases h; exact .nil
  | d :: ds, _, h => by
    cases h with
    | cons h1 h2 => exact .cons (Den.off hT hL hF d _ h1) (DenL.off hT hL hF ds _ h2)
end
variable {od : Obj} {ps : List (Key × V)}
theorem tup_unlock {u : HO} (h : H p = some (.frz od u)) : ∀ b xs, H b = some (.tup xs) → upd H p o b = some (.tup xs) := fun b xs e => by
  rw [upd_ne (fun z => by rw [z, h] at e; cases e)]
  exact e
theorem DenL.unlock (h : H p = some (.frz od (.dK ps))) {ds : List D} {vs : List V} (z : DenL K H r t vs ds) : DenL K (upd H p o) r t vs ds :=
  DenL.off (fun xs e => by rw [h] at e; cases e) (fun xs e => by rw [h] at e; cases e) (fun ob xs e => by rw [h] at e; cases e) _ _ z
theorem Den.unlock (h : H p = some (.frz od (.dK ps))) {d : D} {v : V} (z : Den K H r t v d) : Den K (upd H p o) r t v d :=
  Den.off (fun xs e => by rw [h] at e; cases e) (fun xs e => by rw [h] at e; cases e) (fun ob xs e => by rw [h] at e; cases e) _ _ z
theorem SOk.unlock {S : Sto} {n : Nat} {kvs : List (Key × D)} (so : SOk K mg H r t S) (hn : r[n]? = some p) (hp : H p = some (.frz od (.dK ps))) (hS : S[n]? = some (.fK kvs)) : SOk K mg (upd H p (.dK ps)) r t (S.set n (.dK kvs)) := by
  refine ⟨by rw [List.length_set]; exact so.len, so.nd, fun j a c h1 h2 => ?_, fun a ha => ⟨?_, (so.hid a ha).2⟩⟩
  · by_cases hj : n = j
    · subst hj
      have ea : p = a := Option.some.inj (hn.symm.trans h1)
      subst ea
      rw [List.getElem?_set_self (List.getElem?_eq_some_iff.mp hS).1] at h2
      have e2 := Option.some.inj h2
      subst e2
      obtain ⟨o', xs, h3, h4⟩ := so.ok n p _ hn hS
      rw [hp] at h3
      have h3 := Option.some.inj h3
      injection h3 with _ h3
      injection h3 with h3
      subst h3
      exact ⟨ps, upd_same, h4.1, DenL.unlock hp h4.2⟩
    · rw [List.getElem?_set_ne hj] at h2
      have ok := so.ok j a c h1 h2
      have na : a ≠ p := fun e => hj (nodup_get so.nd hn (by rw [← e]; exact h1))
      cases c with
      | lst ds => obtain ⟨xs, h3, h4⟩ := ok; exact ⟨xs, by rw [upd_ne na]; exact h3, DenL.unlock hp h4⟩
      | dK ds => obtain ⟨xs, h3, h4⟩ := ok; exact ⟨xs, by rw [upd_ne na]; exact h3, h4.1, DenL.unlock hp h4.2⟩
      | dT ds => obtain ⟨xs, h3, h4⟩ := ok; exact ⟨xs, by rw [upd_ne na]; exact h3, h4.1, DenL.unlock hp h4.2⟩
      | ins c fs => obtain ⟨C, dx, qs, h3, h4, h5, h6⟩ := ok; exact ⟨C, dx, qs, by rw [upd_ne na]; exact h3, by rw [upd_ne (fun e => by subst e; rw [hp] at h4; cases h4)]; exact h4, h5, h6.1, DenL.unlock hp h6.2⟩
      | exc c => obtain ⟨C, h3, h4⟩ := ok; exact ⟨C, h3, by rw [upd_ne na]; exact h4⟩
      | fK ds => obtain ⟨o', xs, h3, h4⟩ := ok; exact ⟨o', xs, by rw [upd_ne na]; exact h3, h4.1, DenL.unlock hp h4.2⟩
      | fT ds => obtain ⟨o', xs, h3, h4⟩ := ok; exact ⟨o', xs, by rw [upd_ne na]; exact h3, h4.1, DenL.unlock hp h4.2⟩
      | dN ds => obtain ⟨v, xs, h3, n, h4⟩ := ok; exact ⟨v, xs, by rw [upd_ne na]; exact h3, n.keep (tup_unlock hp), h4.1, DenL.unlock hp h4.2⟩
      | fN ds => obtain ⟨o', v, xs, h3, n, h4⟩ := ok; exact ⟨o', v, xs, by rw [upd_ne na]; exact h3, n.keep (tup_unlock hp), h4.1, DenL.unlock hp h4.2⟩
      | tC ds => obtain ⟨o', xs, h3, hd, h4⟩ := ok; exact ⟨o', xs, by rw [upd_ne na]; exact h3, hd, DenL.unlock hp h4⟩
      | gone => obtain ⟨o', h3⟩ := ok; exact ⟨o', by rw [upd_ne na]; exact h3⟩
  · by_cases e : a = p
    · subst e; rw [upd_same]; exact fun z => nomatch z
    · rw [upd_ne e]; exact (so.hid a ha).1
theorem Ext.unlock {r2 : List Addr} {H2 : Hp} (hH : H p = some (.dK ps)) (hp : p ∈ r) (e : Ext r (upd H p (.frz od (.dK ps))) r2 H2) : Ext r H r2 (upd H2 p (.dK ps)) := by
  obtain ⟨nw, h1, h2⟩ := e.pre
  have ne : ∀ b u, H b = some u → u ≠ .dK ps → b ≠ p := fun b u h q z => by rw [z, hH] at h; cases h; exact q rfl
  refine ⟨⟨nw, h1, fun q hq => ?_⟩, fun b u h hb => ?_, fun b xs h => ?_, fun b ob u m h => ?_, fun b ob xs h => ?_, fun b x h => ?_, fun b h => ?_⟩
  · have z := h2 q hq
    by_cases c : q = p
    · rw [c, upd_same] at z; cases z
    · rw [upd_ne c] at z; exact z
  · have c : b ≠ p := fun z => hb (by rw [z]; exact hp)
    rw [upd_ne c]
    exact e.keep b u (by rw [upd_ne c]; exact h) hb
  · have c := ne b _ h (fun z => nomatch z)
    rw [upd_ne c]
    exact e.tups b xs (by rw [upd_ne c]; exact h)
  · have c := ne b _ h (fun z => nomatch z)
    rw [upd_ne c]
    exact e.frzs b ob u m (by rw [upd_ne c]; exact h)
  · have c := ne b _ h (fun z => nomatch z)
    rw [upd_ne c]
    exact e.frzt b ob xs (by rw [upd_ne c]; exact h)
  · have c := ne b _ h (fun z => nomatch z)
    rw [upd_ne c]
    exact e.owns b x (by rw [upd_ne c]; exact h)
  · by_cases c : b = p
    · rw [c, upd_same]; exact fun z => nomatch z
    · rw [upd_ne c]
      exact e.there b (by rw [upd_ne c]; exact h)
end

section
variable {X : Cx} {W : WX} {tg elt : Expr} {g : DG} {tt : DB} {te : DE} {scope : Scope} {own : List (Str × Nat)} {go : List Nat} {ifs : List Expr} {pos : Pos} {σ : St} {H : Hp} {Q : VK}
end
section
variable {X : Cx} {W : WX}
end
end DL
end L2

set_option Elab.async false
set_option linter.all false
set_option maxRecDepth 100000
namespace L2
namespace DL
open PySem PySem.Spec PyProof.Rows
section
variable {X : Cx} {W : WX} {o e f : Expr} {fo fi fx : DE} {apos cpos : Pos}
end
section
variable {env : Ev} {S : Sto} {P : D → Sto → Prop} {fo fi fx : DE}
end
end DL
end L2

set_option Elab.async false
set_option linter.all false
set_option maxRecDepth 100000
set_option maxHeartbeats 1000000
/-! tables with tuple keys: == and !=. -/
namespace L2
open PySem PySem.Spec PySem.Calls PyProof.Rows PyProof.V
section
variable {prog : Program} {w : World} {K : Type} [DecidableEq K] {knd : HeapKind prog w K} {A : Around} {E : Value → Shared → Prop} {s : Shared}
end
namespace DL
inductive Lk (s : Shared) : List (List Key × Addr × Value) → List (List Key × PyData) → Prop
  | nil : Lk s [] []
  | cons {k : List Key} {c : Addr} {u : Value} {p : PyData} {as : List Addr} {xs : List (List Key × Addr × Value)} {ps : List (List Key × PyData)} : Reads s.heap u p as → SeqAt.shaped p = true → Lk s xs ps → Lk s ((k, c, u) :: xs) ((k, p) :: ps)
theorem Lk.length {s : Shared} {xs : List (List Key × Addr × Value)} {ps : List (List Key × PyData)} (h : Lk s xs ps) : xs.length = ps.length := by
  induction h with
  | nil => rfl
  | cons _ _ _ ih => rw [List.length_cons, List.length_cons, ih]
end DL
end L2

set_option Elab.async false
set_option linter.all false
set_option maxRecDepth 100000
set_option maxHeartbeats 1000000
/-! loops and comprehensions over tables of both kinds. -/
namespace L2
namespace DL
open PySem PySem.Spec PyProof.Rows
section
variable {K : PySem.W.Frag} {mg : Str → Option Value} {H : Hp} {r t : List Addr} {p : Addr} {o u : HO} {od : Obj}
end
section
variable {X : Cx} {E : XK} {fe : DE} {gg : DG} {f : DS}
end
section
variable {X : Cx} {W : WX} {tg iter elt : Expr} {fe : DE} {g : DG} {tt : DB} {te : DE} {scope : Scope} {own : List (Str × Nat)} {go : List Nat} {ifs : List Expr} {pos : Pos} {σ : St} {H : Hp} {Q : VK}
end
/-! ### their rules -/
section
variable {n : Nat} {ds : List DL.D} {cl : Cell} {env : Ev} {S : Sto} {fe : DE} {g : DG}
end
end DL
end L2

set_option Elab.async false
set_option linter.all false
set_option maxRecDepth 100000
set_option maxHeartbeats 1000000
/-! tables: clear, the values walked. -/
namespace L2
open PySem PySem.Spec PyProof.Rows
section
variable {X : Cx} {pins : List (Addr × Obj)} {σ : St} {H : Hp} {s : Shared} {d : Addr} {o : Obj}
end
section
variable {P : Program} {w : World} {K : PySem.W.Frag} {tg : Expr} {d : Addr} {o : Obj} {es : Array DictEntry} {ep : Nat}
end
namespace DL
section
variable {X : Cx} {W : WX} {tg elt e : Expr} {fe : DE} {g : DG} {tt : DB} {te : DE} {scope : Scope} {own : List (Str × Nat)} {go : List Nat} {ifs : List Expr} {pos : Pos} {σ : St} {H : Hp} {Q : VK}
end
/-! ### d.clear() -/
def rClearA : V → List V → Hp → VK → Prop := fun x vs H Q => ∃ a : Addr, x = .ref a ∧ vs = [] ∧ ((∃ kvs, H a = some (.dK kvs) ∧ Q .non (upd H a (.dK []))) ∨ ∃ kvs, H a = some (.dT kvs) ∧ Q .non (upd H a (.dT [])))
theorem mt_clearA {X : Cx} : MtR X "dict.clear" rClearA := by
  intro pins s σ H x vs v us Q I rx rv h
  obtain ⟨a, rfl, rfl, h⟩ := h
  obtain rfl : v = Value.ref a := rx
  have hus := rv.zero
  subst hus
  rcases h with ⟨kvs, e, q⟩ | ⟨kvs, e, q⟩
  · exact d_clear I e fun s' I' => ⟨.non, _, I', rfl, q⟩
  · obtain ⟨z, y, xs, kt, dd⟩ := dt_of I.hok e
    have dd' := dd
    obtain ⟨o, es, ep, ho, hx, hd, he, his, hn⟩ := dd'
    have hsz : es.size ≤ sizeLine := by rw [size_of_entries he, ← Paired.length kt]; exact z
    refine call_meetsIn PySem.F.slot_dict_clear dd.typeIs PySem.F.entry_dict_clear (PySem.F.args_dict_clear_1 _) (PySem.meets_dict_clear_raw a) ⟨es, ep, ⟨o, ho, hx, hd⟩, hsz, fun h' dr hs => ?_⟩
    obtain ⟨o', ho', hx', hd'⟩ := dr
    refine ⟨.non, _, d_write (t' := s.toks) I (by rw [e]; exact True.intro) hs ⟨o', ho'⟩ (ob := .dT []) ⟨Nat.zero_le _, y, [], .nil, o', #[], ep + 1, ho', hx', hd', rfl, List.nodup_nil⟩, rfl, q⟩
def dClear (fo : DE) : DE := fun env S => (fo env S).bind fun o S1 => match o with
  | .ref n => match S1[n]? with
    | some (.dK _) => .ok .non (S1.set n (.dK []))
    | some (.dT _) => .ok .non (S1.set n (.dT []))
    | _ => .bad
  | _ => .bad
theorem de_clear {X : Cx} {W : WX} {o : Expr} {fo : DE} {apos cpos : Pos} (ho : PE X o (tE X W fo)) (hbase : attributeBase o "clear" X.env (eval o X.env) = eval o X.env := by rfl) (hline : (apos.endLine == cpos.line) = true := by rfl) : PE X (.Call (.Attribute o "clear" apos) [] [] cpos) (tE X W (dClear fo)) := by
  refine PE.imp (pe_bm0 PySem.F.plainAttrs_dict PySem.F.slot_dict_clear PySem.F.type_dict_clear mt_clearA ho hbase hline) fun σ H Q q => ?_
  obtain ⟨r, t, S, env, rel, g⟩ := q
  refine ⟨r, t, S, env, rel, g.bind.mono fun od S1 r1 H1 ex so g1 v dv => ?_⟩
  split at g1
  · rename_i n
    cases dv with
    | @ref a _ hn =>
    have har : a ∈ r1 := List.mem_of_getElem? hn
    split at g1
    · rename_i kvs hS
      obtain ⟨ps, hH, z⟩ := so.ok n a _ hn hS
      refine ⟨.inr (.inr (.inl ⟨rfl, .inl ⟨_, hH⟩⟩)), a, rfl, rfl, .inl ⟨ps, hH, ?_⟩⟩
      have ex3 : Ext r1 H1 r1 (upd H1 a (.dK [])) := Ext.write hH trivial har
      exact g1 _ r1 ex3 (so.write (o := .dK []) hn hH trivial ⟨[], upd_same, rfl, .nil⟩) _ .non
    · rename_i kvs hS
      obtain ⟨ps, hH, z⟩ := so.ok n a _ hn hS
      refine ⟨.inr (.inr (.inl ⟨rfl, .inr ⟨_, hH⟩⟩)), a, rfl, rfl, .inr ⟨ps, hH, ?_⟩⟩
      have ex3 : Ext r1 H1 r1 (upd H1 a (.dT [])) := Ext.write hH trivial har
      exact g1 _ r1 ex3 (so.write (o := .dT []) hn hH trivial ⟨[], upd_same, rfl, .nil⟩) _ .non
    · exact (show False from g1).elim
  · exact (show False from g1).elim
/-! ### their rules -/
section
variable {n : Nat} {env : Ev} {S : Sto} {fe : DE} {g : DG}
def kClear (P : D → Sto → Prop) (d : D) (S1 : Sto) : Prop := ∃ n, d = .ref n ∧ ((∃ kvs, S1[n]? = some (.dK kvs) ∧ P .non (S1.set n (.dK []))) ∨ ∃ kvs, S1[n]? = some (.dT kvs) ∧ P .non (S1.set n (.dT [])))
theorem w_Clear {P : D → Sto → Prop} (h : Wp (fe env S) (kClear P)) : Wp (dClear fe env S) P := by
  unfold dClear
  rw [wp_bind]
  refine h.mono fun d S1 q => ?_
  obtain ⟨n, ed, q⟩ := q
  subst ed
  dsimp only
  rcases q with ⟨kvs, e, q⟩ | ⟨kvs, e, q⟩
  · rw [e]; exact Wp.of rfl q
  · rw [e]; exact Wp.of rfl q
end
end DL
end L2

set_option Elab.async false
set_option linter.all false
set_option maxRecDepth 100000
set_option maxHeartbeats 1000000
/-! a tuple once, a tuple no time. -/
namespace L2
open PySem PySem.Spec PyProof.Rows
section
variable {X : Cx}
end
namespace DL
section
variable {X : Cx}
end
end DL
end L2

set_option Elab.async false
set_option linter.all false
set_option maxRecDepth 100000
set_option maxHeartbeats 1000000
/-! try with a handler that asks the caught one for its classes; a field of what is never told. -/
namespace L2
namespace DL
open PySem PySem.Spec PyProof.Rows
section
variable {X : Cx} {a : Addr} {i j : Nat} {f g : Bool → Bool} {e e2 : Expr} {rest : List Expr} {pos p : Pos} {m : Str}
end
section
variable {X : Cx} {a D : Addr} {oe : Obj} {pn : List (Addr × Obj)} {i j : Nat} {n x c : Str} {tab : List (Str × Bool)} {p p2 p3 pos : Pos}
end
section
variable {X : Cx} {a : Addr} {i j : Nat} {f : Bool → Bool} {e : Expr} {m : Str} {pos p : Pos}
end
section
variable {env : Ev} {S : Sto} {PF : Fl × Ev → Sto → Prop} {g : DS} {c : Str} {hb : Str → Bool → Bool}
end
end DL
end L2

set_option Elab.async false
set_option linter.all false
set_option maxRecDepth 100000
set_option maxHeartbeats 1000000
/-! instances of the program's own classes: cells .ins. -/
namespace L2
open PySem PySem.Spec PyProof.Rows
section
variable {X : Cx} {CX : CXT} {k : Nat} {f C : Addr} {fd : FuncData} {ps : List Str} {sp : Sp} {E : St → XK} {x m : Str} {p pos apos : Pos} {e o : Expr} {es : List Expr} {ta : TE} {t : TA}
end
namespace DL
/-- a method: its function, itself first -/
structure MethD (P : Program) (w : World) (K : PySem.W.Frag) (mg : Str → Option Value) (base : Heap) (CX : CXT) (k : Nat) (c m : Str) (n : Nat) (fn : Fn) : Prop where
  ex : ∃ C g fd ps, mg c = some (.ref C) ∧ Cls K C ∧ Meth K C m g ∧ FnOk P w K mg base CX k g fd ps (spD K mg (n + 1) fn) ∧ Binds K fd ps []
/-- a class that is called: its __init__'s function -/
structure MakeD (P : Program) (w : World) (K : PySem.W.Frag) (mg : Str → Option Value) (base : Heap) (CX : CXT) (k : Nat) (c : Str) (n : Nat) (fn : Fn) : Prop where
  ex : ∃ C g fd ps j, mg c = some (.ref C) ∧ Mk K C g ∧ j + 1 ≤ k ∧ FnOk P w K mg base CX j g fd ps (spD K mg (n + 1) fn) ∧ Binds K fd ps []
section
variable {P : Program} {w : World} {K : PySem.W.Frag} {mg : Str → Option Value} {base : Heap} {CX : CXT} {j k n : Nat} {c m : Str} {fn : Fn}
theorem MethD.up (h : MethD P w K mg base CX j c m n fn) (hk : j ≤ k) : MethD P w K mg base CX k c m n fn := by
  obtain ⟨C, g, fd, ps, a, b, d, F, e⟩ := h
  exact ⟨C, g, fd, ps, a, b, d, F.mono hk, e⟩
theorem MakeD.up (h : MakeD P w K mg base CX j c n fn) (hk : j ≤ k) : MakeD P w K mg base CX k c n fn := by
  obtain ⟨C, g, fd, ps, i, a, b, d, F, e⟩ := h
  exact ⟨C, g, fd, ps, i, a, b, Nat.le_trans d hk, F, e⟩
end
section
variable {K : PySem.W.Frag} {H : Hp} {r t : List Addr} {f : Str}
end
section
variable {X : Cx} {W : WX} {E : XK} {e o v : Expr} {es : List Expr} {fe fo : DE} {fs : DA} {c f m : Str} {names : List Str} {pos apos pos' p : Pos}
end
end DL
end L2

set_option Elab.async false
set_option linter.all false
set_option maxRecDepth 100000
set_option maxHeartbeats 1000000
/-! d.pop(k) of a table with tuple keys; [..] * n as a new cell; xs.count(text); what instances come to. -/
namespace L2
open PySem PySem.Spec PyProof.Rows
namespace DL
section
variable {X : Cx} {W : WX} {o e : Expr} {fo fi : DE} {apos cpos : Pos}
end
section
variable {env : Ev} {S : Sto} {P : D → Sto → Prop} {fo fi : DE}
end
section
variable {env : Ev} {S : Sto} {P : D → Sto → Prop} {PF : Fl × Ev → Sto → Prop} {fa fb fe fo : DE} {fs : DA} {fn : Fn} {x y d : D} {c f m : Str} {ds : List D} {n : Nat}
end
/-! ### xs.count(text) -/
section
variable {X : Cx}
end
end DL
end L2

set_option Elab.async false
set_option linter.all false
set_option maxRecDepth 100000
set_option maxHeartbeats 1000000
/-! sum(d.values()), min(d.values(), default=x): tables whose values are whole numbers. -/
namespace L2
open PySem PySem.Spec PyProof.Rows
section
variable {X : Cx} {pins : List (Addr × Obj)} {σ : St} {H : Hp} {s : Shared} {d : Addr}
end
section
variable {X : Cx}
end
namespace DL
section
variable {X : Cx} {W : WX} {e ez : Expr} {fe fz : DE} {p pos apos cpos kpos : Pos}
end
section
variable {env : Ev} {S : Sto} {P : D → Sto → Prop} {fe fz : DE} {d z : D}
end
end DL
end L2

set_option Elab.async false
set_option linter.all false
set_option maxRecDepth 100000
set_option maxHeartbeats 1000000
/-! sorted(..) of tuples of whole numbers, of any lengths (one item at least): of a list, of a table's keys. -/
namespace L2
open PySem PySem.Spec PyProof.Rows
section
variable {X : Cx} {pins : List (Addr × Obj)} {σ : St} {H : Hp} {s : Shared}
end
namespace DL
section
variable {X : Cx}
theorem denL_ints {K : PySem.W.Frag} {H : Hp} {r t : List Addr} : ∀ ns : List Int, DenL K H r t (ns.map V.int) (ns.map D.int)
  | [] => .nil
  | n :: ns => .cons (.int n) (denL_ints ns)
end
end DL
end L2

set_option Elab.async false
set_option linter.all false
set_option maxRecDepth 100000
set_option maxHeartbeats 1000000
/-! [.. for k in d] over any expression's table, d locked for good; zip of two lists at hand. -/
namespace L2
open PySem PySem.Spec PyProof.Rows
namespace DL
section
variable {X : Cx} {W : WX} {tg elt e : Expr} {fe : DE} {g : DG} {tt : DB} {te : DE} {scope : Scope} {own : List (Str × Nat)} {go : List Nat} {ifs : List Expr} {pos : Pos} {σ : St} {H : Hp} {Q : VK}
end
section
variable {n : Nat} {env : Ev} {S : Sto} {fe fa fb : DE} {g : DG}
end
section
variable {X : Cx} {W : WX} {e e2 : Expr} {fs : DA} {elts : List Expr} {kk : Nat} {p pos tpos : Pos}
end
section
variable {env : Ev} {S : Sto} {P : List D → Sto → Prop} {fs : DA}
end
end DL
end L2

set_option Elab.async false
set_option linter.all false
set_option maxRecDepth 100000
set_option maxHeartbeats 1000000
/-! dict(d) of a table whose keys' hashes lie apart; a def that calls itself. -/
namespace L2
open PySem PySem.Spec PyProof.Rows
section
variable {prog : Program} {w : World} {K : Type} [DecidableEq K] {knd : HeapKind prog w K} {A : Around} {E : Value → Shared → Prop} {s : Shared}
end
section
variable {X : Cx}
end
namespace DL
section
variable {X : Cx} {W : WX} {e : Expr} {fe : DE} {p pos : Pos}
end
section
variable {env : Ev} {S : Sto} {P : D → Sto → Prop} {fe : DE}
end
end DL
end L2

set_option Elab.async false
set_option linter.all false
set_option maxRecDepth 100000
set_option maxHeartbeats 1000000
/-! for x in d, d locked already by a walk around. -/
namespace L2
namespace DL
open PySem PySem.Spec PyProof.Rows
section
variable {X : Cx} {E : XK} {fe : DE} {gg : DG} {f : DS}
end
section
variable {env : Ev} {S : Sto} {fe : DE} {g : DG} {b : DS} {PF : Fl × Ev → Sto → Prop}
end
end DL
end L2

set_option Elab.async false
set_option linter.all false
set_option maxRecDepth 100000
set_option maxHeartbeats 1000000
/-! [.. for v in d.values()], d locked for the time of the walk. -/
namespace L2
open PySem PySem.Spec PyProof.Rows
namespace DL
section
variable {X : Cx} {W : WX} {tg iter elt : Expr} {fe : DE} {g : DG} {tt : DB} {te : DE} {scope : Scope} {own : List (Str × Nat)} {go : List Nat} {ifs : List Expr} {pos : Pos} {σ : St} {H : Hp} {Q : VK}
end
section
variable {n : Nat} {ds : List DL.D} {cl : Cell} {env : Ev} {S : Sto} {fe : DE} {g : DG}
end
end DL
end L2

set_option Elab.async false
set_option linter.all false
set_option maxRecDepth 100000
set_option maxHeartbeats 1000000
/-! for k in d, whether a walk around has locked d or not; range(i, j, c). -/
namespace L2
open PySem PySem.Spec PyProof.Rows
namespace DL
section
variable {X : Cx} {E : XK} {fe : DE} {gg : DG} {f : DS}
end
section
variable {n : Nat} {ds : List D} {cl : Cell} {env : Ev} {S : Sto} {fe : DE} {g : DG} {b : DS} {PF : Fl × Ev → Sto → Prop}
end
end DL
end L2

set_option Elab.async false
set_option linter.all false
set_option maxRecDepth 100000
set_option maxHeartbeats 1000000
/-! != of two lists that hold tables. -/
namespace L2
open PySem PySem.Spec PySem.Calls PyProof.Rows PyProof.V PySem.SeqAt
open AutoSeq1 (wpAny_loadPart')
open MeetsSeq MeetsSeq2 MeetsSeq3 SeqRoads2
section
variable {prog : Program} {w : World}
theorem uneq_turns (la lb : Addr) (xs ys : Array Value) (nx ny : Nat) (ax ay : Option Addr) (zx zy : Array (Option Value)) (hz : xs.size = ys.size) (f : Nat → Bool) (m : Nat) :
    ∀ i : Nat, xs.size - i = m → MeetsIn prog w (Builtin.«list.__eq__.loop» ⟨[.ref la, .ref lb, rawInt i, rawInt 3], []⟩)
      (fun A R s => s.heap.get? la = some { cls := .type "list", dict := ax, data := .seq xs nx, slots := zx } ∧ s.heap.get? lb = some { cls := .type "list", dict := ay, data := .seq ys ny, slots := zy } ∧
        (∀ j (h1 : j < xs.size) (h2 : j < ys.size), EqP prog w A.in1 s xs[j] ys[j] (f j)) ∧
        R (.ok (.ret (.bool (!((List.range xs.size).drop i).all f)))) s) := by
  induction m with
  | zero =>
    intro i him A R s z
    obtain ⟨hp, g, d, tk, os⟩ := s
    obtain ⟨ga, gb, gq, z⟩ := z
    wp_walk using wpAny_loadPart' ga, wpAny_loadPart' gb
    have n1 : xs[((i : Nat) : Int).toNat]? = none := by simp; omega
    have n2 : ys[((i : Nat) : Int).toNat]? = none := by simp; omega
    have n3 : (List.range xs.size).drop i = [] := by simp; omega
    rw [n3] at z
    rw [n1, n2]
    wp_walk using wpAny_loadPart' ga, wpAny_loadPart' gb
    show R (.ok (.ret (.bool (xs.size != ys.size)))) _
    rw [hz]
    simpa using z
  | succ m ih =>
    intro i him A R s z
    obtain ⟨hp, g, d, tk, os⟩ := s
    obtain ⟨ga, gb, gq, z⟩ := z
    wp_walk using wpAny_loadPart' ga, wpAny_loadPart' gb
    have l1 : i < xs.size := by omega
    have l2 : i < ys.size := by omega
    have n1 : xs[((i : Nat) : Int).toNat]? = some xs[i] := by simp [l1]
    have n2 : ys[((i : Nat) : Int).toNat]? = some ys[i] := by simp [l2]
    have n3 : (List.range xs.size).drop i = i :: (List.range xs.size).drop (i + 1) := by simp [List.drop_eq_getElem_cons, l1]
    have n4 : ((i : Int) + 1) = ((i + 1 : Nat) : Int) := rfl
    rw [n3, List.all_cons] at z
    rw [n1, n2]
    refine wpAny_bind (gq i l1 l2 _ _ ?_)
    cases fi : f i with
    | true =>
      rw [fi] at z
      wp_walk
      rw [n4]
      refine ⟨plainId_quiet plain_eq_loop _, codeAny_builtin entry_eq_loop ?_⟩
      rw [Around.under_plainId (plain_eq_loop) _]
      exact ih (i + 1) (by omega) A R _ ⟨ga, gb, gq, by simpa using z⟩
    | false =>
      rw [fi] at z
      wp_walk using wpAny_loadPart' ga, wpAny_loadPart' gb
      rw [n1, n2]
      wp_walk
      simpa using z
theorem uneq_lists (la lb : Addr) (xs ys : Array Value) (nx ny : Nat) (ax ay : Option Addr) (zx zy : Array (Option Value)) (hz : xs.size = ys.size) (f : Nat → Bool) :
    MeetsIn prog w (Builtin.«list.__ne__» ⟨[.ref la, .ref lb], []⟩)
      (fun A R s => s.heap.get? la = some { cls := .type "list", dict := ax, data := .seq xs nx, slots := zx } ∧ s.heap.get? lb = some { cls := .type "list", dict := ay, data := .seq ys ny, slots := zy } ∧
        (∀ j (h1 : j < xs.size) (h2 : j < ys.size), EqP prog w A.in1 s xs[j] ys[j] (f j)) ∧
        R (.ok (.ret (.bool (!(List.range xs.size).all f)))) s) := by
  intro A R s z
  obtain ⟨hp, g, d, tk, os⟩ := s
  obtain ⟨ga, gb, gq, z⟩ := z
  have n0 := AutoSeq1.sub_list_list
  have n1 : ¬ (xs.size != ys.size) = true := by simp [hz]
  wp_walk using wpAny_loadPart' ga, wpAny_loadPart' gb
  refine ⟨plainId_quiet plain_eq_loop _, codeAny_builtin entry_eq_loop ?_⟩
  rw [Around.under_plainId (plain_eq_loop) _]
  exact uneq_turns la lb xs ys nx ny ax ay zx zy hz f _ 0 rfl A R _ ⟨ga, gb, gq, by simpa using z⟩
theorem rcP_unlists {A : Around} {s : Shared} {la lb : Addr} {xs ys : Array Value} {f : Nat → Bool} (ga : s.heap.IsList la xs) (gb : s.heap.IsList lb ys) (hz : xs.size = ys.size) (hu : A.units < cLine)
    (gq : ∀ j (h1 : j < xs.size) (h2 : j < ys.size), EqP prog w A.in1 s xs[j] ys[j] (f j)) (E Q : Value → Shared → Prop) (z : Q (.bool (!(List.range xs.size).all f)) s) : wpAny (model prog w) A (richCompare .NotEq (.ref la) (.ref lb)) Q E s := by
  obtain ⟨⟨c1, a1, t1, z1⟩, o1, q1, n1, e1⟩ := id ga
  obtain ⟨⟨c2, a2, t2, z2⟩, o2, q2, n2, e2⟩ := id gb
  simp only at q1 e1 q2 e2
  subst q1 e1 q2 e2
  have ta : s.TypeIs (.ref la) "list" := ⟨_, o1, rfl⟩
  have tb : s.TypeIs (.ref lb) "list" := ⟨_, o2, rfl⟩
  refine wpAny_richCompare_same_room (op := .NotEq) ta tb F.slot_list_ne (call_meetsIn F.slot_list_ne ta F.entry_list_ne (F.args_list_ne_2 _ _) (uneq_lists la lb xs ys n1 n2 a1 a2 z1 z2 hz f) ?_) hu
  exact ⟨o1, o2, gq, show Value.bool (!(List.range xs.size).all f) ≠ Value.notImplemented ∧ Q (.bool (!(List.range xs.size).all f)) s from ⟨(fun x => nomatch x), z⟩⟩
end
namespace DL
section
variable {X : Cx} {r t : List Addr} {S : Sto} {pins : List (Addr × Obj)} {s : Shared} {σ : St} {H : Hp}
end
end DL
end L2

set_option Elab.async false
set_option linter.all false
set_option maxRecDepth 100000
set_option maxHeartbeats 1000000
/-! x.clear() of a list; sorted(..) of names as a list that will be changed. -/
namespace L2
open PySem PySem.Spec PyProof.Rows
namespace DL
/-! ### sorted, to be changed -/
section
variable {X : Cx} {W : WX} {e : Expr} {es : List Expr} {fs : DA} {pos : Pos}
end
end DL
end L2

set_option Elab.async false
set_option linter.all false
set_option maxRecDepth 100000
set_option maxHeartbeats 1000000
/-! tuples whose object is known bare, and dict() of them; slices as cells; list.index of plain things; sorted of a table of numbers. -/
namespace L2
open PySem PySem.Spec PyProof.Rows
section
variable {X : Cx}
/-- tuple(xs) of a list, its object told -/
theorem call_tuple_bare : CallR X (.type "tuple") (fun xs H Q => ∃ p ys, xs = [.ref p] ∧ SqL X.K H p ys ∧ ∀ l o, H l = none → o.dict = none → Q (.ref l) (upd H l (.frz o (.tup ys)))) := by
  intro pins s σ H xs us Q I r h
  obtain ⟨p, ys, rfl, hq, q⟩ := h
  obtain ⟨u, rfl, rx⟩ := vals1 r
  cases rx
  obtain ⟨its, r', pl, hz⟩ := I.list hq
  have hlen := r'.length
  refine call_tuple_list pl.isList (fun h' kp => ?_) (by simp only [List.size_toArray] <;> omega)
  have I1 : Inv X pins σ H { s with heap := h' } := I.kept (t' := s.toks) kp
  have I2 : Inv X pins σ (upd H h'.objs.size (.frz { cls := .type "tuple", data := .seq its.toArray } (.tup ys))) { s with heap := h'.push { cls := .type "tuple", data := .seq its.toArray } } :=
    I1.laid (t' := s.toks) (fun b o e => Heap.get?_push_of_some _ e) (Nat.le_refl _) (show ObjOk X.prog X.w _ _ _ (.frz _ (.tup ys)) from ⟨Heap.get?_push_size _ rfl, hz, its, r', IsTup.new _ _⟩)
  exact ⟨.ref h'.objs.size, _, I2, rfl, q _ _ (I1.hok.fresh (Nat.le_refl _)) rfl⟩
theorem pairs_of2 {pins : List (Addr × Obj)} {σ : St} {H : Hp} {s : Shared} (I : Inv X pins σ H s) : ∀ {ps : List Addr} {kvs : List (Key × V)}, Paired (fun p kv => SqT X.K H p [kV kv.1, kv.2]) ps kvs →
    ∃ (prs : List (Key × Value)) (vps : List (Value × Value)), KV kvs prs ∧ prs.length = ps.length ∧ vps.length = ps.length ∧ ∀ (j : Nat) (k v : Value), vps[j]? = some (k, v) → ∃ (b : Addr) (q : Key × Value), ps[j]? = some b ∧ prs[j]? = some q ∧ IsTup s.heap b #[k, v] ∧ q.2 = v ∧ keyIs q.1 k = true
  | _, _, .nil => ⟨[], [], .nil, rfl, rfl, fun j k v e => by simp at e⟩
  | _, _, .cons (a := p) (b := kv) h t => by
    obtain ⟨prs, vps, r, hl, hl2, hp⟩ := pairs_of2 I t
    obtain ⟨its, rv, ht, _⟩ := I.tuple h
    obtain ⟨u, y, ei, ru, ry⟩ := vals2 rv
    subst ei
    refine ⟨(kv.1, y) :: prs, (u, y) :: vps, .cons ⟨rfl, ry⟩ r, by rw [List.length_cons, List.length_cons, hl], by rw [List.length_cons, List.length_cons, hl2], fun j k v e => ?_⟩
    cases j with
    | zero =>
      have e' : (u, y) = (k, v) := Option.some.inj e
      cases e'
      exact ⟨p, _, rfl, rfl, ht, rfl, kV_is (P := X.prog) (w := X.w) ru⟩
    | succ j =>
      obtain ⟨b, q, e1, e2, e3, e4, e5⟩ := hp j k v (by simpa using e)
      exact ⟨b, q, by simpa using e1, by simpa using e2, e3, e4, e5⟩
/-- dict(xs) of such a tuple of pairs -/
theorem call_dict_bare (hcalm : X.calm = true) : CallR X (.type "dict") (fun xs H Q => ∃ (a : Addr) (o : Obj) (ps : List Addr) (kvs : List (Key × V)), xs = [.ref a] ∧ H a = some (.frz o (.tup (ps.map V.ref))) ∧ o.dict = none ∧ Paired (fun p kv => SqT X.K H p [kV kv.1, kv.2]) ps kvs ∧
    ∀ p, H p = none → Q (.ref p) (upd H p (.dK (mergeK [] kvs)))) := by
  intro pins s σ H xs us Q I r q
  obtain ⟨a, o, ps, kvs, ex, ha, hod, hp, q⟩ := q
  subst ex
  obtain ⟨u, eu, rx⟩ := vals1 r
  subst eu
  cases rx
  obtain ⟨hgo, hz, its, rv, o', ho', hc, n, hdat⟩ := (show ObjOk X.prog X.w H s.heap a (.frz o (.tup (ps.map V.ref))) from I.hok a _ ha)
  rw [hgo] at ho'
  cases ho'
  have ei := refs_at rv
  subst ei
  rw [List.length_map] at hz
  obtain ⟨prs, vps, rel, hl, hl2, hpr⟩ := pairs_of2 I hp
  refine PySem.call_dict_pairs (knd := mixKind X.prog X.w) (kvs := prs) (PairArg.tuple (prog := X.prog) (w := X.w) a (ps.map Value.ref).toArray (fun j => ps[j]?.getD 0) vps) (I.ok.hd hcalm) ⟨⟨o, n, hgo, hc, hod, hdat⟩, by simp [hl2], fun j k v hj => ?_⟩ ⟨by rw [hl, hl2], fun i k v hi => ?_⟩ (by rw [hl2]; exact hz) fun h' tk hd' k => ?_
  · obtain ⟨b, q, e1, e2, e3, e4, e5⟩ := hpr j k v hj
    obtain ⟨ob, ho1, ho2, nb, ho3⟩ := e3
    exact ⟨by simp [e1], .inl ⟨ob, by show s.heap.get? (ps[j]?.getD 0) = some ob; rw [e1]; exact ho1, ho2, nb, ho3⟩⟩
  · obtain ⟨b, q, e1, e2, e3, e4, e5⟩ := hpr i k v hi
    exact ⟨q.1, by rw [e2, ← e4], e5⟩
  · have hm : (s.heap.objs.size == sysModules) = false := beq_eq_false_iff_ne.mpr (Nat.ne_of_gt I.big)
    have hlen : (mergeK [] kvs).length ≤ sizeLine := by
      refine Nat.le_trans (length_mergeK kvs []) ?_
      rw [List.length_nil, Nat.zero_add, rel.length, hl]
      exact hz
    exact ⟨.ref s.heap.objs.size, upd H s.heap.objs.size (.dK (mergeK [] kvs)), I.laid (t' := tk) (fun b o e => k b o (by simp) e) (Nat.le_refl _) (show ObjOk X.prog X.w _ _ _ (.dK (mergeK [] kvs)) from ⟨hlen, hm, merged [] prs, KV.merge rel .nil, hd'⟩), rfl, q _ (I.hok.fresh (Nat.le_refl _))⟩
/-- sorted(d), the keys whole numbers -/
theorem cr_sortK (hcm : X.calm = true) : CallR X (.builtin "sorted") (fun xs H Q => ∃ (a : Addr) (kvs : List (Key × V)) (ns : List Int), xs = [.ref a] ∧ H a = some (.dK kvs) ∧ kvs.map (·.1) = ns.map Sum.inl ∧
    ∀ (ns' : List Int) (p : Addr), ns'.Perm ns → ns'.Pairwise (· ≤ ·) → H p = none → Q (.ref p) (upd H p (.lst (ns'.map V.int)))) := by
  intro pins s σ H xs us Q I r h
  obtain ⟨a, kvs, ns, rfl, ha, hk, q⟩ := h
  obtain ⟨u, rfl, ru⟩ := r.one
  cases ru
  obtain ⟨z, lo, vs, rk, hd⟩ := (show ObjOk X.prog X.w H s.heap a (.dK kvs) from I.hok a _ ha)
  obtain ⟨ep, hat⟩ := hd.dictAt
  have hl : kvs.length = vs.length := Paired.length rk
  have l3 : kvs.length = ns.length := by
    have := congrArg List.length hk
    rwa [List.length_map, List.length_map] at this
  refine Calls.call_function_entry PyProof.Rows.kind_sorted PyProof.Rows.plain_sorted PyProof.Rows.entry_sorted (PyProof.Rows.args_sorted1 _) ?_
  unfold Builtin.«sorted»
  refine wpAny_bind (m := checkCount "sorted" 1 1 _) (wpAny_pure ?_)
  refine wpAny_bind (PySem.W.kdu_collect (A := X.A.in1) (PySem.W.kdl_dict (knd := mixKind X.prog X.w) (kvs := vs) (ep := ep) lo) (I.ok.hd hcm) hat (by rw [← hl]; exact z) fun h' tk acc hkp hacc => ?_)
  have hal : acc.toList.length = ns.length := by rw [Array.length_toList, hacc.1, ← hl, l3]
  have I1 : Inv X pins σ H { s with heap := h', toks := tk } := I.kept hkp
  have rv : Vals (ns.map V.int) acc.toList := by
    refine vals_of_at (by rw [List.length_map, hal]) fun j x w h1 h2 => ?_
    obtain ⟨k, y, hky, hi⟩ := hacc.2 j w (by rw [← Array.getElem?_toList]; exact h2)
    have e1 : (kvs.map (·.1))[j]? = some k := by
      rw [KV.keys rk, List.getElem?_map, hky] <;> rfl
    rw [hk, List.getElem?_map] at e1
    obtain ⟨m, e2, e3⟩ := Option.map_eq_some_iff.mp e1
    rw [List.getElem?_map, e2] at h1
    cases h1
    rw [← e3] at hi
    exact keyIs_rel (k := .inl m) hi
  have hI := rv.ints
  have hz : acc.toList.length ≤ sizeLine := by rw [hal, ← l3]; exact z
  refine wpAny_bind (wpAny_newList ?_ hz)
  have hoL : (h'.push (seqObj "list" acc.toList.toArray 0)).get? h'.objs.size = some (seqObj "list" acc.toList.toArray 0) := Heap.get?_push_size _ rfl
  show wpAny _ _ _ _ _ { s with heap := h'.push (seqObj "list" acc.toList.toArray 0), toks := tk }
  refine wpAny_bind (wpAny_holding (wpAny_call_entry PyProof.Rows.slot_list_sort ⟨_, hoL, rfl⟩ PyProof.Rows.entry_list_sort
    (PyProof.Rows.list_sort_treeAny (s := { s with heap := h'.push (seqObj "list" acc.toList.toArray 0), toks := tk }) hoL hI hz fun out ns' h1 h2 h3 => ⟨_, rfl, ?_⟩) (PyProof.Rows.args_list_sort _)))
  obtain ⟨e', he'⟩ := PyProof.Rows.sortedHeap_at (vs := acc.toList) (out := out) hoL
  have hlen : (ns'.map V.int).length ≤ sizeLine := by rw [List.length_map, h2.length_eq, ← l3]; exact z
  refine wpAny_pure ⟨_, rfl, .ref h'.objs.size, upd H h'.objs.size (.lst (ns'.map V.int)), I1.laid (t' := tk) (fun b u e => ?_) (Nat.le_refl _)
    (show ObjOk X.prog X.w _ _ _ (.lst (ns'.map V.int)) from ⟨hlen, _, e', vals_of_ints h1, he'⟩), rfl, q ns' _ h2 h3 (I1.hok.fresh (Nat.le_refl _))⟩
  have hb2 : b < h'.objs.size := Heap.lt_size e
  rw [PyProof.Rows.sortedHeap_old (Nat.ne_of_lt hb2) (by rw [PyProof.Rows.size_push']; exact Nat.lt_succ_of_lt hb2)]
  exact Heap.get?_push_of_some _ e
end
namespace DL
/-! ### tuple(..) as a cell -/
structure CallT (X : Cx) (f : Value) (o : Sto → List D → Option (List D)) : Prop where
  ex : ∃ rr : List V → Hp → VK → Prop, CallR X f rr ∧ ∀ r t S H ds vs es (Q : VK), SOk X.K X.mg H r t S → DenL X.K H r t vs ds → o S ds = some es →
    (∀ p ob xs, H p = none → ob.dict = none → DenL X.K H r t xs es → Q (.ref p) (upd H p (.frz ob (.tup xs)))) → rr vs H Q
def dCallT (o : Sto → List D → Option (List D)) (fs : DA) : DE := fun env S => (fs env S).bind fun ds S1 => match o S1 ds with
  | some es => .ok (.ref S1.length) (S1 ++ [.tC es])
  | none => .bad
section
variable {X : Cx} {W : WX} {e : Expr} {es : List Expr} {fs : DA} {pos : Pos}
theorem de_callTyT {T : String} {x : Str} {p : Pos} {o : Sto → List D → Option (List D)} (hc : CallT X (.type T) o) (hg : Gl X x) (hm : X.mg x = none) (hv : bootBuiltins x = some (.type T)) (ha : PA X (e :: es) (tA X W fs)) (hn : x ≠ "__name__" := by decide) (hdb : (x == ("__debug__" : Str)) = false := by decide)
    (he : starEach (e :: es) X.env = (false, eval e X.env) :: starEach es X.env := by rfl) (hpl : (backTo pos (starEach es X.env)).any (·.1) = false := by rfl) : PE X (.Call (.Name x p) (e :: es) [] pos) (tE X W (dCallT o fs)) := by
  obtain ⟨rr, h, k⟩ := hc
  refine PE.imp (pe_callTy h hg hm hv ha hn hdb he hpl) fun σ H Q q => ?_
  obtain ⟨r, t, S, env, rel, g⟩ := q
  refine ⟨r, t, S, env, rel, g.bind.mono fun ds S1 r1 H1 ex so g1 vs dvs => ?_⟩
  split at g1
  · rename_i es1 e1
    refine k r1 t S1 H1 ds vs es1 Q so dvs e1 fun p ob xs hp hd z => ?_
    obtain ⟨so2, d⟩ := growC (o := .frz ob (.tup xs)) (c := .tC es1) so hp ⟨ob, xs, upd_same, hd, DenL.ext (Ext.grow hp) _ _ z⟩
    exact g1 _ _ (Ext.grow hp) so2 _ d
  · exact (show False from g1).elim
def oListT1 : Sto → List D → Option (List D) := fun S ds => match ds with
  | [d] => listOf S d
  | _ => none
theorem ct_tuple : CallT X (.type "tuple") oListT1 := by
  refine ⟨_, call_tuple_bare, fun r t S H ds vs es Q so dv e q => ?_⟩
  unfold oListT1 at e
  split at e
  · cases dv with
    | cons d1 d2 =>
      cases d2
      obtain ⟨a, xs, ev, hs, z⟩ := list_ok so d1 e
      exact ⟨a, xs, by rw [ev], hs, fun l o hl ho => q l o xs hl ho z⟩
  · cases e
section
variable {env : Ev} {S : Sto} {P : D → Sto → Prop} {fs : DA} {ds : List D}
def kNewT (P : D → Sto → Prop) (ds : List D) (S : Sto) : Prop := P (.ref S.length) (S ++ [.tC ds])
def kCallT (o : Sto → List D → Option (List D)) (P : D → Sto → Prop) (ds : List D) (S : Sto) : Prop := Wp (lift (o S ds) S) (kNewT P)
theorem w_CallT {o} : Wp (dCallT o fs env S) P = Wp (fs env S) (kCallT o P) := by
  unfold dCallT
  rw [wp_bind]
  congr 1
  funext ds S1
  unfold kCallT
  cases o S1 ds with
  | none => exact propext ⟨fun h => h.get.choose_spec.choose_spec.1 |> (fun e => by cases e), fun h => h.get.choose_spec.choose_spec.1 |> (fun e => by cases e)⟩
  | some es => first | rfl | (show Wp (Out.ok _ _) _ = Wp (Out.ok _ _) _; rw [wp_ok, wp_ok]; rfl)
theorem k_CallT {o} : kCallT o P ds S = Wp (lift (o S ds) S) (kNewT P) := by first | rfl | exact wp_ok _ _ _
theorem k_NewT : kNewT P ds S = P (.ref S.length) (S ++ [.tC ds]) := by first | rfl | exact wp_ok _ _ _
end
/-! ### dict(x) of such a cell -/
def pairsD : List D → Option (List (Key × D))
  | [] => some []
  | d :: ds => match d, pairsD ds with
    | .tup [k, v], some kvs => (keyD k).map fun q => (q, v) :: kvs
    | _, _ => none
def mergeD (kvs more : List (Key × D)) : List (Key × D) := more.foldl (fun acc kv => putD acc kv.1 kv.2) kvs
theorem DenP.merge {K : PySem.W.Frag} {H : Hp} {r t : List Addr} : ∀ {ps : List (Key × V)} {ds : List (Key × D)} {ps0 : List (Key × V)} {ds0 : List (Key × D)}, DenP K H r t ps ds → DenP K H r t ps0 ds0 → DenP K H r t (mergeK ps0 ps) (mergeD ds0 ds)
  | [], ds, _, _, h, h0 => by rw [h.nilD]; exact h0
  | p :: ps, ds, _, _, h, h0 => by
    obtain ⟨d, es, e, hd, hp⟩ := h.split
    subst e
    exact DenP.merge (ps := ps) (ds := es) hp (h0.put p.1 hd)
theorem pairsD_ok {K : PySem.W.Frag} {H : Hp} {r t : List Addr} : ∀ {ds : List D} {vs : List V} {kvs : List (Key × D)}, DenL K H r t vs ds → pairsD ds = some kvs →
    ∃ (ps : List Addr) (vkv : List (Key × V)), vs = ps.map V.ref ∧ Paired (fun p kv => SqT K H p [kV kv.1, kv.2]) ps vkv ∧ DenP K H r t vkv kvs
  | [], _, _, .nil, h => by cases h; exact ⟨[], [], rfl, .nil, .nil0⟩
  | d :: ds, _, _, .cons h1 h2, h => by
    unfold pairsD at h
    split at h
    · rename_i k v kvs e1
      obtain ⟨q, hq, e⟩ := Option.map_eq_some_iff.mp h
      subst e
      obtain ⟨ps, vkv, e2, pp, dp⟩ := pairsD_ok h2 e1
      cases h1 with
      | @tup a xs _ ha z =>
        cases z with
        | cons z1 z2 =>
          cases z2 with
          | cons z2 z3 =>
            cases z3
            rw [keyD_ok z1 hq] at ha
            exact ⟨a :: ps, (q, _) :: vkv, by rw [e2]; rfl, .cons (sqT_of ha) pp, .cons0 z2 dp⟩
    · cases h
def oPairs : Sto → List D → Option (List (Key × D)) := fun S ds => match ds with
  | [.ref n] => match S[n]? with
    | some (.tC es) => pairsD es
    | _ => none
  | _ => none
def dDictC (fs : DA) : DE := fun env S => (fs env S).bind fun ds S1 => match oPairs S1 ds with
  | some kvs => .ok (.ref S1.length) (S1 ++ [.dK (mergeD [] kvs)])
  | none => .bad
theorem de_dictC (hcm : X.calm = true) {x : Str} {p : Pos} (hg : Gl X x) (hm : X.mg x = none) (hv : bootBuiltins x = some (.type "dict")) (ha : PA X (e :: es) (tA X W fs)) (hn : x ≠ "__name__" := by decide) (hdb : (x == ("__debug__" : Str)) = false := by decide)
    (he : starEach (e :: es) X.env = (false, eval e X.env) :: starEach es X.env := by rfl) (hpl : (backTo pos (starEach es X.env)).any (·.1) = false := by rfl) : PE X (.Call (.Name x p) (e :: es) [] pos) (tE X W (dDictC fs)) := by
  refine PE.imp (pe_callTy (call_dict_bare hcm) hg hm hv ha hn hdb he hpl) fun σ H Q q => ?_
  obtain ⟨r, t, S, env, rel, g⟩ := q
  refine ⟨r, t, S, env, rel, g.bind.mono fun ds S1 r1 H1 ex so g1 vs dvs => ?_⟩
  split at g1
  · rename_i kvs e1
    unfold oPairs at e1
    split at e1
    · rename_i n
      split at e1
      · rename_i es1 hS
        cases dvs with
        | cons d1 d2 =>
          cases d2
          cases d1 with
          | @ref a _ hn =>
            obtain ⟨ob, xs, ha1, hd1, z⟩ := so.ok n a _ hn hS
            obtain ⟨ps, vkv, e2, pp, dp⟩ := pairsD_ok z e1
            subst e2
            refine ⟨a, ob, ps, vkv, rfl, ha1, hd1, pp, fun p hp => ?_⟩
            obtain ⟨so2, d⟩ := growC (o := .dK (mergeK [] vkv)) (c := .dK (mergeD [] kvs)) so hp ⟨_, upd_same, DenP.ext (Ext.grow hp) (DenP.merge dp .nil0)⟩
            exact g1 _ _ (Ext.grow hp) so2 _ d
      · cases e1
    · cases e1
  · exact (show False from g1).elim
end
section
variable {env : Ev} {S : Sto} {P : D → Sto → Prop} {fs : DA} {ds : List D}
def kDictC (P : D → Sto → Prop) (ds : List D) (S : Sto) : Prop := ∃ kvs, oPairs S ds = some kvs ∧ P (.ref S.length) (S ++ [.dK (mergeD [] kvs)])
theorem w_DictC (h : Wp (fs env S) (kDictC P)) : Wp (dDictC fs env S) P := by
  unfold dDictC
  rw [wp_bind]
  refine h.mono fun ds S1 q => ?_
  obtain ⟨kvs, e, p⟩ := q
  rw [e]
  exact Wp.of rfl p
end
/-! ### for x in such a cell -/
open Classical in
noncomputable def keepT {A : Type} (n : Nat) (ds : List D) (S : Sto) (m : Out A) : Out A := if S[n]? = some (.tC ds) then m else .bad
noncomputable def forGoT (n : Nat) (ds0 : List D) (g : DG) (b : DS) : List D → Ev → Sto → Out (Fl × Ev)
  | [], env, S => keepT n ds0 S (.ok (.nx, env) S)
  | d :: ds, env, S => keepT n ds0 S (match g env d with
    | none => .bad
    | some env' => (b env' S).bind fun p S1 => match p.1 with
      | .nx => forGoT n ds0 g b ds p.2 S1
      | .ct => forGoT n ds0 g b ds p.2 S1
      | .bk => .ok (.nx, p.2) S1
      | .rt v => .ok (.rt v, p.2) S1)
noncomputable def sForT (f : DE) (g : DG) (b : DS) : DS := fun env S => (f env S).bind fun d S1 => match d with
  | .ref n => match S1[n]? with
    | some (.tC ds) => forGoT n ds g b ds env S1
    | _ => .bad
  | _ => .bad
section
variable {X : Cx} {E : XK} {f : DS} {fe : DE} {pos : Pos}
theorem Good.keepT {A : Type} {K : PySem.W.Frag} {mg : Str → Option Value} {t : List Addr} {Ex : Addr → Hp → Prop} {r : List Addr} {H : Hp} {n : Nat} {ds : List D} {S : Sto} {m : Out A} {R : A → Sto → List Addr → Hp → Prop}
    (g : Good K mg t Ex r H (DL.keepT n ds S m) R) : S[n]? = some (.tC ds) ∧ Good K mg t Ex r H m R := by
  unfold DL.keepT at g
  by_cases h : S[n]? = some (.tC ds)
  · rw [if_pos h] at g; exact ⟨h, g⟩
  · rw [if_neg h] at g; exact (show False from g).elim
theorem ds_forT {tg iter : Expr} {body : List Stmt} {gg : DG} {own : List Nat} (hp : PassesOwn (model X.prog X.w) X.A X.env X.xe) (hc : X.calm = true) (he : PE X iter (tE X (WC E) fe)) (hg : PG X tg (tG X.K X.mg own gg)) (hb : PSs X body (tS X E f))
    (hs : ∀ x, foldedSetIterable iter X.env x = pure x := by intro _; rfl) : PS X (.For tg iter body [] pos) (tS X E (sForT fe gg f)) := by
  refine PS.imp (ps_for hp hc (pi_tup he) hg hb hs) fun D σ H q => ?_
  obtain ⟨r, t, S, env, rel, g0⟩ := q
  refine ⟨r, t, S, env, rel, g0.bind.mono fun d S1 r1 H1 ex so g1 v dv => ?_⟩
  split at g1
  · rename_i n
    split at g1
    · rename_i ds hS1
      cases dv with
      | @ref a _ hn =>
      obtain ⟨ob, xs, ha, _, z⟩ := so.ok n a _ hn hS1
      refine ⟨a, rfl, ⟨xs, .inl (.inr ⟨ob, ha⟩)⟩, fun i m σ2 H2 => m = ds.length - i ∧ i ≤ ds.length ∧ ∃ r2 S2 env2, r2[n]? = some a ∧ Rel X.K X.mg H2 r2 t S2 env2 σ2 ∧ Good X.K X.mg t (EC E) r2 H2 (forGoT n ds gg f (ds.drop i) env2 S2) (RS X D t), ⟨ds.length, by simp, Nat.zero_le _, r1, S1, env, hn, rel.ext ex so, g1⟩, ?_⟩
      rintro i m σ2 H2 ⟨rfl, hi, r2, S2, env2, hn2, rel2, g2⟩
      by_cases hlt : i < ds.length
      · rw [List.drop_eq_getElem_cons hlt] at g2
        unfold forGoT at g2
        obtain ⟨hS2, g2⟩ := g2.keepT
        obtain ⟨ob2, ys, hys, _, z2⟩ := rel2.so.ok n a _ hn2 hS2
        obtain ⟨u, hu, du⟩ := z2.get (List.getElem?_eq_getElem hlt)
        cases hE : gg env2 ds[i] with
        | none => rw [hE] at g2; exact (show False from g2).elim
        | some env' =>
          rw [hE] at g2
          dsimp only at g2
          refine .inr ⟨⟨ys, u, .inl (.inr ⟨ob2, hys⟩), hu⟩, fun σ3 H3 => ∃ m', m' < ds.length - i ∧ m' = ds.length - (i + 1) ∧ i + 1 ≤ ds.length ∧ ∃ r2 S2 env2, r2[n]? = some a ∧ Rel X.K X.mg H3 r2 t S2 env2 σ3 ∧ Good X.K X.mg t (EC E) r2 H3 (forGoT n ds gg f (ds.drop (i + 1)) env2 S2) (RS X D t), fun σ' H' h => h, fun x H' y => ?_⟩
          obtain ⟨eH, hx⟩ := y
          subst eH
          have ex1 := Option.some.inj ((hx ys (.inl (.inr ⟨ob2, hys⟩))).symm.trans hu)
          subst ex1
          refine ⟨r2, t, S2, env2, ds[i], rel2, du, env', hE, fun σ3 rel3 _ => ?_⟩
          refine ⟨r2, t, S2, env', rel3, g2.bind.mono fun p S4 r4 H4 ex4 so4 g4 σ4 rel4 => ?_⟩
          obtain ⟨fl, env4⟩ := p
          cases fl with
          | nx => exact ⟨ds.length - (i + 1), by omega, rfl, hlt, r4, S4, env4, ex4.get hn2, rel4, g4⟩
          | ct => exact ⟨ds.length - (i + 1), by omega, rfl, hlt, r4, S4, env4, ex4.get hn2, rel4, g4⟩
          | bk => exact Good.here g4 so4 σ4 rel4
          | rt d => exact Good.here g4 so4 σ4 rel4
      · have e : i = ds.length := by omega
        subst e
        rw [List.drop_length] at g2
        unfold forGoT at g2
        obtain ⟨hS2, g2⟩ := g2.keepT
        obtain ⟨ob2, ys, hys, _, z2⟩ := rel2.so.ok n a _ hn2 hS2
        exact .inl ⟨⟨ys, .inl (.inr ⟨ob2, hys⟩), by rw [z2.length]; exact Nat.le_refl _⟩, Good.here g2 rel2.so σ2 rel2⟩
    · exact (show False from g1).elim
  · exact (show False from g1).elim
end
theorem forGoT_all {n : Nat} {ds0 : List D} {g : DG} {b : DS} {P : Fl × Ev → Sto → Prop} (I : List D → Ev → Sto → Prop) : ∀ (ds : List D) (env : Ev) (S : Sto), I ds env S →
    (∀ ds env S, I ds env S → S[n]? = some (.tC ds0)) →
    (∀ d rest env S, I (d :: rest) env S → ∃ env1, g env d = some env1 ∧ Wp (b env1 S) fun p S' => match p.1 with | .nx => I rest p.2 S' | .ct => I rest p.2 S' | .bk => P (.nx, p.2) S' | .rt v => P (.rt v, p.2) S') →
    (∀ env S, I [] env S → P (.nx, env) S) → Wp (forGoT n ds0 g b ds env S) P
  | [], env, S, h, hk, _, hf => by
    unfold forGoT keepT
    rw [if_pos (hk _ _ _ h)]
    exact Wp.of rfl (hf env S h)
  | d :: ds, env, S, h, hk, hs, hf => by
    obtain ⟨env1, e1, w⟩ := hs d ds env S h
    unfold forGoT keepT
    rw [if_pos (hk _ _ _ h), e1]
    dsimp only
    rw [wp_bind]
    refine w.mono fun p S' q => ?_
    obtain ⟨fl, env2⟩ := p
    cases fl with
    | nx => exact forGoT_all I ds env2 S' q hk hs hf
    | ct => exact forGoT_all I ds env2 S' q hk hs hf
    | bk => exact Wp.of rfl q
    | rt v => exact Wp.of rfl q
def kForT (g : DG) (b : DS) (env : Ev) (P : Fl × Ev → Sto → Prop) (d : D) (S : Sto) : Prop := ∃ n ds, d = .ref n ∧ S[n]? = some (.tC ds) ∧ Wp (forGoT n ds g b ds env S) P
theorem w_ForT {f : DE} {g : DG} {b : DS} {env : Ev} {S : Sto} {P : Fl × Ev → Sto → Prop} (h : Wp (f env S) (kForT g b env P)) : Wp (sForT f g b env S) P := by
  unfold sForT
  rw [wp_bind]
  refine h.mono fun d S1 q => ?_
  obtain ⟨n, ds, e, hn, w⟩ := q
  subst e
  dsimp only
  rw [hn]
  exact w
/-! ### what an expression gives is taken with its tuple cells -/
open Classical in
noncomputable def unT : List Addr → Hp → Hp
  | [], H => H
  | a :: l, H => unT l (if h : ∃ o xs, H a = some (.frz o (.tup xs)) then upd H a (.tup h.choose_spec.choose) else H)
theorem unT_step {H : Hp} {a : Addr} {o : Obj} {xs : List V} (e : H a = some (.frz o (.tup xs))) (h : ∃ o xs, H a = some (.frz o (.tup xs))) : h.choose_spec.choose = xs := by
  have q := e.symm.trans h.choose_spec.choose_spec
  injection q with q
  injection q with _ q
  injection q with q
  exact q.symm
theorem unT_no {b : Addr} : ∀ (l : List Addr) {H : Hp}, (∀ o xs, H b ≠ some (.frz o (.tup xs))) → unT l H b = H b
  | [], _, _ => rfl
  | a :: l, H, hb => by
    unfold unT
    split
    · rename_i h
      have ne : b ≠ a := fun e => by
        obtain ⟨o, xs, q⟩ := h
        rw [e] at hb
        exact hb o xs q
      rw [unT_no l (fun o xs q => by rw [upd_ne ne] at q; exact hb o xs q), upd_ne ne]
    · exact unT_no l hb
theorem unT_off {b : Addr} : ∀ (l : List Addr) {H : Hp}, b ∉ l → unT l H b = H b
  | [], _, _ => rfl
  | a :: l, H, hb => by
    have ne : b ≠ a := fun e => hb (by rw [e]; exact List.mem_cons_self)
    unfold unT
    rw [unT_off l fun z => hb (List.mem_cons_of_mem _ z)]
    split
    · rw [upd_ne ne]
    · rfl
theorem unT_on {b : Addr} {o : Obj} {xs : List V} : ∀ (l : List Addr) {H : Hp}, b ∈ l → H b = some (.frz o (.tup xs)) → unT l H b = some (.tup xs)
  | a :: l, H, hb, e => by
    unfold unT
    by_cases c : b = a
    · subst c
      have hx : ∃ o xs, H b = some (.frz o (.tup xs)) := ⟨o, xs, e⟩
      rw [dif_pos hx, unT_step e hx]
      rw [unT_no l (fun o' xs' q => by rw [upd_same] at q; cases q), upd_same]
    · have hb' : b ∈ l := by
        rcases List.mem_cons.mp hb with q | q
        · exact absurd q c
        · exact q
      split
      · exact unT_on l hb' (by rw [upd_ne c]; exact e)
      · exact unT_on l hb' e
theorem Ext.unT {r : List Addr} : ∀ (l : List Addr) {H : Hp}, (∀ a ∈ l, a ∈ r) → Ext r H r (DL.unT l H)
  | [], H, _ => Ext.refl r H
  | a :: l, H, h => by
    unfold DL.unT
    split
    · rename_i hx
      have q := hx.choose_spec.choose_spec
      refine Ext.trans (r1 := r) (H1 := upd H a (.tup hx.choose_spec.choose)) ?_ (Ext.unT l fun b hb => h b (List.mem_cons_of_mem _ hb))
      have ne : ∀ b u, H b = some u → (∀ o xs, u ≠ .frz o (.tup xs)) → b ≠ a := fun b u e hn z => by
        rw [z] at e
        have e := q.symm.trans e
        injection e with e
        exact hn _ _ e.symm
      refine ⟨⟨[], by simp⟩, fun b u e hb => ?_, fun b u e => ?_, fun b o u m e => ?_, fun b o xs e => ?_, fun b x e => ?_, fun b e => ?_⟩
      · rw [upd_ne (fun z => hb (by rw [z]; exact h a List.mem_cons_self))]; exact e
      · rw [upd_ne (ne b _ e (fun _ _ z => nomatch z))]; exact e
      · rw [upd_ne (ne b _ e (fun o' xs z => by cases z; exact m))]; exact e
      · by_cases c : b = a
        · subst c
          have e := q.symm.trans e
          injection e with e
          injection e with _ e
          injection e with e
          refine .inr ?_
          rw [upd_same, e]
        · rw [upd_ne c]; exact .inl e
      · rw [upd_ne (ne b _ e (fun _ _ z => nomatch z))]; exact e
      · by_cases c : b = a
        · subst c; rw [upd_same]; exact fun z => nomatch z
        · rw [upd_ne c]; exact e
    · exact Ext.unT l fun b hb => h b (List.mem_cons_of_mem _ hb)
theorem Inv.unT {X : Cx} {pins : List (Addr × Obj)} {σ : St} {s : Shared} : ∀ (l : List Addr) {H : Hp}, Inv X pins σ H s → (∀ a ∈ l, ∀ o' u', X.H_0 a ≠ some (.frz o' u')) → Inv X pins σ (DL.unT l H) s
  | [], _, I, _ => I
  | a :: l, H, I, h => by
    unfold DL.unT
    split
    · rename_i hx
      exact Inv.unT l (I.unlock hx.choose_spec.choose_spec (h a List.mem_cons_self)) fun b hb => h b (List.mem_cons_of_mem _ hb)
    · exact Inv.unT l I fun b hb => h b (List.mem_cons_of_mem _ hb)
theorem pe_unT {X : Cx} {e : Expr} {td : TE} (he : PE X e td) : PE X e (fun σ H Q => td σ H fun x H1 => ∃ l : List Addr, (∀ a ∈ l, H a = none) ∧ Q x (unT l H1)) := by
  refine ⟨fun pins s σ H Q I h => thn (he.run pins s σ H _ I h) ?_⟩
  rintro u s1 ⟨x, H1, I1, rx, l, hl, q⟩
  exact ⟨x, _, Inv.unT l I1 (fun a ha o' u' e0 => by have := I.base.frzs a o' u' e0; rw [hl a ha] at this; cases this), rx, q⟩
def rsvU (k : Nat) (S : Sto) : Nat → Nat → Option D
  | 0, n => if n < k then some (.ref n) else none
  | f + 1, n => if n < k then some (.ref n) else match S[n]? with
    | some (.lst ds) => (mapL (rsvU k S f) ds).map .lst
    | some (.tC ds) => (mapL (rsvU k S f) ds).map .tup
    | _ => none
section
variable {K : PySem.W.Frag} {mg : Str → Option Value} {H : Hp} {r t nw : List Addr}
theorem rsvU_ok {S : Sto} (so : SOk K mg H (r ++ nw) t S) (ex : Ext (r ++ nw) H (r ++ nw) (unT nw H)) : ∀ (f n : Nat) (a : Addr) (d : D), (r ++ nw)[n]? = some a → rsvU r.length S f n = some d → Den K (unT nw H) r t (.ref a) d
  | 0, n, a, d, h, q => by
    unfold rsvU at q
    split at q
    · rename_i hn
      cases q
      rw [List.getElem?_append_left hn] at h
      exact .ref h
    · cases q
  | f + 1, n, a, d, h, q => by
    have notr : ¬ n < r.length → a ∉ r := fun hn z => by
      obtain ⟨i, hi, e⟩ := List.getElem_of_mem z
      have e2 : (r ++ nw)[i]? = some a := by rw [List.getElem?_append_left hi, List.getElem?_eq_getElem hi, e]
      have := nodup_get so.nd e2 h
      omega
    unfold rsvU at q
    split at q
    · rename_i hn
      cases q
      rw [List.getElem?_append_left hn] at h
      exact .ref h
    · rename_i hn
      split at q
      · rename_i ds hds
        obtain ⟨es, q1, q2⟩ := Option.map_eq_some_iff.mp q
        subst q2
        obtain ⟨xs, h1, z⟩ := so.ok n a _ h hds
        exact .lst ((unT_no nw fun o xs e => by rw [h1] at e; cases e).trans h1) (notr hn) (fun z => (so.hid a z).2 (List.mem_of_getElem? h)) (mapL_ok (rsvU_ok so ex f) ds es xs (DenL.ext ex _ _ z) q1)
      · rename_i ds hds
        obtain ⟨es, q1, q2⟩ := Option.map_eq_some_iff.mp q
        subst q2
        obtain ⟨ob, xs, h1, _, z⟩ := so.ok n a _ h hds
        have hm : a ∈ nw := by
          rcases List.mem_append.mp (List.mem_of_getElem? h) with q | q
          · exact absurd q (notr hn)
          · exact q
        exact .tup (unT_on nw hm h1) (mapL_ok (rsvU_ok so ex f) ds es xs (DenL.ext ex _ _ z) q1)
      · cases q
end
open Classical in
noncomputable def dUnl (f : DE) : DE := fun env S => match f env S with
  | .ok d S1 => if ∀ j c, j < S.length → S1[j]? = some c → S[j]? = some c ∨ ltC S.length c = true then match mapD (rsvU S.length S1 64) d with
      | some e => .ok e (S1.take S.length)
      | none => .bad
    else .bad
  | .exc c S1 => .exc c S1
  | .bad => .bad
theorem de_unl {X : Cx} {W : WX} {e : Expr} {f : DE} (he : PE X e (tE X W f)) : PE X e (tE X W (dUnl f)) := by
  refine PE.imp (pe_unT he) fun σ H Q q => ?_
  obtain ⟨r, t, S, env, rel, g⟩ := q
  refine ⟨r, t, S, env, rel, ?_⟩
  unfold dUnl at g
  cases hf : f env S with
  | bad => rw [hf] at g; exact (show False from g).elim
  | exc c S1 =>
    rw [hf] at g
    exact g
  | ok d S1 =>
    rw [hf] at g
    dsimp only at g
    intro H1 r1 ex so1 v dv
    by_cases hc : ∀ j c, j < S.length → S1[j]? = some c → S[j]? = some c ∨ ltC S.length c = true
    · rw [if_pos hc] at g
      split at g
      · rename_i e1 he1
        obtain ⟨nw, er, hn⟩ := ex.pre
        subst er
        have exU : Ext (r ++ nw) H1 (r ++ nw) (unT nw H1) := Ext.unT nw fun a ha => List.mem_append_right _ ha
        have exF := ex.trans exU
        have exR : Ext r H r (unT nw H1) := ⟨⟨[], by simp⟩, exF.keep, exF.tups, exF.frzs, exF.frzt, exF.owns, exF.there⟩
        have hl : (r ++ nw).length = S1.length := so1.len
        rw [List.length_append] at hl
        have hrl := rel.so.len
        have soR : SOk X.K X.mg (unT nw H1) r t (S1.take S.length) := by
          refine ⟨by rw [List.length_take]; omega, (List.nodup_append.mp so1.nd).1, fun n a c h1 h2 => ?_, fun a ha => ⟨exU.there a (so1.hid a ha).1, fun z => (so1.hid a ha).2 (List.mem_append_left _ z)⟩⟩
          have hn1 := (List.getElem?_eq_some_iff.mp h1).1
          rw [List.getElem?_take, if_pos (by omega)] at h2
          have hna : a ∉ nw := fun z => (List.nodup_append.mp so1.nd).2.2 a (List.mem_of_getElem? h1) a z rfl
          have ok := (so1.ok n a c (by rw [List.getElem?_append_left hn1]; exact h1) h2).at so1 exU (unT_off nw hna)
          refine ok.back ?_
          rcases hc n c (by omega) h2 with q | q
          · exact (rel.so.ok n a c h1 q).lt
          · rw [hrl]; exact q
        refine ⟨nw, hn, g _ r exR soR v (mapD_ok (nw := nw) (rsvU_ok so1 exU 64) d e1 v (Den.ext exU d v dv) ?_)⟩
        rw [hrl]
        exact he1
      · exact (show False from g).elim
    · rw [if_neg hc] at g; exact (show False from g).elim
theorem w_Unl {f : DE} {env : Ev} {S : Sto} {P : D → Sto → Prop} (h : Wp (f env S) fun d S1 => (∀ j c, j < S.length → S1[j]? = some c → S[j]? = some c ∨ ltC S.length c = true) ∧ ∃ e, mapD (rsvU S.length S1 64) d = some e ∧ P e (S1.take S.length)) : Wp (dUnl f env S) P := by
  obtain ⟨d, S1, e, hc, e2, h2, p⟩ := h.get
  unfold dUnl
  rw [e]
  dsimp only
  rw [if_pos hc, h2]
  exact Wp.of rfl p
/-! ### sorted(d), the keys numbers -/
def keysN1 : List Key → Option (List Int)
  | [] => some []
  | .inl i :: r => (keysN1 r).map (i :: ·)
  | _ => none
theorem keysN1_eq : ∀ {k : List Key} {n : List Int}, keysN1 k = some n → k = n.map Sum.inl
  | [], _, h => by cases h; rfl
  | .inl i :: r, n, h => by
    obtain ⟨l, h1, h2⟩ := Option.map_eq_some_iff.mp (show (keysN1 r).map (i :: ·) = some n from h)
    subst h2
    rw [keysN1_eq h1]
    rfl
  | .inr _ :: _, _, h => by cases h
theorem keysN1_map : ∀ n : List Int, keysN1 (n.map Sum.inl) = some n
  | [] => rfl
  | i :: n => by
    show (keysN1 (n.map Sum.inl)).map (i :: ·) = _
    rw [keysN1_map n]
    rfl
def oSortK : Sto → List D → Option D := fun S ds => match ds with
  | [.ref n] => match S[n]? with
    | some (.dK kvs) => (keysN1 (kvs.map (·.1))).map fun ns => .lst ((sortI ns).map D.int)
    | _ => none
  | _ => none
theorem cd_sortK {X : Cx} (hcm : X.calm = true) : CallD X (.builtin "sorted") oSortK := by
  refine ⟨_, cr_sortK hcm, fun r t S H ds vs d Q so dv e q => ?_⟩
  unfold oSortK at e
  split at e
  · rename_i n
    split at e
    · rename_i kvs hS
      obtain ⟨ns, e1, e2⟩ := Option.map_eq_some_iff.mp e
      subst e2
      cases dv with
      | cons d1 d2 =>
        cases d2
        cases d1 with
        | @ref a _ hn =>
          obtain ⟨ps, hp, z⟩ := so.ok n a _ hn hS
          refine ⟨a, ps, ns, rfl, hp, by rw [z.1, keysN1_eq e1], fun ns' p h1 h2 hp0 => ?_⟩
          rw [sortI_only h1 h2]
          exact newL so hp0 (denL_ints _) q
    · cases e
  · cases e
end DL
end L2
/-! ### xs != [] of any list -/
namespace L2
open PySem PySem.Spec PySem.Calls PyProof.Rows PyProof.V PySem.SeqAt
open AutoSeq1 (wpAny_loadPart')
open MeetsSeq MeetsSeq2 MeetsSeq3 SeqRoads2
section
variable {prog : Program} {w : World}
theorem uneq_len (la lb : Addr) (xs ys : Array Value) (nx ny : Nat) (ax ay : Option Addr) (zx zy : Array (Option Value)) (hz : xs.size ≠ ys.size) :
    MeetsIn prog w (Builtin.«list.__ne__» ⟨[.ref la, .ref lb], []⟩)
      (fun A R s => s.heap.get? la = some { cls := .type "list", dict := ax, data := .seq xs nx, slots := zx } ∧ s.heap.get? lb = some { cls := .type "list", dict := ay, data := .seq ys ny, slots := zy } ∧
        R (.ok (.ret (.bool true))) s) := by
  intro A R s z
  obtain ⟨hp, g, d, tk, os⟩ := s
  obtain ⟨ga, gb, z⟩ := z
  have n0 := AutoSeq1.sub_list_list
  have n1 : (xs.size != ys.size) = true := by simp [hz]
  wp_walk using wpAny_loadPart' ga, wpAny_loadPart' gb
  exact z
theorem rcP_unlen {A : Around} {s : Shared} {la lb : Addr} {xs ys : Array Value} (ga : s.heap.IsList la xs) (gb : s.heap.IsList lb ys) (hz : xs.size ≠ ys.size) (hu : A.units < cLine)
    (E Q : Value → Shared → Prop) (z : Q (.bool true) s) : wpAny (model prog w) A (richCompare .NotEq (.ref la) (.ref lb)) Q E s := by
  obtain ⟨⟨c1, a1, t1, z1⟩, o1, q1, n1, e1⟩ := id ga
  obtain ⟨⟨c2, a2, t2, z2⟩, o2, q2, n2, e2⟩ := id gb
  simp only at q1 e1 q2 e2
  subst q1 e1 q2 e2
  have ta : s.TypeIs (.ref la) "list" := ⟨_, o1, rfl⟩
  have tb : s.TypeIs (.ref lb) "list" := ⟨_, o2, rfl⟩
  refine wpAny_richCompare_same_room (op := .NotEq) ta tb F.slot_list_ne (call_meetsIn F.slot_list_ne ta F.entry_list_ne (F.args_list_ne_2 _ _) (uneq_len la lb xs ys n1 n2 a1 a2 z1 z2 hz) ?_) hu
  exact ⟨o1, o2, show Value.bool true ≠ Value.notImplemented ∧ Q (.bool true) s from ⟨(fun x => nomatch x), z⟩⟩
end
namespace DL
def oNeE : Sto → D → D → Option D := fun S x y => match listOf S x, y with
  | some ds, .lst [] => some (.bl (!ds.isEmpty))
  | _, _ => none
theorem op_neE {X : Cx} {r t : List Addr} {pins : List (Addr × Obj)} {s : Shared} {σ : St} {H : Hp} (hu : X.A.units + 65 < cLine) (S : Sto) {v u : V} {x y : Value} {Q : VK} {dx dy d : D} (I : Inv X pins σ H s) (so : SOk X.K X.mg H r t S) (rx : RelV v x) (ry : RelV u y) (hx : Den X.K H r t v dx) (hy : Den X.K H r t u dy) (e : oNeE S dx dy = some d) (q : ∀ w, Den X.K H r t w d → Q w H) :
    wpAny (model X.prog X.w) X.A (compareOp .NotEq x y) (EP X pins σ Q) X.xe s := by
  unfold oNeE at e
  split at e
  · rename_i ds e1
    cases e
    obtain ⟨p, vs, rfl, h1, z1⟩ := list_ok so hx e1
    obtain ⟨p2, us, rfl, h2, z2⟩ := lst_ok (S := S) so hy rfl
    cases z2
    obtain rfl : x = Value.ref p := rx
    obtain rfl : y = Value.ref p2 := ry
    obtain ⟨xs, v1, ⟨o, n, ho, hc, _, hd⟩, _⟩ := I.list h1
    obtain ⟨ys, v2, ⟨o', n', ho', hc', _, hd'⟩, _⟩ := I.list (.inl (.inl h2))
    cases v2
    have hl : xs.length = ds.length := by rw [← v1.length, z1.length]
    cases ds with
    | nil =>
      have ex : xs = [] := List.length_eq_zero_iff.mp hl
      subst ex
      refine rcP_unlists (f := fun _ => true) ⟨o, ho, hc, n, hd⟩ ⟨o', ho', hc', n', hd'⟩ rfl (by omega) (fun j h1 h2 => absurd h1 (Nat.not_lt_zero _)) _ _ ?_
      exact ⟨.bl false, H, I, rfl, q _ (.bl _)⟩
    | cons d ds =>
      refine rcP_unlen ⟨o, ho, hc, n, hd⟩ ⟨o', ho', hc', n', hd'⟩ (by rw [List.size_toArray, hl]; exact Nat.succ_ne_zero _) (by omega) _ _ ?_
      exact ⟨.bl true, H, I, rfl, q _ (.bl _)⟩
  · cases e
def rrE (X : Cx) : R2 := fun x y H Q => ∃ r t S dx dy d, SOk X.K X.mg H r t S ∧ Den X.K H r t x dx ∧ Den X.K H r t y dy ∧ oNeE S dx dy = some d ∧ ∀ w, Den X.K H r t w d → Q w H
theorem od_neE {X : Cx} (hu : X.A.units + 65 < cLine) : OpD X (compareOp .NotEq) oNeE := by
  refine ⟨rrE X, fun pins s σ H x y v u Q I rx ry h => ?_, fun r t S H x y v u d Q so dx dy e q => ⟨r, t, S, x, y, d, so, dx, dy, e, fun w dw => q w H (Ext.refl _ _) so dw⟩⟩
  obtain ⟨r, t, S, dx, dy, d, so, hx, hy, e, q⟩ := h
  exact op_neE hu S I so rx ry hx hy e q
end DL
end L2

set_option Elab.async false
set_option linter.all false
set_option maxRecDepth 100000
set_option maxHeartbeats 1000000
/-! sorted(..) and min(..) of trees of numbers and tuples: of a list, of a nested table's keys. -/
namespace L2
open PySem PySem.Spec PyProof.Rows
section
variable {X : Cx} {pins : List (Addr × Obj)} {σ : St} {H : Hp} {s : Shared}
end
namespace DL
section
variable {K : PySem.W.Frag} {H : Hp} {r t : List Addr}
end
section
variable {X : Cx}
end
/-! facts -/
section
variable {S : Sto}
end
theorem compGoC_filter {n : Nat} {ds0 : List D} {g : DG} {env : Ev} {tt : DB} {te : DE} {P : List D → Sto → Prop} (p : D → Bool) (f : D → D) {S : Sto} (hS : S[n]? = some (.lst ds0)) : ∀ {ds acc : List D} (hl : acc.length + ds.length ≤ sizeLine)
    (hs : ∀ d ∈ ds, ∃ env', g env d = some env' ∧ Wp (tt env' S) (fun b S' => S' = S ∧ b = p d) ∧ (p d = true → Wp (te env' S) fun y S' => S' = S ∧ y = f d)) (hf : P (acc ++ (ds.filter p).map f) S), Wp (compGoC n ds0 g env tt te ds acc S) P
  | [], acc, hl, hs, hf => by
    unfold compGoC keepC
    rw [if_pos hS]
    rw [List.filter_nil, List.map_nil, List.append_nil] at hf
    exact Wp.of rfl hf
  | d :: ds, acc, hl, hs, hf => by
    rw [List.length_cons] at hl
    obtain ⟨env', e1, w, w2⟩ := hs d List.mem_cons_self
    unfold compGoC keepC
    rw [if_pos hS, e1]
    dsimp only
    rw [wp_bind, wp_noexc]
    refine w.mono fun b S1 q => ?_
    obtain ⟨q1, q2⟩ := q
    subst q1 q2
    cases hb : p d with
    | true =>
      rw [if_pos rfl, wp_bind, wp_noexc]
      refine (w2 hb).mono fun y S2 q => ?_
      obtain ⟨q1, q2⟩ := q
      subst q1 q2
      rw [if_pos (by omega)]
      refine compGoC_filter p f hS (by rw [List.length_append]; show acc.length + 1 + ds.length ≤ _; omega) (fun x hx => hs x (List.mem_cons_of_mem _ hx)) ?_
      rw [List.filter_cons_of_pos hb, List.map_cons] at hf
      rw [List.append_assoc]
      exact hf
    | false =>
      rw [if_neg Bool.false_ne_true]
      refine compGoC_filter p f hS (by omega) (fun x hx => hs x (List.mem_cons_of_mem _ hx)) ?_
      rw [List.filter_cons_of_neg (by rw [hb]; exact Bool.false_ne_true)] at hf
      exact hf
end DL
end L2

set_option Elab.async false
set_option linter.all false
set_option maxRecDepth 100000
set_option maxHeartbeats 1000000
/-! xs == [] of any list. -/
namespace L2
open PySem PySem.Spec PySem.Calls PyProof.Rows PyProof.V PySem.SeqAt
open AutoSeq1 (wpAny_loadPart')
open MeetsSeq MeetsSeq2 MeetsSeq3 SeqRoads2
section
variable {prog : Program} {w : World}
theorem eq_len (la lb : Addr) (xs ys : Array Value) (nx ny : Nat) (ax ay : Option Addr) (zx zy : Array (Option Value)) (hz : xs.size ≠ ys.size) :
    MeetsIn prog w (Builtin.«list.__eq__» ⟨[.ref la, .ref lb], []⟩)
      (fun A R s => s.heap.get? la = some { cls := .type "list", dict := ax, data := .seq xs nx, slots := zx } ∧ s.heap.get? lb = some { cls := .type "list", dict := ay, data := .seq ys ny, slots := zy } ∧
        R (.ok (.ret (.bool false))) s) := by
  intro A R s z
  obtain ⟨hp, g, d, tk, os⟩ := s
  obtain ⟨ga, gb, z⟩ := z
  have n0 := AutoSeq1.sub_list_list
  have n1 : (xs.size != ys.size) = true := by simp [hz]
  wp_walk using wpAny_loadPart' ga, wpAny_loadPart' gb
  exact z
theorem rcP_len {A : Around} {s : Shared} {la lb : Addr} {xs ys : Array Value} (ga : s.heap.IsList la xs) (gb : s.heap.IsList lb ys) (hz : xs.size ≠ ys.size) (hu : A.units < cLine)
    (E Q : Value → Shared → Prop) (z : Q (.bool false) s) : wpAny (model prog w) A (richCompare .Eq (.ref la) (.ref lb)) Q E s := by
  obtain ⟨⟨c1, a1, t1, z1⟩, o1, q1, n1, e1⟩ := id ga
  obtain ⟨⟨c2, a2, t2, z2⟩, o2, q2, n2, e2⟩ := id gb
  simp only at q1 e1 q2 e2
  subst q1 e1 q2 e2
  have ta : s.TypeIs (.ref la) "list" := ⟨_, o1, rfl⟩
  have tb : s.TypeIs (.ref lb) "list" := ⟨_, o2, rfl⟩
  refine wpAny_richCompare_same_room (op := .Eq) ta tb F.slot_list_eq (call_meetsIn F.slot_list_eq ta F.entry_list_eq (F.args_list_eq_2 _ _) (eq_len la lb xs ys n1 n2 a1 a2 z1 z2 hz) ?_) hu
  exact ⟨o1, o2, show Value.bool false ≠ Value.notImplemented ∧ Q (.bool false) s from ⟨(fun x => nomatch x), z⟩⟩
end
namespace DL
def oEqE : Sto → D → D → Option D := fun S x y => match listOf S x, y with
  | some ds, .lst [] => some (.bl ds.isEmpty)
  | _, _ => none
theorem op_eqE {X : Cx} {r t : List Addr} {pins : List (Addr × Obj)} {s : Shared} {σ : St} {H : Hp} (hu : X.A.units + 65 < cLine) (S : Sto) {v u : V} {x y : Value} {Q : VK} {dx dy d : D} (I : Inv X pins σ H s) (so : SOk X.K X.mg H r t S) (rx : RelV v x) (ry : RelV u y) (hx : Den X.K H r t v dx) (hy : Den X.K H r t u dy) (e : oEqE S dx dy = some d) (q : ∀ w, Den X.K H r t w d → Q w H) :
    wpAny (model X.prog X.w) X.A (compareOp .Eq x y) (EP X pins σ Q) X.xe s := by
  unfold oEqE at e
  split at e
  · rename_i ds e1
    cases e
    obtain ⟨p, vs, rfl, h1, z1⟩ := list_ok so hx e1
    obtain ⟨p2, us, rfl, h2, z2⟩ := lst_ok (S := S) so hy rfl
    cases z2
    obtain rfl : x = Value.ref p := rx
    obtain rfl : y = Value.ref p2 := ry
    obtain ⟨xs, v1, ⟨o, n, ho, hc, _, hd⟩, _⟩ := I.list h1
    obtain ⟨ys, v2, ⟨o', n', ho', hc', _, hd'⟩, _⟩ := I.list (.inl (.inl h2))
    cases v2
    have hl : xs.length = ds.length := by rw [← v1.length, z1.length]
    cases ds with
    | nil =>
      have ex : xs = [] := List.length_eq_zero_iff.mp hl
      subst ex
      refine rcP_lists (e := fun _ => true) ⟨o, ho, hc, n, hd⟩ ⟨o', ho', hc', n', hd'⟩ rfl (by omega) (fun j h1 h2 => absurd h1 (Nat.not_lt_zero _)) _ _ ?_
      exact ⟨.bl true, H, I, rfl, q _ (.bl _)⟩
    | cons d ds =>
      refine rcP_len ⟨o, ho, hc, n, hd⟩ ⟨o', ho', hc', n', hd'⟩ (by rw [List.size_toArray, hl]; exact Nat.succ_ne_zero _) (by omega) _ _ ?_
      exact ⟨.bl false, H, I, rfl, q _ (.bl _)⟩
  · cases e
def rrQ (X : Cx) : R2 := fun x y H Q => ∃ r t S dx dy d, SOk X.K X.mg H r t S ∧ Den X.K H r t x dx ∧ Den X.K H r t y dy ∧ oEqE S dx dy = some d ∧ ∀ w, Den X.K H r t w d → Q w H
theorem od_eqE {X : Cx} (hu : X.A.units + 65 < cLine) : OpD X (compareOp .Eq) oEqE := by
  refine ⟨rrQ X, fun pins s σ H x y v u Q I rx ry h => ?_, fun r t S H x y v u d Q so dx dy e q => ⟨r, t, S, x, y, d, so, dx, dy, e, fun w dw => q w H (Ext.refl _ _) so dw⟩⟩
  obtain ⟨r, t, S, dx, dy, d, so, hx, hy, e, q⟩ := h
  exact op_eqE hu S I so rx ry hx hy e q
end DL
end L2

set_option Elab.async false
set_option linter.all false
set_option maxRecDepth 100000
set_option maxHeartbeats 1000000
/-! texts: join, split, partition, int(text), slices. -/
namespace L2
namespace DL
open PySem PySem.Spec PyProof.Rows
def txsOf : List D → Option (List Str)
  | [] => some []
  | .str a :: ds => (txsOf ds).map (a :: ·)
  | _ :: _ => none
theorem txsOf_map : ∀ ys : List Str, txsOf (ys.map D.str) = some ys
  | [] => rfl
  | y :: ys => by
    show (txsOf (ys.map D.str)).map (y :: ·) = _
    rw [txsOf_map ys]
    rfl
theorem txsOf_eq : ∀ {ds : List D} {ys : List Str}, txsOf ds = some ys → ds = ys.map D.str
  | [], ys, h => by cases h; rfl
  | .str a :: ds, ys, h => by
    obtain ⟨zs, h1, h2⟩ := Option.map_eq_some_iff.mp h
    rw [← h2, txsOf_eq h1]
    rfl
  | .non :: _, _, h => by cases h
  | .bl _ :: _, _, h => by cases h
  | .int _ :: _, _, h => by cases h
  | .ty _ :: _, _, h => by cases h
  | .tup _ :: _, _, h => by cases h
  | .lst _ :: _, _, h => by cases h
  | .fz _ :: _, _, h => by cases h
  | .ref _ :: _, _, h => by cases h
section
variable {K : PySem.W.Frag} {H : Hp} {r t : List Addr}
theorem txs_denL : ∀ (ys : List Str), DenL K H r t (ys.map V.str) (ys.map D.str)
  | [] => .nil
  | y :: ys => .cons (.str y) (txs_denL ys)
theorem denL_txs : ∀ {ys : List Str} {xs : List V}, DenL K H r t xs (ys.map D.str) → xs = ys.map V.str
  | [], _, h => by cases h; rfl
  | y :: ys, _, h => by
    cases h with
    | cons h1 h2 =>
      cases h1
      rw [denL_txs h2]
      rfl
end
/-- x.name(y), the thing a text -/
def dM1 (o : Sto → D → D → Option D) (fo fa : DE) : DE := fun env S => (fo env S).bind fun x S1 => match x with
  | .str a => (fa env S1).bind fun y S2 => lift (o S2 (.str a) y) S2
  | _ => .bad
section
variable {X : Cx} {W : WX} {e : Expr} {fo fa : DE}
theorem de_m1 {rr : V → List V → Hp → VK → Prop} {o : Sto → D → D → Option D} (hb : PE X e (tM1 rr (tE X W fo) (tE X W fa)))
    (ho : ∀ (r t : List Addr) (S : Sto) (H : Hp) (u : V) (a : Str) (y d : D) (Q : VK), SOk X.K X.mg H r t S → Den X.K H r t u y → o S (.str a) y = some d → (∀ w H', Ext r H r H' → SOk X.K X.mg H' r t S → Den X.K H' r t w d → Q w H') → rr (.str a) [u] H Q) : PE X e (tE X W (dM1 o fo fa)) := by
  refine PE.imp hb fun σ H Q q => ?_
  obtain ⟨r, t, S, env, rel, g⟩ := q
  refine ⟨r, t, S, env, rel, g.bind.mono fun od S1 r1 H1 ex so g1 v dv => ?_⟩
  have rel1 := rel.ext ex so
  split at g1
  · rename_i a
    cases dv
    refine ⟨⟨a, rfl⟩, r1, t, S1, env, rel1, g1.bind.mono fun y S2 r2 H2 ex2 so2 g3 yv dy => ?_⟩
    obtain ⟨d, ed, g4⟩ := g3.lift
    exact ho r2 t S2 H2 yv a y d Q so2 dy ed fun w H' ex3 so3 dw => g4 H' r2 ex3 so3 w dw
  · exact (show False from g1).elim
def oJoin : Sto → D → D → Option D := fun S x y => match x, (listOf S y).bind txsOf with
  | .str a, some ys => if (ys.map (·.length)).sum + ys.length * a.length ≤ 16777216 then some (.str (Txt.join a ys)) else none
  | _, _ => none
theorem de_join {apos pos : Pos} {o a : Expr} (ho : PE X o (tE X W fo)) (ha : PE X a (tE X W fa)) (hs : starEach [a] X.env = [(false, eval a X.env)] := by rfl) (hbase : attributeBase o "join" X.env (eval o X.env) = eval o X.env := by rfl) (hline : (apos.endLine == pos.line) = true := by rfl) :
    PE X (.Call (.Attribute o "join" apos) [a] [] pos) (tE X W (dM1 oJoin fo fa)) :=
  de_m1 (pe_join ho ha hs hbase hline) fun r t S H u z y d Q so dy e q => by
    unfold oJoin at e
    split at e
    · rename_i a' ys ea eb
      cases ea
      split at e
      · rename_i hl
        cases e
        obtain ⟨ds, h1, h2⟩ := Option.bind_eq_some_iff.mp eb
        have h3 := txsOf_eq h2
        subst h3
        obtain ⟨p, xs, rfl, h4, h5⟩ := list_ok so dy h1
        rw [denL_txs h5] at h4
        exact ⟨z, p, ys, rfl, rfl, .inl h4, hl, q _ _ (Ext.refl _ _) so (.str _)⟩
      · cases e
    · cases e
def oSplit : Sto → D → D → Option D := fun _ x y => match x, y with
  | .str a, .str b => if (b.length == 0) = false ∧ a.length + 2 ≤ sizeLine then some (.lst ((Txt.split a b).map D.str)) else none
  | _, _ => none
theorem de_split {apos pos : Pos} {o a : Expr} (ho : PE X o (tE X W fo)) (ha : PE X a (tE X W fa)) (hs : starEach [a] X.env = [(false, eval a X.env)] := by rfl) (hbase : attributeBase o "split" X.env (eval o X.env) = eval o X.env := by rfl) (hline : (apos.endLine == pos.line) = true := by rfl) :
    PE X (.Call (.Attribute o "split" apos) [a] [] pos) (tE X W (dM1 oSplit fo fa)) :=
  de_m1 (pe_split ho ha hs hbase hline) fun r t S H u z y d Q so dy e q => by
    cases y with
    | str b =>
      unfold oSplit at e
      dsimp only at e
      split at e
      · rename_i hl
        cases e
        cases dy
        exact ⟨z, b, rfl, rfl, hl.1, hl.2, fun p hp => newL so hp (txs_denL _) q⟩
      · cases e
    | _ => cases e
def oPart : Sto → D → D → Option D := fun _ x y => match x, y with
  | .str a, .str b => if (b.length == 0) = false ∧ a.length ≤ sizeLine then some (.tup [.str (Txt.partition a b).1, .str (Txt.partition a b).2.1, .str (Txt.partition a b).2.2]) else none
  | _, _ => none
theorem de_partition {apos pos : Pos} {o a : Expr} (ho : PE X o (tE X W fo)) (ha : PE X a (tE X W fa)) (hs : starEach [a] X.env = [(false, eval a X.env)] := by rfl) (hbase : attributeBase o "partition" X.env (eval o X.env) = eval o X.env := by rfl) (hline : (apos.endLine == pos.line) = true := by rfl) :
    PE X (.Call (.Attribute o "partition" apos) [a] [] pos) (tE X W (dM1 oPart fo fa)) :=
  de_m1 (pe_partition ho ha hs hbase hline) fun r t S H u z y d Q so dy e q => by
    cases y with
    | str b =>
      unfold oPart at e
      dsimp only at e
      split at e
      · rename_i hl
        cases e
        cases dy
        exact ⟨z, b, rfl, rfl, hl.1, hl.2, fun p hp => newT so hp (.cons (.str _) (.cons (.str _) (.cons (.str _) .nil))) q⟩
      · cases e
    | _ => cases e
end
section
variable {X : Cx}
/-- int(text) -/
def oIntS : Sto → List D → Option D := fun _ ds => match ds with
  | [.str a] => if a.length ≤ 640 then (PySem.intText? a).map D.int else none
  | _ => none
theorem cd_intS : CallD X (.type "int") oIntS := by
  refine ⟨_, call_int_str, fun r t S H ds vs d Q so dv e q => ?_⟩
  unfold oIntS at e
  split at e
  · split at e
    · rename_i a hl
      obtain ⟨n, h1, h2⟩ := Option.map_eq_some_iff.mp e
      subst h2
      cases dv with
      | cons d1 d2 =>
        cases d2
        cases d1
        exact ⟨a, n, rfl, h1, hl, q _ _ (Ext.refl _ _) so (.int _)⟩
    · cases e
  · cases e
/-- x[a:b] of a text -/
def oSlS : Sto → D → Option Int → Option Int → Option D := fun _ x l u => match x with
  | .str z => if z.length ≤ sizeLine then some (.str (Txt.slice z l u)) else none
  | _ => none
theorem sd_txt : SlD X oSlS := by
  refine ⟨_, C8.sl_txt, fun r t S H x v l u d Q so dx e q => ?_⟩
  unfold oSlS at e
  split at e
  · split at e
    · rename_i z hl
      cases e
      cases dx
      exact ⟨z, rfl, hl, q _ _ (Ext.refl _ _) so (.str _)⟩
    · cases e
  · cases e
end
section
variable {env : Ev} {S : Sto} {P : D → Sto → Prop} {fo fa : DE} {o : Sto → D → D → Option D} {a : Str} {y : D}
def kM1 (o : Sto → D → D → Option D) (fa : DE) (env : Ev) (P : D → Sto → Prop) (x : D) (S1 : Sto) : Prop := Wp (match x with
  | .str a => (fa env S1).bind fun y S2 => lift (o S2 (.str a) y) S2
  | _ => .bad) P
def kM1b (o : Sto → D → D → Option D) (a : Str) (P : D → Sto → Prop) (y : D) (S2 : Sto) : Prop := Wp (lift (o S2 (.str a) y) S2) P
theorem w_M1 : Wp (dM1 o fo fa env S) P = Wp (fo env S) (kM1 o fa env P) := by
  unfold dM1
  rw [wp_bind]
  rfl
theorem k_M1 : kM1 o fa env P (.str a) S = Wp (fa env S) (kM1b o a P) := by
  unfold kM1
  dsimp only
  rw [wp_bind]
  rfl
theorem k_M1b : kM1b o a P y S = Wp (lift (o S (.str a) y) S) P := rfl
end
end DL
end L2

set_option Elab.async false
set_option linter.all false
set_option maxRecDepth 100000
set_option maxHeartbeats 1000000
/-! texts: x * k, x.lower(); what raises within an expression. -/
namespace L2
open PySem PySem.Spec PySem.Builtin PySem.Builtin.Str PyProof.Rows
section
variable {X : Cx}
def repTx (k : Nat) (a : Str) : Str := ⟨(List.replicate k a.cps).foldl (· ++ ·) #[]⟩
theorem op_mulS : OpR X (binaryOp .Mult) (fun x y H Q => ∃ (a : Str) (k : Int), x = .str a ∧ y = .int k ∧ 2 ≤ k ∧ k ≤ 1000 ∧ 1 ≤ a.length ∧ a.length ≤ 1000 ∧ Q (.str (repTx k.toNat a)) H) := by
  intro pins s σ H x y v u Q I rx ry h
  obtain ⟨a, k, rfl, rfl, h1, h2, h3, h4, q⟩ := h
  obtain ⟨t, rfl⟩ := rx
  obtain ⟨w, rfl⟩ := ry
  have c1 : (decide (k < -(2 ^ 63 : Int)) || decide (k ≥ 2 ^ 63)) = false := by
    rw [decide_eq_false (by omega), decide_eq_false (by omega)]
    rfl
  have n1 : ¬ k < 1 := by omega
  have n2 : (k == 1 || a.length == 0) = false := by
    rw [Bool.or_eq_false_iff]
    exact ⟨by rw [beq_eq_false_iff_ne]; omega, by rw [beq_eq_false_iff_ne]; omega⟩
  have ln : a.length * k.toNat ≤ 1000000 := by
    have : a.length * k.toNat ≤ 1000 * 1000 := Nat.mul_le_mul h4 (by omega)
    omega
  have tl : tooLong (a.length * k.toNat) = false := by
    unfold tooLong
    exact decide_eq_false (by rw [sizeLine_eq]; omega)
  refine P.mul_str c1 (fun _ _ => ?_) (fun _ _ => tl) ?_
  · have e : (1000 : Int) ≤ (2 ^ 63 - 1) / k := by
      rw [Int.le_ediv_iff_mul_le (by omega)]
      have : (1000 : Int) * k ≤ 1000 * 1000 := Int.mul_le_mul_of_nonneg_left h2 (by omega)
      omega
    omega
  · rw [if_neg n1, if_neg (by rw [n2]; exact Bool.false_ne_true)]
    refine ⟨?_, ?_⟩
    · have key : ∀ (m : Nat) (acc : Array Nat), ((List.replicate m a.cps).foldl (fun x1 x2 => x1 ++ x2) acc).size = acc.size + m * a.cps.size := fun m => by
        induction m with
        | zero => intro acc; show acc.size = acc.size + 0 * _; omega
        | succ m ih =>
          intro acc
          rw [List.replicate_succ, List.foldl_cons, ih, Array.size_append, Nat.succ_mul]
          omega
      show ((List.replicate k.toNat a.cps).foldl (fun x1 x2 => x1 ++ x2) #[]).size ≤ sizeLine
      rw [key, sizeLine_eq]
      have : a.length * k.toNat = k.toNat * a.cps.size := Nat.mul_comm _ _
      have : (#[] : Array Nat).size = 0 := rfl
      omega
    · exact ⟨.str _, H, I.tok _, ⟨_, rfl⟩, q⟩
end
namespace DL
section
variable {X : Cx} {W : WX} {e : Expr} {fo fa : DE}
def oMulS : Sto → D → D → Option D := fun _ x y => match x, y with
  | .str a, .int k => if 2 ≤ k ∧ k ≤ 1000 ∧ 1 ≤ a.length ∧ a.length ≤ 1000 then some (.str (repTx k.toNat a)) else none
  | _, _ => none
theorem od_mulS : OpD X (binaryOp .Mult) oMulS := by
  refine ⟨_, op_mulS, fun r t S H x y v u d Q so dx dy e q => ?_⟩
  cases x with
  | str a =>
    cases y with
    | int k =>
      unfold oMulS at e
      dsimp only at e
      split at e
      · rename_i hl
        cases e
        cases dx
        cases dy
        exact ⟨a, k, rfl, rfl, hl.1, hl.2.1, hl.2.2.1, hl.2.2.2, q _ _ (Ext.refl _ _) so (.str _)⟩
      · cases e
    | _ => cases e
  | _ => cases e
/-- x.lower() -/
def dLower (fo : DE) : DE := fun env S => (fo env S).bind fun x S1 => match x with
  | .str a => if a.length ≤ 5592405 then .ok (.str (Txt.lower a)) S1 else .bad
  | _ => .bad
theorem de_lower {apos pos : Pos} {o : Expr} (ho : PE X o (tE X W fo)) (hbase : attributeBase o "lower" X.env (eval o X.env) = eval o X.env := by rfl) (hline : (apos.endLine == pos.line) = true := by rfl) :
    PE X (.Call (.Attribute o "lower" apos) [] [] pos) (tE X W (dLower fo)) := by
  refine PE.imp (pe_lower ho hbase hline) fun σ H Q q => ?_
  obtain ⟨r, t, S, env, rel, g⟩ := q
  refine ⟨r, t, S, env, rel, g.bind.mono fun od S1 r1 H1 ex so g1 v dv => ?_⟩
  split at g1
  · rename_i a
    split at g1
    · rename_i hl
      cases dv
      exact ⟨⟨a, rfl⟩, a, rfl, rfl, hl, Good.here g1 so _ (.str _)⟩
    · exact (show False from g1).elim
  · exact (show False from g1).elim
end
section
variable {env : Ev} {S : Sto} {P : D → Sto → Prop} {fo fa fb : DE} {a : Str}
def kLower (P : D → Sto → Prop) (x : D) (S1 : Sto) : Prop := Wp (match x with
  | .str a => if a.length ≤ 5592405 then .ok (.str (Txt.lower a)) S1 else .bad
  | _ => .bad) P
theorem w_Lower : Wp (dLower fo env S) P = Wp (fo env S) (kLower P) := by
  unfold dLower
  rw [wp_bind]
  rfl
theorem k_Lower (h : a.length ≤ 5592405) : kLower P (.str a) S = P (.str (Txt.lower a)) S := by
  unfold kLower
  dsimp only
  rw [if_pos h, wp_ok]
variable {c : Str} {Q : Sto → Prop} {fs : DA} {g : DA} {o : Sto → D → D → Option D}
theorem ex_cons1 (h : Ex (fa env S) c Q) : Ex (aCons fa g env S) c Q := h.bind1
theorem ex_cons2 (h : Wp (fa env S) fun _ S1 => Ex (g env S1) c Q) : Ex (aCons fa g env S) c Q := Ex.bind2 (h.mono fun _ _ q => q.bind1)
theorem ex_tup (h : Ex (fs env S) c Q) : Ex (dTup fs env S) c Q := h.bind1
theorem ex_bin2 (h : Wp (fa env S) fun _ S1 => Ex (fb env S1) c Q) : Ex (dBin o fa fb env S) c Q := Ex.bind2 (h.mono fun _ _ q => q.bind1)
theorem ex_app (h : Wp (fo env S) fun d S1 => (lstOf S1 d).isSome = true ∧ Ex (fa env S1) c Q) : Ex (dAppend fo fa env S) c Q := Ex.bind2 (h.mono fun d S1 q => by
  rw [if_pos q.1]
  exact q.2.bind1)
end
end DL
end L2

set_option Elab.async false
set_option linter.all false
set_option maxRecDepth 100000
namespace L2
namespace DL
namespace G
open PySem PySem.Spec PyProof.Rows
section
variable {P : Program} {w : World} {K : PySem.W.Frag} {mg : Str → Option Value} {base : Heap}
def topS (i : Nat) : Stmt := PySem.Challenge.pw_meetwall_k67_texts_that_write_no_house.main.body.getD i (.Pass ⟨0, 0, 0, 0⟩)
/-! ### is_whole -/
abbrev st_is_whole : Stmt := topS 22
abbrev N_is_whole : List Str := ["thing"]
theorem sc_is_whole : FnScope N_is_whole ["thing"] (defScope st_is_whole) := ⟨rfl, rfl, rfl, by decide +kernel, rfl, by decide +kernel, by decide +kernel⟩
def d_is_whole : DS := (sRet (dAnd (dCall oIsInst (aCons (dVar 0) (aCons (dC (.ty "int")) aNil))) (dNot (dCall oIsInst (aCons (dVar 0) (aCons (dC (.ty "bool")) aNil))))))
def f_is_whole : Fn := dFun0 1 d_is_whole
theorem ok_is_whole {k : Nat} {f : Addr} {fd : FuncData} (F : Fun K "is_whole" "is_whole" st_is_whole f fd) (b : Binds K fd ["thing"] []) (m : mg "is_whole" = some (.ref f)) (m_isinstance : mg "isinstance" = none) (m_int : mg "int" = none) (m_bool : mg "bool" = none) : Callee P w K mg base CX0 (k + 1) "is_whole" 1 f_is_whole := by
  have sc := sc_is_whole
  refine ⟨f, fd, ["thing"], Fun.okD F sc rfl fun cdv A outer s H E hr => ?_, m, F.kp, b⟩
  exact (ds_one (ds_ret (de_and (de_callB cd_isinst rfl m_isinstance (by decide +kernel) (da_cons (de_var 0) (da_cons (de_ty rfl m_int (by decide +kernel)) da_nil))) (de_one (de_not (de_callB cd_isinst rfl m_isinstance (by decide +kernel) (da_cons (de_var 0) (da_cons (de_ty rfl m_bool (by decide +kernel)) da_nil))))))))
/-! ### is_from_to -/
abbrev st_is_from_to : Stmt := topS 23
abbrev N_is_from_to : List Str := ["thing", "least", "most"]
theorem sc_is_from_to : FnScope N_is_from_to ["thing", "least", "most"] (defScope st_is_from_to) := ⟨rfl, rfl, rfl, by decide +kernel, rfl, by decide +kernel, by decide +kernel⟩
def d_is_from_to : DS := (sRet (dAnd (dCallF f_is_whole (aCons (dVar 0) aNil)) (dChain oLe oLe (dVar 1) (dVar 0) (dVar 2))))
def f_is_from_to : Fn := dFun0 3 d_is_from_to
theorem ok_is_from_to {k : Nat} {f : Addr} {fd : FuncData} (F : Fun K "is_from_to" "is_from_to" st_is_from_to f fd) (b : Binds K fd ["thing", "least", "most"] []) (m : mg "is_from_to" = some (.ref f)) (c_is_whole : Callee P w K mg base CX0 k "is_whole" 1 f_is_whole) : Callee P w K mg base CX0 (k + 1) "is_from_to" 3 f_is_from_to := by
  have sc := sc_is_from_to
  refine ⟨f, fd, ["thing", "least", "most"], Fun.okD F sc rfl fun cdv A outer s H E hr => ?_, m, F.kp, b⟩
  exact (ds_one (ds_ret (de_and (de_callC c_is_whole hr thru0 (an_cons (de_var 0) an_nil)) (de_one (de_chain od_le od_le (de_var 1) (de_var 0) (de_var 2))))))
/-! ### is_word -/
abbrev st_is_word : Stmt := topS 24
abbrev N_is_word : List Str := ["thing", "sign"]
theorem sc_is_word : FnScope N_is_word ["thing"] (defScope st_is_word) := ⟨rfl, rfl, rfl, by decide +kernel, rfl, by decide +kernel, by decide +kernel⟩
def d_is_word : DS := (sSeq (sIf (bOr (bNot (dTst (dCall oIsInst (aCons (dVar 0) (aCons (dC (.ty "str")) aNil))))) (bNot (dTst (dChain oLe oLe (dC (.int 1)) (dCall oLen (aCons (dVar 0) aNil)) (dC (.int 8))))))
  (sRet (dC (.bl false)))
  sNil)
  (sRet (dCall oAll (aCons (dComp (iSeq (dVar 0)) (gN 1) [1] bYes (dBin (oIn false) (dVar 1) (dC (.str "abcdefghijklmnopqrstuvwxyz")))) aNil))))
def f_is_word : Fn := dFun0 2 d_is_word
theorem ok_is_word {k : Nat} {f : Addr} {fd : FuncData} (F : Fun K "is_word" "is_word" st_is_word f fd) (b : Binds K fd ["thing"] []) (m : mg "is_word" = some (.ref f)) (m_isinstance : mg "isinstance" = none) (m_str : mg "str" = none) (m_len : mg "len" = none) (m_all : mg "all" = none) (h_LETTERS : GlobIs K mg "LETTERS" (.str "abcdefghijklmnopqrstuvwxyz")) : Callee P w K mg base CX0 (k + 1) "is_word" 1 f_is_word := by
  have sc := sc_is_word
  refine ⟨f, fd, ["thing"], Fun.okD F sc rfl fun cdv A outer s H E hr => ?_, m, F.kp, b⟩
  exact (ds_cons (ds_if (PW.pt (dw_or (dt_not (dt_val (de_callB cd_isinst rfl m_isinstance (by decide +kernel) (da_cons (de_var 0) (da_cons (de_ty rfl m_str (by decide +kernel)) da_nil))))) (dw_or1 (dt_not (dt_chain od_le od_le de_int (de_callB cd_len rfl m_len PySem.boot_len (da_cons (de_var 0) da_nil)) de_int)))))
  (ds_one (ds_ret de_bl))
  ds_nil)
  (ds_one (ds_ret (de_callB (cd_all (by rfl)) rfl m_all (by decide +kernel) (da_cons (de_comp (own := [("sign", 1)]) (by rfl) sc.nd (di_seq (de_var 0)) (blkOk_by (own := [("sign", 1)]) (N := N_is_word) (sc := defScope st_is_word) (by decide +kernel)) (by decide) (fun _ _ _ _ _ => (dg_name 1 sc.nd)) (fun _ _ _ _ _ => dts_nil) (fun _ _ _ _ _ => (de_cmp (od_in (hu65 hr)) (de_var 1) (de_globI h_LETTERS) (by rfl)))) da_nil)))))
/-! ### is_members -/
abbrev st_is_members : Stmt := topS 25
abbrev N_is_members : List Str := ["walls", "thing", "last", "member"]
theorem sc_is_members : FnScope N_is_members ["walls", "thing"] (defScope st_is_members) := ⟨rfl, rfl, rfl, by decide +kernel, rfl, by decide +kernel, by decide +kernel⟩
def d_is_members : DS := (sSeq (sIf (bNot (dTst (dCall oIsInst (aCons (dVar 1) (aCons (dC (.ty "tuple")) aNil)))))
  (sRet (dC (.bl false)))
  sNil)
  (sSeq (sSet 2 (dUn oNeg (dC (.int 1))))
  (sSeq (sFor (iSeq (dVar 1)) (gN 3)
  (sSeq (sIf (bOr (bNot (dTst (dCall oIsInst (aCons (dVar 3) (aCons (dC (.ty "tuple")) aNil))))) (bOr (dTst (dBin oNe (dCall oLen (aCons (dVar 3) aNil)) (dC (.int 2)))) (bNot (dTst (dCallF f_is_from_to (aCons (dBin oIx (dVar 3) (dC (.int 0))) (aCons (dBin oAdd (dVar 2) (dC (.int 1))) (aCons (dBin oSub (dVar 0) (dC (.int 1))) aNil))))))))
  (sRet (dC (.bl false)))
  sNil)
  (sSeq (sIf (bOr (bNot (dTst (dCall oIsInst (aCons (dBin oIx (dVar 3) (dC (.int 1))) (aCons (dC (.ty "str")) aNil))))) (dTst (dInG true ["both", "come", "go"] (dBin oIx (dVar 3) (dC (.int 1))))))
  (sRet (dC (.bl false)))
  sNil)
  (sSet 2 (dBin oIx (dVar 3) (dC (.int 0)))))))
  (sRet (dC (.bl true))))))
def f_is_members : Fn := dFun0 4 d_is_members
theorem ok_is_members {k : Nat} {f : Addr} {fd : FuncData} (F : Fun K "is_members" "is_members" st_is_members f fd) (b : Binds K fd ["walls", "thing"] []) (m : mg "is_members" = some (.ref f)) (c_is_from_to : Callee P w K mg base CX0 k "is_from_to" 3 f_is_from_to) (m_isinstance : mg "isinstance" = none) (m_tuple : mg "tuple" = none) (m_len : mg "len" = none) (m_str : mg "str" = none) (h_MODES : GlobT K mg "MODES" ["both", "come", "go"]) : Callee P w K mg base CX0 (k + 1) "is_members" 2 f_is_members := by
  have sc := sc_is_members
  refine ⟨f, fd, ["walls", "thing"], Fun.okD F sc rfl fun cdv A outer s H E hr => ?_, m, F.kp, b⟩
  exact (ds_cons (ds_if (dt_not (dt_val (de_callB cd_isinst rfl m_isinstance (by decide +kernel) (da_cons (de_var 1) (da_cons (de_ty rfl m_tuple (by decide +kernel)) da_nil)))))
  (ds_one (ds_ret de_bl))
  ds_nil)
  (ds_cons (ds_set 2 sc.nd (de_un ud_neg de_int))
  (ds_cons (ds_for PassesOwn.never (by rfl) (di_seq (de_var 1)) (dg_name 3 sc.nd)
  (ds_cons (ds_if (PW.pt (dw_or (dt_not (dt_val (de_callB cd_isinst rfl m_isinstance (by decide +kernel) (da_cons (de_var 3) (da_cons (de_ty rfl m_tuple (by decide +kernel)) da_nil))))) (dw_or (dt_cmp (od_ne hr.units) (de_callB cd_len rfl m_len PySem.boot_len (da_cons (de_var 3) da_nil)) de_int (nomark _)) (dw_or1 (dt_not (dt_val (de_callC c_is_from_to hr thru0 (an_cons (de_ix xd_ix (de_var 3) de_int (fun _ _ => rfl)) (an_cons (de_bin od_add (de_var 2) de_int) (an_cons (de_bin od_sub (de_var 0) de_int) an_nil))))))))))
  (ds_one (ds_ret de_bl))
  ds_nil)
  (ds_cons (ds_if (PW.pt (dw_or (dt_not (dt_val (de_callB cd_isinst rfl m_isinstance (by decide +kernel) (da_cons (de_ix xd_ix (de_var 3) de_int (fun _ _ => rfl)) (da_cons (de_ty rfl m_str (by decide +kernel)) da_nil))))) (dw_or1 (dt_notInG h_MODES (de_ix xd_ix (de_var 3) de_int (fun _ _ => rfl)) rfl (by rfl)))))
  (ds_one (ds_ret de_bl))
  ds_nil)
  (ds_one (ds_set 2 sc.nd (de_ix xd_ix (de_var 3) de_int (fun _ _ => rfl)))))))
  (ds_one (ds_ret de_bl)))))
/-! ### is_deed -/
abbrev st_is_deed : Stmt := topS 26
abbrev N_is_deed : List Str := ["boxes", "walls", "scripts", "at", "thing"]
theorem sc_is_deed : FnScope N_is_deed ["boxes", "walls", "scripts", "at", "thing"] (defScope st_is_deed) := ⟨rfl, rfl, rfl, by decide +kernel, rfl, by decide +kernel, by decide +kernel⟩
def d_is_deed : DS := (sSeq (sIf (bOr (bNot (dTst (dCall oIsInst (aCons (dVar 4) (aCons (dC (.ty "tuple")) aNil))))) (bOr (dTst (dBin oLt (dCall oLen (aCons (dVar 4) aNil)) (dC (.int 2)))) (bNot (dTst (dCall oIsInst (aCons (dBin oIx (dVar 4) (dC (.int 0))) (aCons (dC (.ty "str")) aNil)))))))
  (sRet (dC (.bl false)))
  sNil)
  (sSeq (sIf (dTst (dBin oEq (dCall oLen (aCons (dVar 4) aNil)) (dC (.int 3))))
  (sSeq (sIf (dTst (dBin oEq (dBin oIx (dVar 4) (dC (.int 0))) (dC (.str "raise"))))
  (sRet (dAnd (dCallF f_is_from_to (aCons (dBin oIx (dVar 4) (dC (.int 1))) (aCons (dC (.int 0)) (aCons (dBin oSub (dVar 0) (dC (.int 1))) aNil)))) (dCallF f_is_from_to (aCons (dBin oIx (dVar 4) (dC (.int 2))) (aCons (dC (.int 1)) (aCons (dC (.int 99)) aNil))))))
  sNil)
  (sSeq (sIf (dTst (dBin oEq (dBin oIx (dVar 4) (dC (.int 0))) (dC (.str "await"))))
  (sRet (dAnd (dCallF f_is_from_to (aCons (dBin oIx (dVar 4) (dC (.int 1))) (aCons (dC (.int 0)) (aCons (dBin oSub (dVar 0) (dC (.int 1))) aNil)))) (dCallF f_is_from_to (aCons (dBin oIx (dVar 4) (dC (.int 2))) (aCons (dC (.int 1)) (aCons (dC (.int 9999)) aNil))))))
  sNil)
  (sRet (dAnd (dBin oEq (dBin oIx (dVar 4) (dC (.int 0))) (dC (.str "begin"))) (dAnd (dCallF f_is_from_to (aCons (dBin oIx (dVar 4) (dC (.int 1))) (aCons (dBin oAdd (dVar 3) (dC (.int 1))) (aCons (dBin oSub (dVar 2) (dC (.int 1))) aNil)))) (dCallF f_is_members (aCons (dVar 1) (aCons (dBin oIx (dVar 4) (dC (.int 2))) aNil))))))))
  sNil)
  (sSeq (sIf (dTst (dBin oNe (dCall oLen (aCons (dVar 4) aNil)) (dC (.int 2))))
  (sRet (dC (.bl false)))
  sNil)
  (sSeq (sIf (dTst (dBin oEq (dBin oIx (dVar 4) (dC (.int 0))) (dC (.str "work"))))
  (sRet (dCallF f_is_from_to (aCons (dBin oIx (dVar 4) (dC (.int 1))) (aCons (dC (.int 0)) (aCons (dC (.int 999)) aNil)))))
  sNil)
  (sSeq (sIf (dTst (dBin oEq (dBin oIx (dVar 4) (dC (.int 0))) (dC (.str "say"))))
  (sRet (dCallF f_is_word (aCons (dBin oIx (dVar 4) (dC (.int 1))) aNil)))
  sNil)
  (sRet (dAnd (dBin (oIn false) (dBin oIx (dVar 4) (dC (.int 0))) (dTup (aCons (dC (.str "come")) (aCons (dC (.str "go")) (aCons (dC (.str "leave")) aNil))))) (dCallF f_is_from_to (aCons (dBin oIx (dVar 4) (dC (.int 1))) (aCons (dC (.int 0)) (aCons (dBin oSub (dVar 1) (dC (.int 1))) aNil)))))))))))
def f_is_deed : Fn := dFun0 5 d_is_deed
theorem ok_is_deed {k : Nat} {f : Addr} {fd : FuncData} (F : Fun K "is_deed" "is_deed" st_is_deed f fd) (b : Binds K fd ["boxes", "walls", "scripts", "at", "thing"] []) (m : mg "is_deed" = some (.ref f)) (c_is_from_to : Callee P w K mg base CX0 k "is_from_to" 3 f_is_from_to) (c_is_members : Callee P w K mg base CX0 k "is_members" 2 f_is_members) (c_is_word : Callee P w K mg base CX0 k "is_word" 1 f_is_word) (m_isinstance : mg "isinstance" = none) (m_tuple : mg "tuple" = none) (m_len : mg "len" = none) (m_str : mg "str" = none) : Callee P w K mg base CX0 (k + 1) "is_deed" 5 f_is_deed := by
  have sc := sc_is_deed
  refine ⟨f, fd, ["boxes", "walls", "scripts", "at", "thing"], Fun.okD F sc rfl fun cdv A outer s H E hr => ?_, m, F.kp, b⟩
  exact (ds_cons (ds_if (PW.pt (dw_or (dt_not (dt_val (de_callB cd_isinst rfl m_isinstance (by decide +kernel) (da_cons (de_var 4) (da_cons (de_ty rfl m_tuple (by decide +kernel)) da_nil))))) (dw_or (dt_cmp od_lt (de_callB cd_len rfl m_len PySem.boot_len (da_cons (de_var 4) da_nil)) de_int (nomark _)) (dw_or1 (dt_not (dt_val (de_callB cd_isinst rfl m_isinstance (by decide +kernel) (da_cons (de_ix xd_ix (de_var 4) de_int (fun _ _ => rfl)) (da_cons (de_ty rfl m_str (by decide +kernel)) da_nil)))))))))
  (ds_one (ds_ret de_bl))
  ds_nil)
  (ds_cons (ds_if (dt_cmp (od_eq hr.units) (de_callB cd_len rfl m_len PySem.boot_len (da_cons (de_var 4) da_nil)) de_int (nomark _))
  (ds_cons (ds_if (dt_cmp (od_eq hr.units) (de_ix xd_ix (de_var 4) de_int (fun _ _ => rfl)) de_str (nomark _))
  (ds_one (ds_ret (de_and (de_callC c_is_from_to hr thru0 (an_cons (de_ix xd_ix (de_var 4) de_int (fun _ _ => rfl)) (an_cons de_int (an_cons (de_bin od_sub (de_var 0) de_int) an_nil)))) (de_one (de_callC c_is_from_to hr thru0 (an_cons (de_ix xd_ix (de_var 4) de_int (fun _ _ => rfl)) (an_cons de_int (an_cons de_int an_nil))))))))
  ds_nil)
  (ds_cons (ds_if (dt_cmp (od_eq hr.units) (de_ix xd_ix (de_var 4) de_int (fun _ _ => rfl)) de_str (nomark _))
  (ds_one (ds_ret (de_and (de_callC c_is_from_to hr thru0 (an_cons (de_ix xd_ix (de_var 4) de_int (fun _ _ => rfl)) (an_cons de_int (an_cons (de_bin od_sub (de_var 0) de_int) an_nil)))) (de_one (de_callC c_is_from_to hr thru0 (an_cons (de_ix xd_ix (de_var 4) de_int (fun _ _ => rfl)) (an_cons de_int (an_cons de_int an_nil))))))))
  ds_nil)
  (ds_one (ds_ret (de_and (de_cmp (od_eq hr.units) (de_ix xd_ix (de_var 4) de_int (fun _ _ => rfl)) de_str (nomark _)) (de_and (de_callC c_is_from_to hr thru0 (an_cons (de_ix xd_ix (de_var 4) de_int (fun _ _ => rfl)) (an_cons (de_bin od_add (de_var 3) de_int) (an_cons (de_bin od_sub (de_var 2) de_int) an_nil)))) (de_one (de_callC c_is_members hr thru0 (an_cons (de_var 1) (an_cons (de_ix xd_ix (de_var 4) de_int (fun _ _ => rfl)) an_nil))))))))))
  ds_nil)
  (ds_cons (ds_if (dt_cmp (od_ne hr.units) (de_callB cd_len rfl m_len PySem.boot_len (da_cons (de_var 4) da_nil)) de_int (nomark _))
  (ds_one (ds_ret de_bl))
  ds_nil)
  (ds_cons (ds_if (dt_cmp (od_eq hr.units) (de_ix xd_ix (de_var 4) de_int (fun _ _ => rfl)) de_str (nomark _))
  (ds_one (ds_ret (de_callC c_is_from_to hr thru0 (an_cons (de_ix xd_ix (de_var 4) de_int (fun _ _ => rfl)) (an_cons de_int (an_cons de_int an_nil))))))
  ds_nil)
  (ds_cons (ds_if (dt_cmp (od_eq hr.units) (de_ix xd_ix (de_var 4) de_int (fun _ _ => rfl)) de_str (nomark _))
  (ds_one (ds_ret (de_callC c_is_word hr thru0 (an_cons (de_ix xd_ix (de_var 4) de_int (fun _ _ => rfl)) an_nil))))
  ds_nil)
  (ds_one (ds_ret (de_and (de_cmp (od_in (hu65 hr)) (de_ix xd_ix (de_var 4) de_int (fun _ _ => rfl)) (de_tup (da_cons de_str (da_cons de_str (da_cons de_str da_nil)))) (by rfl)) (de_one (de_callC c_is_from_to hr thru0 (an_cons (de_ix xd_ix (de_var 4) de_int (fun _ _ => rfl)) (an_cons de_int (an_cons (de_bin od_sub (de_var 1) de_int) an_nil)))))))))))))
/-! ### is_calling -/
abbrev st_is_calling : Stmt := topS 27
abbrev N_is_calling : List Str := ["walls", "scripts", "thing"]
theorem sc_is_calling : FnScope N_is_calling ["walls", "scripts", "thing"] (defScope st_is_calling) := ⟨rfl, rfl, rfl, by decide +kernel, rfl, by decide +kernel, by decide +kernel⟩
def d_is_calling : DS := (sSeq (sIf (bOr (bNot (dTst (dCall oIsInst (aCons (dVar 2) (aCons (dC (.ty "tuple")) aNil))))) (dTst (dBin oNe (dCall oLen (aCons (dVar 2) aNil)) (dC (.int 2)))))
  (sRet (dC (.bl false)))
  sNil)
  (sRet (dAnd (dCallF f_is_from_to (aCons (dBin oIx (dVar 2) (dC (.int 0))) (aCons (dC (.int 0)) (aCons (dBin oSub (dVar 1) (dC (.int 1))) aNil)))) (dCallF f_is_members (aCons (dVar 0) (aCons (dBin oIx (dVar 2) (dC (.int 1))) aNil))))))
def f_is_calling : Fn := dFun0 3 d_is_calling
theorem ok_is_calling {k : Nat} {f : Addr} {fd : FuncData} (F : Fun K "is_calling" "is_calling" st_is_calling f fd) (b : Binds K fd ["walls", "scripts", "thing"] []) (m : mg "is_calling" = some (.ref f)) (c_is_from_to : Callee P w K mg base CX0 k "is_from_to" 3 f_is_from_to) (c_is_members : Callee P w K mg base CX0 k "is_members" 2 f_is_members) (m_isinstance : mg "isinstance" = none) (m_tuple : mg "tuple" = none) (m_len : mg "len" = none) : Callee P w K mg base CX0 (k + 1) "is_calling" 3 f_is_calling := by
  have sc := sc_is_calling
  refine ⟨f, fd, ["walls", "scripts", "thing"], Fun.okD F sc rfl fun cdv A outer s H E hr => ?_, m, F.kp, b⟩
  exact (ds_cons (ds_if (PW.pt (dw_or (dt_not (dt_val (de_callB cd_isinst rfl m_isinstance (by decide +kernel) (da_cons (de_var 2) (da_cons (de_ty rfl m_tuple (by decide +kernel)) da_nil))))) (dw_or1 (dt_cmp (od_ne hr.units) (de_callB cd_len rfl m_len PySem.boot_len (da_cons (de_var 2) da_nil)) de_int (nomark _)))))
  (ds_one (ds_ret de_bl))
  ds_nil)
  (ds_one (ds_ret (de_and (de_callC c_is_from_to hr thru0 (an_cons (de_ix xd_ix (de_var 2) de_int (fun _ _ => rfl)) (an_cons de_int (an_cons (de_bin od_sub (de_var 1) de_int) an_nil)))) (de_one (de_callC c_is_members hr thru0 (an_cons (de_var 0) (an_cons (de_ix xd_ix (de_var 2) de_int (fun _ _ => rfl)) an_nil))))))))
/-! ### is_script -/
abbrev st_is_script : Stmt := topS 28
abbrev N_is_script : List Str := ["boxes", "walls", "scripts", "at", "thing", "deed"]
theorem sc_is_script : FnScope N_is_script ["boxes", "walls", "scripts", "at", "thing"] (defScope st_is_script) := ⟨rfl, rfl, rfl, by decide +kernel, rfl, by decide +kernel, by decide +kernel⟩
def d_is_script : DS := (sSeq (sIf (bOr (bNot (dTst (dCall oIsInst (aCons (dVar 4) (aCons (dC (.ty "tuple")) aNil))))) (dTst (dBin oGt (dCall oLen (aCons (dVar 4) aNil)) (dC (.int 80)))))
  (sRet (dC (.bl false)))
  sNil)
  (sRet (dCall oAll (aCons (dComp (iSeq (dVar 4)) (gN 5) [5] bYes (dCallF f_is_deed (aCons (dVar 0) (aCons (dVar 1) (aCons (dVar 2) (aCons (dVar 3) (aCons (dVar 5) aNil))))))) aNil))))
def f_is_script : Fn := dFun0 6 d_is_script
theorem ok_is_script {k : Nat} {f : Addr} {fd : FuncData} (F : Fun K "is_script" "is_script" st_is_script f fd) (b : Binds K fd ["boxes", "walls", "scripts", "at", "thing"] []) (m : mg "is_script" = some (.ref f)) (c_is_deed : Callee P w K mg base CX0 k "is_deed" 5 f_is_deed) (m_isinstance : mg "isinstance" = none) (m_tuple : mg "tuple" = none) (m_len : mg "len" = none) (m_all : mg "all" = none) (h_MOST_DEEDS : GlobIs K mg "MOST_DEEDS" (.int 80)) : Callee P w K mg base CX0 (k + 1) "is_script" 5 f_is_script := by
  have sc := sc_is_script
  refine ⟨f, fd, ["boxes", "walls", "scripts", "at", "thing"], Fun.okD F sc rfl fun cdv A outer s H E hr => ?_, m, F.kp, b⟩
  exact (ds_cons (ds_if (PW.pt (dw_or (dt_not (dt_val (de_callB cd_isinst rfl m_isinstance (by decide +kernel) (da_cons (de_var 4) (da_cons (de_ty rfl m_tuple (by decide +kernel)) da_nil))))) (dw_or1 (dt_cmp od_gt (de_callB cd_len rfl m_len PySem.boot_len (da_cons (de_var 4) da_nil)) (de_globI h_MOST_DEEDS) (nomark _)))))
  (ds_one (ds_ret de_bl))
  ds_nil)
  (ds_one (ds_ret (de_callB (cd_all (by rfl)) rfl m_all (by decide +kernel) (da_cons (de_comp (own := [("deed", 5)]) (by rfl) sc.nd (di_seq (de_var 4)) (blkOk_by (own := [("deed", 5)]) (N := N_is_script) (sc := defScope st_is_script) (by decide +kernel)) (by decide) (fun _ _ _ _ _ => (dg_name 5 sc.nd)) (fun _ _ _ _ _ => dts_nil) (fun _ _ _ _ _ => (de_callC c_is_deed hr thru0 (an_cons (de_var 0) (an_cons (de_var 1) (an_cons (de_var 2) (an_cons (de_var 3) (an_cons (de_var 5) an_nil)))))))) da_nil)))))
/-! ### has_mode -/
abbrev st_has_mode : Stmt := topS 29
abbrev N_has_mode : List Str := ["have", "wall", "modes"]
theorem sc_has_mode : FnScope N_has_mode ["have", "wall", "modes"] (defScope st_has_mode) := ⟨rfl, rfl, rfl, by decide +kernel, rfl, by decide +kernel, by decide +kernel⟩
def d_has_mode : DS := (sRet (dAnd (dBin (oInT false) (dVar 1) (dVar 0)) (dBin (oIn false) (dBin oGetT (dVar 0) (dVar 1)) (dVar 2))))
def f_has_mode : Fn := dFun0 3 d_has_mode
theorem ok_has_mode {k : Nat} {f : Addr} {fd : FuncData} (F : Fun K "has_mode" "has_mode" st_has_mode f fd) (b : Binds K fd ["have", "wall", "modes"] []) (m : mg "has_mode" = some (.ref f)) : Callee P w K mg base CX0 (k + 1) "has_mode" 3 f_has_mode := by
  have sc := sc_has_mode
  refine ⟨f, fd, ["have", "wall", "modes"], Fun.okD F sc rfl fun cdv A outer s H E hr => ?_, m, F.kp, b⟩
  exact (ds_one (ds_ret (de_and (de_cmp (od_inT (hu1 hr)) (de_var 1) (de_var 0) (by rfl)) (de_one (de_cmp (od_in (hu65 hr)) (de_getT (hu1 hr) (de_var 0) (de_var 1) (fun _ _ => rfl)) (de_var 2) (by rfl))))))
/-! ### may_do_with -/
abbrev st_may_do_with : Stmt := topS 30
abbrev N_may_do_with : List Str := ["have", "deed", "wall", "mode"]
theorem sc_may_do_with : FnScope N_may_do_with ["have", "deed"] (defScope st_may_do_with) := ⟨rfl, rfl, rfl, by decide +kernel, rfl, by decide +kernel, by decide +kernel⟩
def d_may_do_with : DS := (sSeq (sIf (dTst (dBin oEq (dBin oIx (dVar 1) (dC (.int 0))) (dC (.str "come"))))
  (sRet (dCallF f_has_mode (aCons (dVar 0) (aCons (dBin oIx (dVar 1) (dC (.int 1))) (aCons (dTup (aCons (dC (.str "both")) (aCons (dC (.str "come")) aNil))) aNil)))))
  sNil)
  (sSeq (sIf (dTst (dBin oEq (dBin oIx (dVar 1) (dC (.int 0))) (dC (.str "go"))))
  (sRet (dCallF f_has_mode (aCons (dVar 0) (aCons (dBin oIx (dVar 1) (dC (.int 1))) (aCons (dTup (aCons (dC (.str "both")) (aCons (dC (.str "go")) aNil))) aNil)))))
  sNil)
  (sSeq (sIf (dTst (dBin oEq (dBin oIx (dVar 1) (dC (.int 0))) (dC (.str "leave"))))
  (sRet (dBin (oInT false) (dBin oIx (dVar 1) (dC (.int 1))) (dVar 0)))
  sNil)
  (sSeq (sIf (dTst (dBin oEq (dBin oIx (dVar 1) (dC (.int 0))) (dC (.str "begin"))))
  (sRet (dCall oAll (aCons (dComp (iSeq (dBin oIx (dVar 1) (dC (.int 2)))) (gTupD 2 (gsCons (gN 2) (gsCons (gN 3) gsNil))) [2, 3] bYes (dCallF f_has_mode (aCons (dVar 0) (aCons (dVar 2) (aCons (dTup (aCons (dVar 3) (aCons (dC (.str "both")) aNil))) aNil))))) aNil)))
  sNil)
  (sRet (dC (.bl true)))))))
def f_may_do_with : Fn := dFun0 4 d_may_do_with
theorem ok_may_do_with {k : Nat} {f : Addr} {fd : FuncData} (F : Fun K "may_do_with" "may_do_with" st_may_do_with f fd) (b : Binds K fd ["have", "deed"] []) (m : mg "may_do_with" = some (.ref f)) (c_has_mode : Callee P w K mg base CX0 k "has_mode" 3 f_has_mode) (m_all : mg "all" = none) : Callee P w K mg base CX0 (k + 1) "may_do_with" 2 f_may_do_with := by
  have sc := sc_may_do_with
  refine ⟨f, fd, ["have", "deed"], Fun.okD F sc rfl fun cdv A outer s H E hr => ?_, m, F.kp, b⟩
  exact (ds_cons (ds_if (dt_cmp (od_eq hr.units) (de_ix xd_ix (de_var 1) de_int (fun _ _ => rfl)) de_str (nomark _))
  (ds_one (ds_ret (de_callC c_has_mode hr thru0 (an_cons (de_var 0) (an_cons (de_ix xd_ix (de_var 1) de_int (fun _ _ => rfl)) (an_cons (de_tup (da_cons de_str (da_cons de_str da_nil))) an_nil))))))
  ds_nil)
  (ds_cons (ds_if (dt_cmp (od_eq hr.units) (de_ix xd_ix (de_var 1) de_int (fun _ _ => rfl)) de_str (nomark _))
  (ds_one (ds_ret (de_callC c_has_mode hr thru0 (an_cons (de_var 0) (an_cons (de_ix xd_ix (de_var 1) de_int (fun _ _ => rfl)) (an_cons (de_tup (da_cons de_str (da_cons de_str da_nil))) an_nil))))))
  ds_nil)
  (ds_cons (ds_if (dt_cmp (od_eq hr.units) (de_ix xd_ix (de_var 1) de_int (fun _ _ => rfl)) de_str (nomark _))
  (ds_one (ds_ret (de_cmp (od_inT (hu1 hr)) (de_ix xd_ix (de_var 1) de_int (fun _ _ => rfl)) (de_var 0) (by rfl))))
  ds_nil)
  (ds_cons (ds_if (dt_cmp (od_eq hr.units) (de_ix xd_ix (de_var 1) de_int (fun _ _ => rfl)) de_str (nomark _))
  (ds_one (ds_ret (de_callB (cd_all (by rfl)) rfl m_all (by decide +kernel) (da_cons (de_comp (own := [("wall", 2), ("mode", 3)]) (by rfl) sc.nd (di_seq (de_ix xd_ix (de_var 1) de_int (fun _ _ => rfl))) (blkOk_by (own := [("wall", 2), ("mode", 3)]) (N := N_may_do_with) (sc := defScope st_may_do_with) (by decide +kernel)) (by decide) (fun _ _ _ _ _ => (dg_tup (by rfl) (dgs_cons (dg_name 2 sc.nd) (dgs_cons (dg_name 3 sc.nd) dgs_nil)))) (fun _ _ _ _ _ => dts_nil) (fun _ _ _ _ _ => (de_callC c_has_mode hr thru0 (an_cons (de_var 0) (an_cons (de_var 2) (an_cons (de_tup (da_cons (de_var 3) (da_cons de_str da_nil))) an_nil)))))) da_nil))))
  ds_nil)
  (ds_one (ds_ret de_bl))))))
/-! ### script_fits -/
abbrev st_script_fits : Stmt := topS 31
abbrev N_script_fits : List Str := ["script", "members", "have", "wall", "mode", "deed"]
theorem sc_script_fits : FnScope N_script_fits ["script", "members"] (defScope st_script_fits) := ⟨rfl, rfl, rfl, by decide +kernel, rfl, by decide +kernel, by decide +kernel⟩
def d_script_fits : DS := (sSeq (sSet 2 (dNewK))
  (sSeq (sFor (iSeq (dVar 1)) (gTupD 2 (gsCons (gN 3) (gsCons (gN 4) gsNil)))
  (sPutT (dVar 2) (dVar 3) (dVar 4)))
  (sSeq (sFor (iSeq (dVar 0)) (gN 5)
  (sSeq (sIf (bNot (dTst (dCallF f_may_do_with (aCons (dVar 2) (aCons (dVar 5) aNil)))))
  (sRet (dC (.bl false)))
  sNil)
  (sIf (dTst (dBin oEq (dBin oIx (dVar 5) (dC (.int 0))) (dC (.str "leave"))))
  (sExpr (dPopK (dVar 2) (dBin oIx (dVar 5) (dC (.int 1)))))
  sNil)))
  (sRet (dC (.bl true))))))
noncomputable def f_script_fits : Fn := frzF (dFun0 6 d_script_fits)
theorem ok_script_fits {k : Nat} {f : Addr} {fd : FuncData} (F : Fun K "script_fits" "script_fits" st_script_fits f fd) (b : Binds K fd ["script", "members"] []) (m : mg "script_fits" = some (.ref f)) (c_may_do_with : Callee P w K mg base CX0 k "may_do_with" 2 f_may_do_with) : Callee P w K mg base CX0 (k + 1) "script_fits" 2 f_script_fits := by
  have sc := sc_script_fits
  refine Callee.frz ⟨f, fd, ["script", "members"], Fun.okD F sc rfl fun cdv A outer s H E hr => ?_, m, F.kp, b⟩
  exact (ds_cons (ds_set 2 sc.nd de_newK)
  (ds_cons (ds_for PassesOwn.never (by rfl) (di_seq (de_var 1)) (dg_tup (by rfl) (dgs_cons (dg_name 3 sc.nd) (dgs_cons (dg_name 4 sc.nd) dgs_nil)))
  (ds_one (ds_putT (hu1 hr) (de_var 2) (de_var 3) (de_var 4))))
  (ds_cons (ds_for PassesOwn.never (by rfl) (di_seq (de_var 0)) (dg_name 5 sc.nd)
  (ds_cons (ds_if (dt_not (dt_val (de_callC c_may_do_with hr thru0 (an_cons (de_var 2) (an_cons (de_var 5) an_nil)))))
  (ds_one (ds_ret de_bl))
  ds_nil)
  (ds_one (ds_if (dt_cmp (od_eq hr.units) (de_ix xd_ix (de_var 5) de_int (fun _ _ => rfl)) de_str (nomark _))
  (ds_one (ds_expr (de_popK (de_var 2) (de_ix xd_ix (de_var 5) de_int (fun _ _ => rfl)) ⟨by rfl, by rfl, by rfl, by rfl⟩)))
  ds_nil))))
  (ds_one (ds_ret de_bl)))))
/-! ### are_called_well -/
abbrev st_are_called_well : Stmt := topS 32
abbrev N_are_called_well : List Str := ["firsts", "scripts", "called", "deeds", "at", "script", "deed"]
theorem sc_are_called_well : FnScope N_are_called_well ["firsts", "scripts"] (defScope st_are_called_well) := ⟨rfl, rfl, rfl, by decide +kernel, rfl, by decide +kernel, by decide +kernel⟩
noncomputable def d_are_called_well : DS := (sSeq (sSet 2 (dCallN oListN (aCons (dVar 0) aNil)))
  (sSeq (sSet 3 (dC (.int 0)))
  (sSeq (sSet 4 (dC (.int 0)))
  (sSeq (sWhile (dTst (dBin oLt (dVar 4) (dCall oLen (aCons (dVar 2) aNil))))
  (sSeq (sSet 5 (dBin oIx (dVar 1) (dBin oIx (dBin oIx (dVar 2) (dVar 4)) (dC (.int 0)))))
  (sSeq (sSet 3 (dBin oAdd (dVar 3) (dCall oLen (aCons (dVar 5) aNil))))
  (sSeq (sIf (bOr (dTst (dBin oGt (dCall oLen (aCons (dVar 2) aNil)) (dC (.int 60)))) (bOr (dTst (dBin oGt (dVar 3) (dC (.int 1200)))) (bNot (dTst (dCallF f_script_fits (aCons (dVar 5) (aCons (dBin oIx (dBin oIx (dVar 2) (dVar 4)) (dC (.int 1))) aNil)))))))
  (sRet (dC (.bl false)))
  sNil)
  (sSeq (sExpr (dExtend (dVar 2) (dComp (iSeq (dVar 5)) (gN 6) [6] (dTst (dBin oEq (dBin oIx (dVar 6) (dC (.int 0))) (dC (.str "begin")))) (dSl oSl (dVar 6) (oSo (dC (.int 1))) oNo))))
  (sSet 4 (dBin oAdd (dVar 4) (dC (.int 1)))))))))
  (sRet (dC (.bl true)))))))
noncomputable def f_are_called_well : Fn := frzF (dFun0 7 d_are_called_well)
theorem ok_are_called_well {k : Nat} {f : Addr} {fd : FuncData} (F : Fun K "are_called_well" "are_called_well" st_are_called_well f fd) (b : Binds K fd ["firsts", "scripts"] []) (m : mg "are_called_well" = some (.ref f)) (c_script_fits : Callee P w K mg base CX0 k "script_fits" 2 f_script_fits) (m_list : mg "list" = none) (m_len : mg "len" = none) (h_MOST_HANDS : GlobIs K mg "MOST_HANDS" (.int 60)) (h_MOST_IN_ALL : GlobIs K mg "MOST_IN_ALL" (.int 1200)) : Callee P w K mg base CX0 (k + 1) "are_called_well" 2 f_are_called_well := by
  have sc := sc_are_called_well
  refine Callee.frz ⟨f, fd, ["firsts", "scripts"], Fun.okD F sc rfl fun cdv A outer s H E hr => ?_, m, F.kp, b⟩
  exact (ds_cons (ds_set 2 sc.nd (de_callTyN cn_list rfl m_list (by decide +kernel) (da_cons (de_var 0) da_nil)))
  (ds_cons (ds_set 3 sc.nd de_int)
  (ds_cons (ds_set 4 sc.nd de_int)
  (ds_cons (ds_while PassesOwn.never (dt_cmp od_lt (de_var 4) (de_callB cd_len rfl m_len PySem.boot_len (da_cons (de_var 2) da_nil)) (nomark _))
  (ds_cons (ds_set 5 sc.nd (de_ix xd_ix (de_var 1) (de_ix xd_ix (de_ix xd_ix (de_var 2) (de_var 4) (fun _ _ => rfl)) de_int (fun _ _ => rfl)) (fun _ _ => rfl)))
  (ds_cons (ds_set 3 sc.nd (de_bin od_add (de_var 3) (de_callB cd_len rfl m_len PySem.boot_len (da_cons (de_var 5) da_nil))))
  (ds_cons (ds_if (PW.pt (dw_or (dt_cmp od_gt (de_callB cd_len rfl m_len PySem.boot_len (da_cons (de_var 2) da_nil)) (de_globI h_MOST_HANDS) (nomark _)) (dw_or (dt_cmp od_gt (de_var 3) (de_globI h_MOST_IN_ALL) (nomark _)) (dw_or1 (dt_not (dt_val (de_callC c_script_fits hr thru0 (an_cons (de_var 5) (an_cons (de_ix xd_ix (de_ix xd_ix (de_var 2) (de_var 4) (fun _ _ => rfl)) de_int (fun _ _ => rfl)) an_nil)))))))))
  (ds_one (ds_ret de_bl))
  ds_nil)
  (ds_cons (ds_expr (de_extend (pe_bm PySem.F.plainAttrs_list PySem.F.slot_list_extend PySem.F.type_list_extend mt_extend (de_var 2) (pa_cons (de_comp (own := [("deed", 6)]) (by rfl) sc.nd (di_seq (de_var 5)) (blkOk_by (own := [("deed", 6)]) (N := N_are_called_well) (sc := defScope st_are_called_well) (by decide +kernel)) (by decide) (fun _ _ _ _ _ => (dg_name 6 sc.nd)) (fun _ _ _ _ _ => (dts_one (dt_cmp (od_eq hr.units) (de_ix xd_ix (de_var 6) de_int (fun _ _ => rfl)) de_str (nomark _)))) (fun _ _ _ _ _ => (de_slice sd_sl (de_var 6) (do_so de_int) do_no))) pa_nil))))
  (ds_one (ds_set 4 sc.nd (de_bin od_add (de_var 4) de_int))))))))
  (ds_one (ds_ret de_bl))))))
/-! ### is_house -/
abbrev st_is_house : Stmt := topS 33
abbrev N_is_house : List Str := ["thing", "boxes", "walls", "firsts", "scripts", "many", "at", "script", "calling"]
theorem sc_is_house : FnScope N_is_house ["thing"] (defScope st_is_house) := ⟨rfl, rfl, rfl, by decide +kernel, rfl, by decide +kernel, by decide +kernel⟩
noncomputable def d_is_house : DS := (sSeq (sIf (bOr (bNot (dTst (dCall oIsInst (aCons (dVar 0) (aCons (dC (.ty "tuple")) aNil))))) (dTst (dBin oNe (dCall oLen (aCons (dVar 0) aNil)) (dC (.int 4)))))
  (sRet (dC (.bl false)))
  sNil)
  (sSeq (sAsg (dVar 0) (gTupD 4 (gsCons (gN 1) (gsCons (gN 2) (gsCons (gN 3) (gsCons (gN 4) gsNil))))))
  (sSeq (sIf (bOr (bNot (dTst (dCallF f_is_from_to (aCons (dVar 1) (aCons (dC (.int 0)) (aCons (dC (.int 99)) aNil)))))) (bNot (dTst (dCallF f_is_from_to (aCons (dVar 2) (aCons (dC (.int 0)) (aCons (dC (.int 6)) aNil)))))))
  (sRet (dC (.bl false)))
  sNil)
  (sSeq (sIf (bOr (bNot (dTst (dCall oIsInst (aCons (dVar 3) (aCons (dC (.ty "tuple")) aNil))))) (bNot (dTst (dChain oLe oLe (dC (.int 1)) (dCall oLen (aCons (dVar 3) aNil)) (dC (.int 40))))))
  (sRet (dC (.bl false)))
  sNil)
  (sSeq (sIf (bOr (bNot (dTst (dCall oIsInst (aCons (dVar 4) (aCons (dC (.ty "tuple")) aNil))))) (bNot (dTst (dChain oLe oLe (dC (.int 1)) (dCall oLen (aCons (dVar 4) aNil)) (dC (.int 20))))))
  (sRet (dC (.bl false)))
  sNil)
  (sSeq (sSet 5 (dCall oLen (aCons (dVar 4) aNil)))
  (sSeq (sFor (iEnum (dVar 4)) (gTupD 2 (gsCons (gN 6) (gsCons (gN 7) gsNil)))
  (sIf (bNot (dTst (dCallF f_is_script (aCons (dVar 1) (aCons (dVar 2) (aCons (dVar 5) (aCons (dVar 6) (aCons (dVar 7) aNil))))))))
  (sRet (dC (.bl false)))
  sNil))
  (sSeq (sIf (bNot (dTst (dCall oAll (aCons (dComp (iSeq (dVar 3)) (gN 8) [8] bYes (dCallF f_is_calling (aCons (dVar 2) (aCons (dVar 5) (aCons (dVar 8) aNil))))) aNil))))
  (sRet (dC (.bl false)))
  sNil)
  (sRet (dCallF f_are_called_well (aCons (dVar 3) (aCons (dVar 4) aNil))))))))))))
noncomputable def f_is_house : Fn := dFun0 9 d_is_house
theorem ok_is_house {k : Nat} {f : Addr} {fd : FuncData} (F : Fun K "is_house" "is_house" st_is_house f fd) (b : Binds K fd ["thing"] []) (m : mg "is_house" = some (.ref f)) (c_is_from_to : Callee P w K mg base CX0 k "is_from_to" 3 f_is_from_to) (c_is_script : Callee P w K mg base CX0 k "is_script" 5 f_is_script) (c_is_calling : Callee P w K mg base CX0 k "is_calling" 3 f_is_calling) (c_are_called_well : Callee P w K mg base CX0 k "are_called_well" 2 f_are_called_well) (m_isinstance : mg "isinstance" = none) (m_tuple : mg "tuple" = none) (m_len : mg "len" = none) (m_enumerate : mg "enumerate" = none) (m_all : mg "all" = none) (h_MOST_BOXES : GlobIs K mg "MOST_BOXES" (.int 99)) (h_WALLS_AT_MOST : GlobIs K mg "WALLS_AT_MOST" (.int 6)) (h_MOST_FIRSTS : GlobIs K mg "MOST_FIRSTS" (.int 40)) (h_MOST_SCRIPTS : GlobIs K mg "MOST_SCRIPTS" (.int 20)) : Callee P w K mg base CX0 (k + 1) "is_house" 1 f_is_house := by
  have sc := sc_is_house
  refine ⟨f, fd, ["thing"], Fun.okD F sc rfl fun cdv A outer s H E hr => ?_, m, F.kp, b⟩
  exact (ds_cons (ds_if (PW.pt (dw_or (dt_not (dt_val (de_callB cd_isinst rfl m_isinstance (by decide +kernel) (da_cons (de_var 0) (da_cons (de_ty rfl m_tuple (by decide +kernel)) da_nil))))) (dw_or1 (dt_cmp (od_ne hr.units) (de_callB cd_len rfl m_len PySem.boot_len (da_cons (de_var 0) da_nil)) de_int (nomark _)))))
  (ds_one (ds_ret de_bl))
  ds_nil)
  (ds_cons (ds_asg (de_var 0) (dg_tup (by rfl) (dgs_cons (dg_name 1 sc.nd) (dgs_cons (dg_name 2 sc.nd) (dgs_cons (dg_name 3 sc.nd) (dgs_cons (dg_name 4 sc.nd) dgs_nil))))))
  (ds_cons (ds_if (PW.pt (dw_or (dt_not (dt_val (de_callC c_is_from_to hr thru0 (an_cons (de_var 1) (an_cons de_int (an_cons (de_globI h_MOST_BOXES) an_nil)))))) (dw_or1 (dt_not (dt_val (de_callC c_is_from_to hr thru0 (an_cons (de_var 2) (an_cons de_int (an_cons (de_globI h_WALLS_AT_MOST) an_nil)))))))))
  (ds_one (ds_ret de_bl))
  ds_nil)
  (ds_cons (ds_if (PW.pt (dw_or (dt_not (dt_val (de_callB cd_isinst rfl m_isinstance (by decide +kernel) (da_cons (de_var 3) (da_cons (de_ty rfl m_tuple (by decide +kernel)) da_nil))))) (dw_or1 (dt_not (dt_chain od_le od_le de_int (de_callB cd_len rfl m_len PySem.boot_len (da_cons (de_var 3) da_nil)) (de_globI h_MOST_FIRSTS))))))
  (ds_one (ds_ret de_bl))
  ds_nil)
  (ds_cons (ds_if (PW.pt (dw_or (dt_not (dt_val (de_callB cd_isinst rfl m_isinstance (by decide +kernel) (da_cons (de_var 4) (da_cons (de_ty rfl m_tuple (by decide +kernel)) da_nil))))) (dw_or1 (dt_not (dt_chain od_le od_le de_int (de_callB cd_len rfl m_len PySem.boot_len (da_cons (de_var 4) da_nil)) (de_globI h_MOST_SCRIPTS))))))
  (ds_one (ds_ret de_bl))
  ds_nil)
  (ds_cons (ds_set 5 sc.nd (de_callB cd_len rfl m_len PySem.boot_len (da_cons (de_var 4) da_nil)))
  (ds_cons (ds_for PassesOwn.never (by rfl) (di_enum rfl m_enumerate (de_var 4)) (dg_tup (by rfl) (dgs_cons (dg_name 6 sc.nd) (dgs_cons (dg_name 7 sc.nd) dgs_nil)))
  (ds_one (ds_if (dt_not (dt_val (de_callC c_is_script hr thru0 (an_cons (de_var 1) (an_cons (de_var 2) (an_cons (de_var 5) (an_cons (de_var 6) (an_cons (de_var 7) an_nil))))))))
  (ds_one (ds_ret de_bl))
  ds_nil)))
  (ds_cons (ds_if (dt_not (dt_val (de_callB (cd_all (by rfl)) rfl m_all (by decide +kernel) (da_cons (de_comp (own := [("calling", 8)]) (by rfl) sc.nd (di_seq (de_var 3)) (blkOk_by (own := [("calling", 8)]) (N := N_is_house) (sc := defScope st_is_house) (by decide +kernel)) (by decide) (fun _ _ _ _ _ => (dg_name 8 sc.nd)) (fun _ _ _ _ _ => dts_nil) (fun _ _ _ _ _ => (de_callC c_is_calling hr thru0 (an_cons (de_var 2) (an_cons (de_var 5) (an_cons (de_var 8) an_nil)))))) da_nil))))
  (ds_one (ds_ret de_bl))
  ds_nil)
  (ds_one (ds_ret (de_callC c_are_called_well hr thru0 (an_cons (de_var 3) (an_cons (de_var 4) an_nil)))))))))))))
/-! ### need_house -/
abbrev st_need_house : Stmt := topS 34
abbrev N_need_house : List Str := ["thing"]
theorem sc_need_house : FnScope N_need_house ["thing"] (defScope st_need_house) := ⟨rfl, rfl, rfl, by decide +kernel, rfl, by decide +kernel, by decide +kernel⟩
noncomputable def d_need_house : DS := (sIf (bNot (dTst (dCallF f_is_house (aCons (dVar 0) aNil))))
  (sRaise "NoHouse")
  sNil)
noncomputable def f_need_house : Fn := dFun 1 d_need_house
theorem ok_need_house {k : Nat} {f : Addr} {fd : FuncData} (F : Fun K "need_house" "need_house" st_need_house f fd) (b : Binds K fd ["thing"] []) (m : mg "need_house" = some (.ref f)) (c_is_house : Callee P w K mg base CX0 k "is_house" 1 f_is_house) (e_NoHouse : ErrC K mg "NoHouse") : Callee P w K mg base (L2.CX P w) (k + 1) "need_house" 1 f_need_house := by
  have sc := sc_need_house
  refine ⟨f, fd, ["thing"], Fun.okXD F sc rfl fun cdv A outer s H E hr => ?_, m, F.kp, b⟩
  exact (ds_one (ds_if (dt_not (dt_val (de_callC c_is_house hr thru0 (an_cons (de_var 0) an_nil))))
  (ds_one (ds_raise (by rfl) (takes_of rfl rfl rfl rfl) e_NoHouse rfl))
  ds_nil))
/-! ### show_members -/
abbrev st_show_members : Stmt := topS 38
abbrev N_show_members : List Str := ["members", "wall", "mode"]
theorem sc_show_members : FnScope N_show_members ["members"] (defScope st_show_members) := ⟨rfl, rfl, rfl, by decide +kernel, rfl, by decide +kernel, by decide +kernel⟩
def d_show_members : DS := (sRet (dM1 oJoin (dC (.str "")) (dComp (iSeq (dVar 0)) (gTupD 2 (gsCons (gN 1) (gsCons (gN 2) gsNil))) [1, 2] bYes (dBin oAdd (dBin oAdd (dBin oAdd (dC (.str " ")) (dCall oStrC (aCons (dVar 1) aNil))) (dC (.str ":"))) (dVar 2)))))
def f_show_members : Fn := dFun0 3 d_show_members
theorem ok_show_members {k : Nat} {f : Addr} {fd : FuncData} (F : Fun K "show_members" "show_members" st_show_members f fd) (b : Binds K fd ["members"] []) (m : mg "show_members" = some (.ref f)) (m_str : mg "str" = none) : Callee P w K mg base CX0 (k + 1) "show_members" 1 f_show_members := by
  have sc := sc_show_members
  refine ⟨f, fd, ["members"], Fun.okD F sc rfl fun cdv A outer s H E hr => ?_, m, F.kp, b⟩
  exact (ds_one (ds_ret (de_join de_str (de_comp (own := [("wall", 1), ("mode", 2)]) (by rfl) sc.nd (di_seq (de_var 0)) (blkOk_by (own := [("wall", 1), ("mode", 2)]) (N := N_show_members) (sc := defScope st_show_members) (by decide +kernel)) (by decide) (fun _ _ _ _ _ => (dg_tup (by rfl) (dgs_cons (dg_name 1 sc.nd) (dgs_cons (dg_name 2 sc.nd) dgs_nil)))) (fun _ _ _ _ _ => dts_nil) (fun _ _ _ _ _ => (de_bin od_add (de_bin od_add (de_bin od_add de_str (de_callTy cd_str rfl m_str (by decide +kernel) (da_cons (de_var 1) da_nil))) de_str) (de_var 2)))))))
/-! ### show_deed -/
abbrev st_show_deed : Stmt := topS 39
abbrev N_show_deed : List Str := ["deed", "number"]
theorem sc_show_deed : FnScope N_show_deed ["deed"] (defScope st_show_deed) := ⟨rfl, rfl, rfl, by decide +kernel, rfl, by decide +kernel, by decide +kernel⟩
def d_show_deed : DS := (sSeq (sIf (dTst (dBin oEq (dBin oIx (dVar 0) (dC (.int 0))) (dC (.str "begin"))))
  (sRet (dBin oAdd (dBin oAdd (dC (.str "begin ")) (dCall oStrC (aCons (dBin oIx (dVar 0) (dC (.int 1))) aNil))) (dCallF f_show_members (aCons (dBin oIx (dVar 0) (dC (.int 2))) aNil))))
  sNil)
  (sSeq (sIf (dTst (dBin oEq (dBin oIx (dVar 0) (dC (.int 0))) (dC (.str "say"))))
  (sRet (dBin oAdd (dC (.str "say ")) (dBin oIx (dVar 0) (dC (.int 1)))))
  sNil)
  (sRet (dM1 oJoin (dC (.str " ")) (dBin oAdd (dLst (aCons (dBin oIx (dVar 0) (dC (.int 0))) aNil)) (dComp (iSeq (dSl oSl (dVar 0) (oSo (dC (.int 1))) oNo)) (gN 1) [1] bYes (dCall oStrC (aCons (dVar 1) aNil))))))))
noncomputable def f_show_deed : Fn := frzF (dFun0 2 d_show_deed)
theorem ok_show_deed {k : Nat} {f : Addr} {fd : FuncData} (F : Fun K "show_deed" "show_deed" st_show_deed f fd) (b : Binds K fd ["deed"] []) (m : mg "show_deed" = some (.ref f)) (c_show_members : Callee P w K mg base CX0 k "show_members" 1 f_show_members) (m_str : mg "str" = none) : Callee P w K mg base CX0 (k + 1) "show_deed" 1 f_show_deed := by
  have sc := sc_show_deed
  refine Callee.frz ⟨f, fd, ["deed"], Fun.okD F sc rfl fun cdv A outer s H E hr => ?_, m, F.kp, b⟩
  exact (ds_cons (ds_if (dt_cmp (od_eq hr.units) (de_ix xd_ix (de_var 0) de_int (fun _ _ => rfl)) de_str (nomark _))
  (ds_one (ds_ret (de_bin od_add (de_bin od_add de_str (de_callTy cd_str rfl m_str (by decide +kernel) (da_cons (de_ix xd_ix (de_var 0) de_int (fun _ _ => rfl)) da_nil))) (de_callC c_show_members hr thru0 (an_cons (de_ix xd_ix (de_var 0) de_int (fun _ _ => rfl)) an_nil)))))
  ds_nil)
  (ds_cons (ds_if (dt_cmp (od_eq hr.units) (de_ix xd_ix (de_var 0) de_int (fun _ _ => rfl)) de_str (nomark _))
  (ds_one (ds_ret (de_bin od_add de_str (de_ix xd_ix (de_var 0) de_int (fun _ _ => rfl)))))
  ds_nil)
  (ds_one (ds_ret (de_join de_str (de_bin od_add (de_lst (da_cons (de_ix xd_ix (de_var 0) de_int (fun _ _ => rfl)) da_nil)) (de_comp (own := [("number", 1)]) (by rfl) sc.nd (di_seq (de_slice sd_sl (de_var 0) (do_so de_int) do_no)) (blkOk_by (own := [("number", 1)]) (N := N_show_deed) (sc := defScope st_show_deed) (by decide +kernel)) (by decide) (fun _ _ _ _ _ => (dg_name 1 sc.nd)) (fun _ _ _ _ _ => dts_nil) (fun _ _ _ _ _ => (de_callTy cd_str rfl m_str (by decide +kernel) (da_cons (de_var 1) da_nil))))))))))
/-! ### show_house -/
abbrev st_show_house : Stmt := topS 40
abbrev N_show_house : List Str := ["house", "boxes", "walls", "firsts", "scripts", "lines", "script", "members", "deed"]
theorem sc_show_house : FnScope N_show_house ["house"] (defScope st_show_house) := ⟨rfl, rfl, rfl, by decide +kernel, rfl, by decide +kernel, by decide +kernel⟩
noncomputable def d_show_house : DS := (sSeq (sExpr (dCallF f_need_house (aCons (dVar 0) aNil)))
  (sSeq (sAsg (dVar 0) (gTupD 4 (gsCons (gN 1) (gsCons (gN 2) (gsCons (gN 3) (gsCons (gN 4) gsNil))))))
  (sSeq (sSet 5 (dCell (aCons (dBin oAdd (dBin oAdd (dBin oAdd (dC (.str "BOXES ")) (dCall oStrC (aCons (dVar 1) aNil))) (dC (.str " WALLS "))) (dCall oStrC (aCons (dVar 2) aNil))) aNil)))
  (sSeq (sFor (iSeq (dVar 4)) (gN 6)
  (sSeq (sExpr (dAppend (dVar 5) (dC (.str "SCRIPT"))))
  (sExpr (dExtend (dVar 5) (dComp (iSeq (dVar 6)) (gN 8) [8] bYes (dCallF f_show_deed (aCons (dVar 8) aNil)))))))
  (sSeq (sFor (iSeq (dVar 3)) (gTupD 2 (gsCons (gN 6) (gsCons (gN 7) gsNil)))
  (sExpr (dAppend (dVar 5) (dBin oAdd (dBin oAdd (dC (.str "FIRST ")) (dCall oStrC (aCons (dVar 6) aNil))) (dCallF f_show_members (aCons (dVar 7) aNil))))))
  (sRet (dM1 oJoin (dC (.str "\n")) (dVar 5))))))))
noncomputable def f_show_house : Fn := frzF (dFun 9 d_show_house)
theorem ok_show_house {k : Nat} {f : Addr} {fd : FuncData} (F : Fun K "show_house" "show_house" st_show_house f fd) (b : Binds K fd ["house"] []) (m : mg "show_house" = some (.ref f)) (c_need_house : Callee P w K mg base (L2.CX P w) k "need_house" 1 f_need_house) (c_show_deed : Callee P w K mg base CX0 k "show_deed" 1 f_show_deed) (c_show_members : Callee P w K mg base CX0 k "show_members" 1 f_show_members) (m_str : mg "str" = none) : Callee P w K mg base (L2.CX P w) (k + 1) "show_house" 1 f_show_house := by
  have sc := sc_show_house
  refine Callee.frz ⟨f, fd, ["house"], Fun.okXD F sc rfl fun cdv A outer s H E hr => ?_, m, F.kp, b⟩
  exact (ds_cons (ds_expr (de_callC c_need_house hr (thruX (takes_of rfl rfl rfl rfl)) (an_cons (de_var 0) an_nil)))
  (ds_cons (ds_asg (de_var 0) (dg_tup (by rfl) (dgs_cons (dg_name 1 sc.nd) (dgs_cons (dg_name 2 sc.nd) (dgs_cons (dg_name 3 sc.nd) (dgs_cons (dg_name 4 sc.nd) dgs_nil))))))
  (ds_cons (ds_set 5 sc.nd (de_cell (da_cons (de_bin od_add (de_bin od_add (de_bin od_add de_str (de_callTy cd_str rfl m_str (by decide +kernel) (da_cons (de_var 1) da_nil))) de_str) (de_callTy cd_str rfl m_str (by decide +kernel) (da_cons (de_var 2) da_nil))) da_nil)))
  (ds_cons (ds_for (passes_of rfl) (by rfl) (di_seq (de_var 4)) (dg_name 6 sc.nd)
  (ds_cons (ds_expr (de_append (pe_bm PySem.F.plainAttrs_list PySem.F.slot_list_append PySem.F.type_list_append mt_append (de_var 5) (pa_cons de_str pa_nil))))
  (ds_one (ds_expr (de_extend (pe_bm PySem.F.plainAttrs_list PySem.F.slot_list_extend PySem.F.type_list_extend mt_extend (de_var 5) (pa_cons (de_comp (own := [("deed", 8)]) (by rfl) sc.nd (di_seq (de_var 6)) (blkOk_by (own := [("deed", 8)]) (N := N_show_house) (sc := defScope st_show_house) (by decide +kernel)) (by decide) (fun _ _ _ _ _ => (dg_name 8 sc.nd)) (fun _ _ _ _ _ => dts_nil) (fun _ _ _ _ _ => (de_callC c_show_deed hr thru0 (an_cons (de_var 8) an_nil)))) pa_nil)))))))
  (ds_cons (ds_for (passes_of rfl) (by rfl) (di_seq (de_var 3)) (dg_tup (by rfl) (dgs_cons (dg_name 6 sc.nd) (dgs_cons (dg_name 7 sc.nd) dgs_nil)))
  (ds_one (ds_expr (de_append (pe_bm PySem.F.plainAttrs_list PySem.F.slot_list_append PySem.F.type_list_append mt_append (de_var 5) (pa_cons (de_bin od_add (de_bin od_add de_str (de_callTy cd_str rfl m_str (by decide +kernel) (da_cons (de_var 6) da_nil))) (de_callC c_show_members hr thru0 (an_cons (de_var 7) an_nil))) pa_nil))))))
  (ds_one (ds_ret (de_join de_str (de_var 5)))))))))
/-! ### is_figures -/
abbrev st_is_figures : Stmt := topS 41
abbrev N_is_figures : List Str := ["word", "sign"]
theorem sc_is_figures : FnScope N_is_figures ["word"] (defScope st_is_figures) := ⟨rfl, rfl, rfl, by decide +kernel, rfl, by decide +kernel, by decide +kernel⟩
def d_is_figures : DS := (sSeq (sIf (bOr (bNot (dTst (dChain oLe oLe (dC (.int 1)) (dCall oLen (aCons (dVar 0) aNil)) (dC (.int 30))))) (bNot (dTst (dCall oAll (aCons (dComp (iSeq (dVar 0)) (gN 1) [1] bYes (dBin (oIn false) (dVar 1) (dC (.str "0123456789")))) aNil)))))
  (sRet (dC (.bl false)))
  sNil)
  (sRet (dOr (dBin oNe (dBin oIx (dVar 0) (dC (.int 0))) (dC (.str "0"))) (dBin oEq (dVar 0) (dC (.str "0"))))))
def f_is_figures : Fn := dFun0 2 d_is_figures
theorem ok_is_figures {k : Nat} {f : Addr} {fd : FuncData} (F : Fun K "is_figures" "is_figures" st_is_figures f fd) (b : Binds K fd ["word"] []) (m : mg "is_figures" = some (.ref f)) (m_len : mg "len" = none) (m_all : mg "all" = none) (h_MOST_FIGURES : GlobIs K mg "MOST_FIGURES" (.int 30)) (h_FIGURES : GlobIs K mg "FIGURES" (.str "0123456789")) : Callee P w K mg base CX0 (k + 1) "is_figures" 1 f_is_figures := by
  have sc := sc_is_figures
  refine ⟨f, fd, ["word"], Fun.okD F sc rfl fun cdv A outer s H E hr => ?_, m, F.kp, b⟩
  exact (ds_cons (ds_if (PW.pt (dw_or (dt_not (dt_chain od_le od_le de_int (de_callB cd_len rfl m_len PySem.boot_len (da_cons (de_var 0) da_nil)) (de_globI h_MOST_FIGURES))) (dw_or1 (dt_not (dt_val (de_callB (cd_all (by rfl)) rfl m_all (by decide +kernel) (da_cons (de_comp (own := [("sign", 1)]) (by rfl) sc.nd (di_seq (de_var 0)) (blkOk_by (own := [("sign", 1)]) (N := N_is_figures) (sc := defScope st_is_figures) (by decide +kernel)) (by decide) (fun _ _ _ _ _ => (dg_name 1 sc.nd)) (fun _ _ _ _ _ => dts_nil) (fun _ _ _ _ _ => (de_cmp (od_in (hu65 hr)) (de_var 1) (de_globI h_FIGURES) (by rfl)))) da_nil)))))))
  (ds_one (ds_ret de_bl))
  ds_nil)
  (ds_one (ds_ret (de_or (de_cmp (od_ne hr.units) (de_ix xd_ix (de_var 0) de_int (fun _ _ => rfl)) de_str (nomark _)) (de_one (de_cmp (od_eq hr.units) (de_var 0) de_str (nomark _)))))))
/-! ### number_by -/
abbrev st_number_by : Stmt := topS 42
abbrev N_number_by : List Str := ["word"]
theorem sc_number_by : FnScope N_number_by ["word"] (defScope st_number_by) := ⟨rfl, rfl, rfl, by decide +kernel, rfl, by decide +kernel, by decide +kernel⟩
def d_number_by : DS := (sSeq (sIf (bNot (dTst (dCallF f_is_figures (aCons (dVar 0) aNil))))
  (sRaise "NoText")
  sNil)
  (sRet (dCall oIntS (aCons (dVar 0) aNil))))
def f_number_by : Fn := dFun 1 d_number_by
theorem ok_number_by {k : Nat} {f : Addr} {fd : FuncData} (F : Fun K "number_by" "number_by" st_number_by f fd) (b : Binds K fd ["word"] []) (m : mg "number_by" = some (.ref f)) (c_is_figures : Callee P w K mg base CX0 k "is_figures" 1 f_is_figures) (m_int : mg "int" = none) (e_NoText : ErrC K mg "NoText") : Callee P w K mg base (L2.CX P w) (k + 1) "number_by" 1 f_number_by := by
  have sc := sc_number_by
  refine ⟨f, fd, ["word"], Fun.okXD F sc rfl fun cdv A outer s H E hr => ?_, m, F.kp, b⟩
  exact (ds_cons (ds_if (dt_not (dt_val (de_callC c_is_figures hr thru0 (an_cons (de_var 0) an_nil))))
  (ds_one (ds_raise (by rfl) (takes_of rfl rfl rfl rfl) e_NoText rfl))
  ds_nil)
  (ds_one (ds_ret (de_callTy cd_intS rfl m_int (by decide +kernel) (da_cons (de_var 0) da_nil)))))
/-! ### read_members -/
abbrev st_read_members : Stmt := topS 43
abbrev N_read_members : List Str := ["words", "found", "word", "wall", "sign", "mode"]
theorem sc_read_members : FnScope N_read_members ["words"] (defScope st_read_members) := ⟨rfl, rfl, rfl, by decide +kernel, rfl, by decide +kernel, by decide +kernel⟩
def d_read_members : DS := (sSeq (sSet 1 (dCell aNil))
  (sSeq (sFor (iSeq (dVar 0)) (gN 2)
  (sSeq (sAsg (dM1 oPart (dVar 2) (dC (.str ":"))) (gTupD 3 (gsCons (gN 3) (gsCons (gN 4) (gsCons (gN 5) gsNil)))))
  (sSeq (sIf (bOr (dTst (dBin oEq (dVar 4) (dC (.str "")))) (dTst (dInG true ["both", "come", "go"] (dVar 5))))
  (sRaise "NoText")
  sNil)
  (sExpr (dAppend (dVar 1) (dTup (aCons (dCallF f_number_by (aCons (dVar 3) aNil)) (aCons (dVar 5) aNil))))))))
  (sRet (dCall oTuple (aCons (dVar 1) aNil)))))
noncomputable def f_read_members : Fn := frzF (dFun 6 d_read_members)
theorem ok_read_members {k : Nat} {f : Addr} {fd : FuncData} (F : Fun K "read_members" "read_members" st_read_members f fd) (b : Binds K fd ["words"] []) (m : mg "read_members" = some (.ref f)) (c_number_by : Callee P w K mg base (L2.CX P w) k "number_by" 1 f_number_by) (m_tuple : mg "tuple" = none) (h_MODES : GlobT K mg "MODES" ["both", "come", "go"]) (e_NoText : ErrC K mg "NoText") : Callee P w K mg base (L2.CX P w) (k + 1) "read_members" 1 f_read_members := by
  have sc := sc_read_members
  refine Callee.frz ⟨f, fd, ["words"], Fun.okXD F sc rfl fun cdv A outer s H E hr => ?_, m, F.kp, b⟩
  exact (ds_cons (ds_set 1 sc.nd (de_cell da_nil))
  (ds_cons (ds_for (passes_of rfl) (by rfl) (di_seq (de_var 0)) (dg_name 2 sc.nd)
  (ds_cons (ds_asg (de_partition (de_var 2) de_str) (dg_tup (by rfl) (dgs_cons (dg_name 3 sc.nd) (dgs_cons (dg_name 4 sc.nd) (dgs_cons (dg_name 5 sc.nd) dgs_nil)))))
  (ds_cons (ds_if (PW.pt (dw_or (dt_cmp (od_eq hr.units) (de_var 4) de_str (nomark _)) (dw_or1 (dt_notInG h_MODES (de_var 5) rfl (by rfl)))))
  (ds_one (ds_raise (by rfl) (takes_of rfl rfl rfl rfl) e_NoText rfl))
  ds_nil)
  (ds_one (ds_expr (de_append (pe_bm PySem.F.plainAttrs_list PySem.F.slot_list_append PySem.F.type_list_append mt_append (de_var 1) (pa_cons (de_tup (da_cons (de_callC c_number_by hr (thruX (takes_of rfl rfl rfl rfl)) (an_cons (de_var 3) an_nil)) (da_cons (de_var 5) da_nil))) pa_nil))))))))
  (ds_one (ds_ret (de_callTy cd_tuple rfl m_tuple (by decide +kernel) (da_cons (de_var 1) da_nil))))))
/-! ### read_calling -/
abbrev st_read_calling : Stmt := topS 44
abbrev N_read_calling : List Str := ["words"]
theorem sc_read_calling : FnScope N_read_calling ["words"] (defScope st_read_calling) := ⟨rfl, rfl, rfl, by decide +kernel, rfl, by decide +kernel, by decide +kernel⟩
noncomputable def d_read_calling : DS := (sSeq (sIf (dTst (dBin oEqE (dVar 0) (dLst aNil)))
  (sRaise "NoText")
  sNil)
  (sRet (dTup (aCons (dCallF f_number_by (aCons (dBin oIx (dVar 0) (dC (.int 0))) aNil)) (aCons (dCallF f_read_members (aCons (dSl oSl (dVar 0) (oSo (dC (.int 1))) oNo) aNil)) aNil)))))
noncomputable def f_read_calling : Fn := dFun 1 d_read_calling
theorem ok_read_calling {k : Nat} {f : Addr} {fd : FuncData} (F : Fun K "read_calling" "read_calling" st_read_calling f fd) (b : Binds K fd ["words"] []) (m : mg "read_calling" = some (.ref f)) (c_read_members : Callee P w K mg base (L2.CX P w) k "read_members" 1 f_read_members) (c_number_by : Callee P w K mg base (L2.CX P w) k "number_by" 1 f_number_by) (e_NoText : ErrC K mg "NoText") : Callee P w K mg base (L2.CX P w) (k + 1) "read_calling" 1 f_read_calling := by
  have sc := sc_read_calling
  refine ⟨f, fd, ["words"], Fun.okXD F sc rfl fun cdv A outer s H E hr => ?_, m, F.kp, b⟩
  exact (ds_cons (ds_if (dt_cmp (od_eqE (hu65 hr)) (de_var 0) (de_lst da_nil) (nomark _))
  (ds_one (ds_raise (by rfl) (takes_of rfl rfl rfl rfl) e_NoText rfl))
  ds_nil)
  (ds_one (ds_ret (de_tup (da_cons (de_callC c_number_by hr (thruX (takes_of rfl rfl rfl rfl)) (an_cons (de_ix xd_ix (de_var 0) de_int (fun _ _ => rfl)) an_nil)) (da_cons (de_callC c_read_members hr (thruX (takes_of rfl rfl rfl rfl)) (an_cons (de_slice sd_sl (de_var 0) (do_so de_int) do_no) an_nil)) da_nil))))))
/-! ### read_deed -/
abbrev st_read_deed : Stmt := topS 45
abbrev N_read_deed : List Str := ["line", "words", "sign"]
theorem sc_read_deed : FnScope N_read_deed ["line"] (defScope st_read_deed) := ⟨rfl, rfl, rfl, by decide +kernel, rfl, by decide +kernel, by decide +kernel⟩
noncomputable def d_read_deed : DS := (sSeq (sSet 1 (dM1 oSplit (dVar 0) (dC (.str " "))))
  (sSeq (sIf (dTst (dBin oEq (dBin oIx (dVar 1) (dC (.int 0))) (dC (.str "begin"))))
  (sRet (dBin oAdd (dTup (aCons (dC (.str "begin")) aNil)) (dCallF f_read_calling (aCons (dSl oSl (dVar 1) (oSo (dC (.int 1))) oNo) aNil))))
  sNil)
  (sSeq (sIf (bAnd (dTst (dBin oEq (dBin oIx (dVar 1) (dC (.int 0))) (dC (.str "say")))) (bAnd (dTst (dBin oEq (dCall oLen (aCons (dVar 1) aNil)) (dC (.int 2)))) (bAnd (dTst (dBin oNe (dBin oIx (dVar 1) (dC (.int 1))) (dC (.str "")))) (dTst (dCall oAll (aCons (dComp (iSeq (dBin oIx (dVar 1) (dC (.int 1)))) (gN 2) [2] bYes (dBin (oIn false) (dVar 2) (dC (.str "abcdefghijklmnopqrstuvwxyz")))) aNil))))))
  (sRet (dTup (aCons (dC (.str "say")) (aCons (dBin oIx (dVar 1) (dC (.int 1))) aNil))))
  sNil)
  (sSeq (sIf (bAnd (dTst (dBin (oIn false) (dBin oIx (dVar 1) (dC (.int 0))) (dTup (aCons (dC (.str "raise")) (aCons (dC (.str "await")) aNil))))) (dTst (dBin oEq (dCall oLen (aCons (dVar 1) aNil)) (dC (.int 3)))))
  (sRet (dTup (aCons (dBin oIx (dVar 1) (dC (.int 0))) (aCons (dCallF f_number_by (aCons (dBin oIx (dVar 1) (dC (.int 1))) aNil)) (aCons (dCallF f_number_by (aCons (dBin oIx (dVar 1) (dC (.int 2))) aNil)) aNil)))))
  sNil)
  (sSeq (sIf (bAnd (dTst (dBin (oIn false) (dBin oIx (dVar 1) (dC (.int 0))) (dTup (aCons (dC (.str "come")) (aCons (dC (.str "go")) (aCons (dC (.str "leave")) (aCons (dC (.str "work")) aNil))))))) (dTst (dBin oEq (dCall oLen (aCons (dVar 1) aNil)) (dC (.int 2)))))
  (sRet (dTup (aCons (dBin oIx (dVar 1) (dC (.int 0))) (aCons (dCallF f_number_by (aCons (dBin oIx (dVar 1) (dC (.int 1))) aNil)) aNil))))
  sNil)
  (sRaise "NoText"))))))
noncomputable def f_read_deed : Fn := frzF (dFun 3 d_read_deed)
theorem ok_read_deed {k : Nat} {f : Addr} {fd : FuncData} (F : Fun K "read_deed" "read_deed" st_read_deed f fd) (b : Binds K fd ["line"] []) (m : mg "read_deed" = some (.ref f)) (c_read_calling : Callee P w K mg base (L2.CX P w) k "read_calling" 1 f_read_calling) (c_number_by : Callee P w K mg base (L2.CX P w) k "number_by" 1 f_number_by) (m_len : mg "len" = none) (m_all : mg "all" = none) (h_LETTERS : GlobIs K mg "LETTERS" (.str "abcdefghijklmnopqrstuvwxyz")) (e_NoText : ErrC K mg "NoText") : Callee P w K mg base (L2.CX P w) (k + 1) "read_deed" 1 f_read_deed := by
  have sc := sc_read_deed
  refine Callee.frz ⟨f, fd, ["line"], Fun.okXD F sc rfl fun cdv A outer s H E hr => ?_, m, F.kp, b⟩
  exact (ds_cons (ds_set 1 sc.nd (de_split (de_var 0) de_str))
  (ds_cons (ds_if (dt_cmp (od_eq hr.units) (de_ix xd_ix (de_var 1) de_int (fun _ _ => rfl)) de_str (nomark _))
  (ds_one (ds_ret (de_bin od_add (de_tup (da_cons de_str da_nil)) (de_callC c_read_calling hr (thruX (takes_of rfl rfl rfl rfl)) (an_cons (de_slice sd_sl (de_var 1) (do_so de_int) do_no) an_nil)))))
  ds_nil)
  (ds_cons (ds_if (PW.pt (dw_and (dt_cmp (od_eq hr.units) (de_ix xd_ix (de_var 1) de_int (fun _ _ => rfl)) de_str (nomark _)) (dw_and (dt_cmp (od_eq hr.units) (de_callB cd_len rfl m_len PySem.boot_len (da_cons (de_var 1) da_nil)) de_int (nomark _)) (dw_and (dt_cmp (od_ne hr.units) (de_ix xd_ix (de_var 1) de_int (fun _ _ => rfl)) de_str (nomark _)) (dw_and1 (dt_val (de_callB (cd_all (by rfl)) rfl m_all (by decide +kernel) (da_cons (de_comp (own := [("sign", 2)]) (by rfl) sc.nd (di_seq (de_ix xd_ix (de_var 1) de_int (fun _ _ => rfl))) (blkOk_by (own := [("sign", 2)]) (N := N_read_deed) (sc := defScope st_read_deed) (by decide +kernel)) (by decide) (fun _ _ _ _ _ => (dg_name 2 sc.nd)) (fun _ _ _ _ _ => dts_nil) (fun _ _ _ _ _ => (de_cmp (od_in (hu65 hr)) (de_var 2) (de_globI h_LETTERS) (by rfl)))) da_nil))))))))
  (ds_one (ds_ret (de_tup (da_cons de_str (da_cons (de_ix xd_ix (de_var 1) de_int (fun _ _ => rfl)) da_nil)))))
  ds_nil)
  (ds_cons (ds_if (PW.pt (dw_and (dt_cmp (od_in (hu65 hr)) (de_ix xd_ix (de_var 1) de_int (fun _ _ => rfl)) (de_tup (da_cons de_str (da_cons de_str da_nil))) (by rfl)) (dw_and1 (dt_cmp (od_eq hr.units) (de_callB cd_len rfl m_len PySem.boot_len (da_cons (de_var 1) da_nil)) de_int (nomark _)))))
  (ds_one (ds_ret (de_tup (da_cons (de_ix xd_ix (de_var 1) de_int (fun _ _ => rfl)) (da_cons (de_callC c_number_by hr (thruX (takes_of rfl rfl rfl rfl)) (an_cons (de_ix xd_ix (de_var 1) de_int (fun _ _ => rfl)) an_nil)) (da_cons (de_callC c_number_by hr (thruX (takes_of rfl rfl rfl rfl)) (an_cons (de_ix xd_ix (de_var 1) de_int (fun _ _ => rfl)) an_nil)) da_nil))))))
  ds_nil)
  (ds_cons (ds_if (PW.pt (dw_and (dt_cmp (od_in (hu65 hr)) (de_ix xd_ix (de_var 1) de_int (fun _ _ => rfl)) (de_tup (da_cons de_str (da_cons de_str (da_cons de_str (da_cons de_str da_nil))))) (by rfl)) (dw_and1 (dt_cmp (od_eq hr.units) (de_callB cd_len rfl m_len PySem.boot_len (da_cons (de_var 1) da_nil)) de_int (nomark _)))))
  (ds_one (ds_ret (de_tup (da_cons (de_ix xd_ix (de_var 1) de_int (fun _ _ => rfl)) (da_cons (de_callC c_number_by hr (thruX (takes_of rfl rfl rfl rfl)) (an_cons (de_ix xd_ix (de_var 1) de_int (fun _ _ => rfl)) an_nil)) da_nil)))))
  ds_nil)
  (ds_one (ds_raise (by rfl) (takes_of rfl rfl rfl rfl) e_NoText rfl)))))))
/-! ### read_head -/
abbrev st_read_head : Stmt := topS 46
abbrev N_read_head : List Str := ["line", "words"]
theorem sc_read_head : FnScope N_read_head ["line"] (defScope st_read_head) := ⟨rfl, rfl, rfl, by decide +kernel, rfl, by decide +kernel, by decide +kernel⟩
def d_read_head : DS := (sSeq (sSet 1 (dM1 oSplit (dVar 0) (dC (.str " "))))
  (sSeq (sIf (bOr (dTst (dBin oNe (dCall oLen (aCons (dVar 1) aNil)) (dC (.int 4)))) (bOr (dTst (dBin oNe (dBin oIx (dVar 1) (dC (.int 0))) (dC (.str "BOXES")))) (dTst (dBin oNe (dBin oIx (dVar 1) (dC (.int 2))) (dC (.str "WALLS"))))))
  (sRaise "NoText")
  sNil)
  (sRet (dTup (aCons (dCallF f_number_by (aCons (dBin oIx (dVar 1) (dC (.int 1))) aNil)) (aCons (dCallF f_number_by (aCons (dBin oIx (dVar 1) (dC (.int 3))) aNil)) aNil))))))
def f_read_head : Fn := dFun 2 d_read_head
theorem ok_read_head {k : Nat} {f : Addr} {fd : FuncData} (F : Fun K "read_head" "read_head" st_read_head f fd) (b : Binds K fd ["line"] []) (m : mg "read_head" = some (.ref f)) (c_number_by : Callee P w K mg base (L2.CX P w) k "number_by" 1 f_number_by) (m_len : mg "len" = none) (e_NoText : ErrC K mg "NoText") : Callee P w K mg base (L2.CX P w) (k + 1) "read_head" 1 f_read_head := by
  have sc := sc_read_head
  refine ⟨f, fd, ["line"], Fun.okXD F sc rfl fun cdv A outer s H E hr => ?_, m, F.kp, b⟩
  exact (ds_cons (ds_set 1 sc.nd (de_split (de_var 0) de_str))
  (ds_cons (ds_if (PW.pt (dw_or (dt_cmp (od_ne hr.units) (de_callB cd_len rfl m_len PySem.boot_len (da_cons (de_var 1) da_nil)) de_int (nomark _)) (dw_or (dt_cmp (od_ne hr.units) (de_ix xd_ix (de_var 1) de_int (fun _ _ => rfl)) de_str (nomark _)) (dw_or1 (dt_cmp (od_ne hr.units) (de_ix xd_ix (de_var 1) de_int (fun _ _ => rfl)) de_str (nomark _))))))
  (ds_one (ds_raise (by rfl) (takes_of rfl rfl rfl rfl) e_NoText rfl))
  ds_nil)
  (ds_one (ds_ret (de_tup (da_cons (de_callC c_number_by hr (thruX (takes_of rfl rfl rfl rfl)) (an_cons (de_ix xd_ix (de_var 1) de_int (fun _ _ => rfl)) an_nil)) (da_cons (de_callC c_number_by hr (thruX (takes_of rfl rfl rfl rfl)) (an_cons (de_ix xd_ix (de_var 1) de_int (fun _ _ => rfl)) an_nil)) da_nil)))))))
/-! ### read_house -/
abbrev st_read_house : Stmt := topS 47
abbrev N_read_house : List Str := ["text", "lines", "boxes", "walls", "scripts", "firsts", "line", "house", "script"]
theorem sc_read_house : FnScope N_read_house ["text"] (defScope st_read_house) := ⟨rfl, rfl, rfl, by decide +kernel, rfl, by decide +kernel, by decide +kernel⟩
noncomputable def d_read_house : DS := (sSeq (sSet 1 (dM1 oSplit (dVar 0) (dC (.str "\n"))))
  (sSeq (sAsg (dCallF f_read_head (aCons (dBin oIx (dVar 1) (dC (.int 0))) aNil)) (gTupD 2 (gsCons (gN 2) (gsCons (gN 3) gsNil))))
  (sSeq (sSet 4 (dCell aNil))
  (sSeq (sSet 5 (dCell aNil))
  (sSeq (sFor (iSeq (dSl oSl (dVar 1) (oSo (dC (.int 1))) oNo)) (gN 6)
  (sIf (dTst (dBin oEq (dSl oSlS (dVar 6) oNo (oSo (dC (.int 6)))) (dC (.str "FIRST "))))
  (sExpr (dAppend (dVar 5) (dCallF f_read_calling (aCons (dSl oSl (dM1 oSplit (dVar 6) (dC (.str " "))) (oSo (dC (.int 1))) oNo) aNil))))
  (sIf (dTst (dBin oNeE (dVar 5) (dLst aNil)))
  (sRaise "NoText")
  (sIf (dTst (dBin oEq (dVar 6) (dC (.str "SCRIPT"))))
  (sExpr (dAppend (dVar 4) (dCell aNil)))
  (sIf (dTst (dBin oEqE (dVar 4) (dLst aNil)))
  (sRaise "NoText")
  (sExpr (dAppend (dBin oIx (dVar 4) (dUn oNeg (dC (.int 1)))) (dCallF f_read_deed (aCons (dVar 6) aNil)))))))))
  (sSeq (sSet 7 (dTup (aCons (dVar 2) (aCons (dVar 3) (aCons (dCall oTuple (aCons (dVar 5) aNil)) (aCons (dCall oTuple (aCons (dCompC (dVar 4) (gN 8) [8] bYes (dCall oTuple (aCons (dVar 8) aNil))) aNil)) aNil))))))
  (sSeq (sIf (bNot (dTst (dCallF f_is_house (aCons (dVar 7) aNil))))
  (sRaise "NoHouse")
  sNil)
  (sRet (dVar 7)))))))))
noncomputable def f_read_house : Fn := frzF (dFun 9 d_read_house)
theorem ok_read_house {k : Nat} {f : Addr} {fd : FuncData} (F : Fun K "read_house" "read_house" st_read_house f fd) (b : Binds K fd ["text"] []) (m : mg "read_house" = some (.ref f)) (c_read_head : Callee P w K mg base (L2.CX P w) k "read_head" 1 f_read_head) (c_read_calling : Callee P w K mg base (L2.CX P w) k "read_calling" 1 f_read_calling) (c_read_deed : Callee P w K mg base (L2.CX P w) k "read_deed" 1 f_read_deed) (c_is_house : Callee P w K mg base CX0 k "is_house" 1 f_is_house) (m_tuple : mg "tuple" = none) (e_NoText : ErrC K mg "NoText") (e_NoHouse : ErrC K mg "NoHouse") : Callee P w K mg base (L2.CX P w) (k + 1) "read_house" 1 f_read_house := by
  have sc := sc_read_house
  refine Callee.frz ⟨f, fd, ["text"], Fun.okXD F sc rfl fun cdv A outer s H E hr => ?_, m, F.kp, b⟩
  exact (ds_cons (ds_set 1 sc.nd (de_split (de_var 0) de_str))
  (ds_cons (ds_asg (de_callC c_read_head hr (thruX (takes_of rfl rfl rfl rfl)) (an_cons (de_ix xd_ix (de_var 1) de_int (fun _ _ => rfl)) an_nil)) (dg_tup (by rfl) (dgs_cons (dg_name 2 sc.nd) (dgs_cons (dg_name 3 sc.nd) dgs_nil))))
  (ds_cons (ds_set 4 sc.nd (de_cell da_nil))
  (ds_cons (ds_set 5 sc.nd (de_cell da_nil))
  (ds_cons (ds_for (passes_of rfl) (by rfl) (di_seq (de_slice sd_sl (de_var 1) (do_so de_int) do_no)) (dg_name 6 sc.nd)
  (ds_one (ds_if (dt_cmp (od_eq hr.units) (de_slice sd_txt (de_var 6) do_no (do_so de_int)) de_str (nomark _))
  (ds_one (ds_expr (de_append (pe_bm PySem.F.plainAttrs_list PySem.F.slot_list_append PySem.F.type_list_append mt_append (de_var 5) (pa_cons (de_callC c_read_calling hr (thruX (takes_of rfl rfl rfl rfl)) (an_cons (de_slice sd_sl (de_split (de_var 6) de_str) (do_so de_int) do_no) an_nil)) pa_nil)))))
  (ds_one (ds_if (dt_cmp (od_neE (hu65 hr)) (de_var 5) (de_lst da_nil) (nomark _))
  (ds_one (ds_raise (by rfl) (takes_of rfl rfl rfl rfl) e_NoText rfl))
  (ds_one (ds_if (dt_cmp (od_eq hr.units) (de_var 6) de_str (nomark _))
  (ds_one (ds_expr (de_append (pe_bm PySem.F.plainAttrs_list PySem.F.slot_list_append PySem.F.type_list_append mt_append (de_var 4) (pa_cons (de_cell da_nil) pa_nil)))))
  (ds_one (ds_if (dt_cmp (od_eqE (hu65 hr)) (de_var 4) (de_lst da_nil) (nomark _))
  (ds_one (ds_raise (by rfl) (takes_of rfl rfl rfl rfl) e_NoText rfl))
  (ds_one (ds_expr (de_append (pe_bm PySem.F.plainAttrs_list PySem.F.slot_list_append PySem.F.type_list_append mt_append (de_ix xd_ix (de_var 4) (de_un ud_neg de_int) (fun _ _ => rfl)) (pa_cons (de_callC c_read_deed hr (thruX (takes_of rfl rfl rfl rfl)) (an_cons (de_var 6) an_nil)) pa_nil))))))))))))))
  (ds_cons (ds_set 7 sc.nd (de_tup (da_cons (de_var 2) (da_cons (de_var 3) (da_cons (de_callTy cd_tuple rfl m_tuple (by decide +kernel) (da_cons (de_var 5) da_nil)) (da_cons (de_callTy cd_tuple rfl m_tuple (by decide +kernel) (da_cons (de_compC (own := [("script", 8)]) (by rfl) sc.nd (de_var 4) (blkOk_by (own := [("script", 8)]) (N := N_read_house) (sc := defScope st_read_house) (by decide +kernel)) (by decide) (fun _ _ _ _ _ => (dg_name 8 sc.nd)) (fun _ _ _ _ _ => dts_nil) (fun _ _ _ _ _ => (de_callTy cd_tuple rfl m_tuple (by decide +kernel) (da_cons (de_var 8) da_nil)))) da_nil)) da_nil))))))
  (ds_cons (ds_if (dt_not (dt_val (de_callC c_is_house hr thru0 (an_cons (de_var 7) an_nil))))
  (ds_one (ds_raise (by rfl) (takes_of rfl rfl rfl rfl) e_NoHouse rfl))
  ds_nil)
  (ds_one (ds_ret (de_var 7))))))))))
/-! ### _law_e_mixed -/
abbrev st__law_e_mixed : Stmt := topS 49
abbrev N__law_e_mixed : List Str := ["cell", "place", "one", "two", "more"]
theorem sc__law_e_mixed : FnScope N__law_e_mixed ["cell", "place"] (defScope st__law_e_mixed) := ⟨rfl, rfl, rfl, by decide +kernel, rfl, by decide +kernel, by decide +kernel⟩
def d__law_e_mixed : DS := (sSeq (sIf (dTst (dBin oGe (dVar 0) (dBin oPow (dC (.int 10)) (dC (.int 18)))))
  (sRet (dVar 0))
  sNil)
  (sSeq (sSet 2 (dBin oMod (dBin oAdd (dBin oAdd (dBin oMul (dBin oMod (dVar 0) (dC (.int 1000000009))) (dC (.int 75353))) (dBin oMul (dVar 1) (dC (.int 4099)))) (dC (.int 17))) (dC (.int 1999999973))))
  (sSeq (sSet 3 (dBin oMod (dBin oAdd (dBin oAdd (dBin oAdd (dBin oMul (dVar 2) (dVar 2)) (dBin oMul (dC (.int 8191)) (dVar 2))) (dBin oMul (dC (.int 3)) (dVar 1))) (dC (.int 1))) (dC (.int 2147483549))))
  (sSeq (sSet 4 (dBin oMod (dBin oAdd (dBin oAdd (dBin oMul (dVar 3) (dVar 3)) (dBin oMul (dC (.int 127)) (dVar 1))) (dVar 2)) (dC (.int 2147483497))))
  (sRet (dBin oAdd (dBin oMul (dVar 3) (dC (.int 2147483497))) (dVar 4)))))))
def f__law_e_mixed : Fn := dFun0 5 d__law_e_mixed
theorem ok__law_e_mixed {k : Nat} {f : Addr} {fd : FuncData} (F : Fun K "_law_e_mixed" "_law_e_mixed" st__law_e_mixed f fd) (b : Binds K fd ["cell", "place"] []) (m : mg "_law_e_mixed" = some (.ref f)) : Callee P w K mg base CX0 (k + 1) "_law_e_mixed" 2 f__law_e_mixed := by
  have sc := sc__law_e_mixed
  refine ⟨f, fd, ["cell", "place"], Fun.okD F sc rfl fun cdv A outer s H E hr => ?_, m, F.kp, b⟩
  exact (ds_cons (ds_if (dt_cmp od_ge (de_var 0) (de_bin od_pow de_int de_int) (nomark _))
  (ds_one (ds_ret (de_var 0)))
  ds_nil)
  (ds_cons (ds_set 2 sc.nd (de_bin od_mod (de_bin od_add (de_bin od_add (de_bin od_mul (de_bin od_mod (de_var 0) de_int) de_int) (de_bin od_mul (de_var 1) de_int)) de_int) de_int))
  (ds_cons (ds_set 3 sc.nd (de_bin od_mod (de_bin od_add (de_bin od_add (de_bin od_add (de_bin od_mul (de_var 2) (de_var 2)) (de_bin od_mul de_int (de_var 2))) (de_bin od_mul de_int (de_var 1))) de_int) de_int))
  (ds_cons (ds_set 4 sc.nd (de_bin od_mod (de_bin od_add (de_bin od_add (de_bin od_mul (de_var 3) (de_var 3)) (de_bin od_mul de_int (de_var 1))) (de_var 2)) de_int))
  (ds_one (ds_ret (de_bin od_add (de_bin od_mul (de_var 3) de_int) (de_var 4))))))))
/-! ### _law_e_pick -/
abbrev st__law_e_pick : Stmt := topS 50
abbrev N__law_e_pick : List Str := ["deck", "many", "place", "cell", "picked"]
theorem sc__law_e_pick : FnScope N__law_e_pick ["deck", "many"] (defScope st__law_e_pick) := ⟨rfl, rfl, rfl, by decide +kernel, rfl, by decide +kernel, by decide +kernel⟩
def d__law_e_pick : DS := (sSeq (sIf (dTst (dBin oLt (dBin oIx (dVar 0) (dC (.int 2))) (dVar 1)))
  (sSeq (sSet 2 (dBin oIx (dVar 0) (dC (.int 1))))
  (sSeq (sSet 3 (dBin oMul (dC (.int 7)) (dVar 2)))
  (sSeq (sIf (dTst (dBin oLt (dVar 2) (dCall oLen (aCons (dBin oIx (dVar 0) (dC (.int 0))) aNil))))
  (sSet 3 (dBin oIx (dBin oIx (dVar 0) (dC (.int 0))) (dVar 2)))
  (sIf (dTst (dBin oGt (dCall oLen (aCons (dBin oIx (dVar 0) (dC (.int 0))) aNil)) (dC (.int 0))))
  (sSet 3 (dBin oAdd (dBin oMod (dBin oIx (dBin oIx (dVar 0) (dC (.int 0))) (dBin oMod (dBin oMul (dVar 2) (dC (.int 11))) (dCall oLen (aCons (dBin oIx (dVar 0) (dC (.int 0))) aNil)))) (dC (.int 999999937))) (dBin oMul (dVar 2) (dC (.int 3000000)))))
  sNil))
  (sSeq (sPutL (dVar 0) (dC (.int 1)) (dBin oAdd (dVar 2) (dC (.int 1))))
  (sPutL (dVar 0) (dC (.int 2)) (dCallF f__law_e_mixed (aCons (dVar 3) (aCons (dVar 2) aNil))))))))
  sNil)
  (sSeq (sSet 4 (dBin oMod (dBin oIx (dVar 0) (dC (.int 2))) (dVar 1)))
  (sSeq (sPutL (dVar 0) (dC (.int 2)) (dBin oDiv (dBin oIx (dVar 0) (dC (.int 2))) (dVar 1)))
  (sRet (dVar 4)))))
def f__law_e_pick : Fn := dFun0 5 d__law_e_pick
theorem ok__law_e_pick {k : Nat} {f : Addr} {fd : FuncData} (F : Fun K "_law_e_pick" "_law_e_pick" st__law_e_pick f fd) (b : Binds K fd ["deck", "many"] []) (m : mg "_law_e_pick" = some (.ref f)) (c__law_e_mixed : Callee P w K mg base CX0 k "_law_e_mixed" 2 f__law_e_mixed) (m_len : mg "len" = none) : Callee P w K mg base CX0 (k + 1) "_law_e_pick" 2 f__law_e_pick := by
  have sc := sc__law_e_pick
  refine ⟨f, fd, ["deck", "many"], Fun.okD F sc rfl fun cdv A outer s H E hr => ?_, m, F.kp, b⟩
  exact (ds_cons (ds_if (dt_cmp od_lt (de_ix xd_ix (de_var 0) de_int (fun _ _ => rfl)) (de_var 1) (nomark _))
  (ds_cons (ds_set 2 sc.nd (de_ix xd_ix (de_var 0) de_int (fun _ _ => rfl)))
  (ds_cons (ds_set 3 sc.nd (de_bin od_mul de_int (de_var 2)))
  (ds_cons (ds_if (dt_cmp od_lt (de_var 2) (de_callB cd_len rfl m_len PySem.boot_len (da_cons (de_ix xd_ix (de_var 0) de_int (fun _ _ => rfl)) da_nil)) (nomark _))
  (ds_one (ds_set 3 sc.nd (de_ix xd_ix (de_ix xd_ix (de_var 0) de_int (fun _ _ => rfl)) (de_var 2) (fun _ _ => rfl))))
  (ds_one (ds_if (dt_cmp od_gt (de_callB cd_len rfl m_len PySem.boot_len (da_cons (de_ix xd_ix (de_var 0) de_int (fun _ _ => rfl)) da_nil)) de_int (nomark _))
  (ds_one (ds_set 3 sc.nd (de_bin od_add (de_bin od_mod (de_ix xd_ix (de_ix xd_ix (de_var 0) de_int (fun _ _ => rfl)) (de_bin od_mod (de_bin od_mul (de_var 2) de_int) (de_callB cd_len rfl m_len PySem.boot_len (da_cons (de_ix xd_ix (de_var 0) de_int (fun _ _ => rfl)) da_nil))) (fun _ _ => rfl)) de_int) (de_bin od_mul (de_var 2) de_int))))
  ds_nil)))
  (ds_cons (ds_putL (de_var 0) de_int (de_bin od_add (de_var 2) de_int))
  (ds_one (ds_putL (de_var 0) de_int (de_callC c__law_e_mixed hr thru0 (an_cons (de_var 3) (an_cons (de_var 2) an_nil)))))))))
  ds_nil)
  (ds_cons (ds_set 4 sc.nd (de_bin od_mod (de_ix xd_ix (de_var 0) de_int (fun _ _ => rfl)) (de_var 1)))
  (ds_cons (ds_putL (de_var 0) de_int (de_bin od_div (de_ix xd_ix (de_var 0) de_int (fun _ _ => rfl)) (de_var 1)))
  (ds_one (ds_ret (de_var 4))))))
/-! ### _law_e_may_call -/
abbrev st__law_e_may_call : Stmt := topS 51
abbrev N__law_e_may_call : List Str := ["have", "called", "place", "mode"]
theorem sc__law_e_may_call : FnScope N__law_e_may_call ["have", "called"] (defScope st__law_e_may_call) := ⟨rfl, rfl, rfl, by decide +kernel, rfl, by decide +kernel, by decide +kernel⟩
noncomputable def d__law_e_may_call : DS := (sSeq (sForT (dVar 1) (gTupD 2 (gsCons (gN 2) (gsCons (gN 3) gsNil)))
  (sIf (bOr (dTst (dBin (oInT true) (dVar 2) (dVar 0))) (dTst (dBin (oIn true) (dBin oGetT (dVar 0) (dVar 2)) (dTup (aCons (dVar 3) (aCons (dC (.str "both")) aNil))))))
  (sRet (dC (.bl false)))
  sNil))
  (sRet (dC (.bl true))))
noncomputable def f__law_e_may_call : Fn := dFun0 4 d__law_e_may_call
theorem ok__law_e_may_call {k : Nat} {f : Addr} {fd : FuncData} (F : Fun K "_law_e_may_call" "_law_e_may_call" st__law_e_may_call f fd) (b : Binds K fd ["have", "called"] []) (m : mg "_law_e_may_call" = some (.ref f)) : Callee P w K mg base CX0 (k + 1) "_law_e_may_call" 2 f__law_e_may_call := by
  have sc := sc__law_e_may_call
  refine ⟨f, fd, ["have", "called"], Fun.okD F sc rfl fun cdv A outer s H E hr => ?_, m, F.kp, b⟩
  exact (ds_cons (ds_forT PassesOwn.never (by rfl) (de_var 1) (dg_tup (by rfl) (dgs_cons (dg_name 2 sc.nd) (dgs_cons (dg_name 3 sc.nd) dgs_nil)))
  (ds_one (ds_if (PW.pt (dw_or (dt_cmp (od_notInT (hu1 hr)) (de_var 2) (de_var 0) (by rfl)) (dw_or1 (dt_cmp (od_notIn (hu65 hr)) (de_getT (hu1 hr) (de_var 0) (de_var 2) (fun _ _ => rfl)) (de_tup (da_cons (de_var 3) (da_cons de_str da_nil))) (by rfl)))))
  (ds_one (ds_ret de_bl))
  ds_nil)))
  (ds_one (ds_ret de_bl)))
/-! ### _law_e_house_deed -/
abbrev st__law_e_house_deed : Stmt := topS 52
abbrev N__law_e_house_deed : List Str := ["deck", "boxes", "have", "later", "way", "had", "place", "some", "at", "fit"]
theorem sc__law_e_house_deed : FnScope N__law_e_house_deed ["deck", "boxes", "have", "later"] (defScope st__law_e_house_deed) := ⟨rfl, rfl, rfl, by decide +kernel, rfl, by decide +kernel, by decide +kernel⟩
noncomputable def d__law_e_house_deed : DS := (sSeq (sSet 4 (dCallF f__law_e_pick (aCons (dVar 0) (aCons (dC (.int 10)) aNil))))
  (sSeq (sSet 5 (dCall oSortK (aCons (dVar 2) aNil)))
  (sSeq (sIf (bAnd (dTst (dBin oLt (dVar 4) (dC (.int 2)))) (dTst (dBin oGt (dVar 1) (dC (.int 0)))))
  (sRet (dTup (aCons (dC (.str "raise")) (aCons (dCallF f__law_e_pick (aCons (dVar 0) (aCons (dVar 1) aNil))) (aCons (dBin oIx (dLst (aCons (dC (.int 1)) (aCons (dC (.int 1)) (aCons (dC (.int 2)) (aCons (dC (.int 99)) aNil))))) (dCallF f__law_e_pick (aCons (dVar 0) (aCons (dC (.int 4)) aNil)))) aNil)))))
  sNil)
  (sSeq (sIf (bAnd (dTst (dBin oLt (dVar 4) (dC (.int 4)))) (dTst (dBin oGt (dVar 1) (dC (.int 0)))))
  (sRet (dTup (aCons (dC (.str "await")) (aCons (dCallF f__law_e_pick (aCons (dVar 0) (aCons (dVar 1) aNil))) (aCons (dBin oIx (dLst (aCons (dC (.int 1)) (aCons (dC (.int 1)) (aCons (dC (.int 2)) (aCons (dC (.int 3)) (aCons (dC (.int 99)) (aCons (dC (.int 9999)) aNil))))))) (dCallF f__law_e_pick (aCons (dVar 0) (aCons (dC (.int 6)) aNil)))) aNil)))))
  sNil)
  (sSeq (sIf (bAnd (dTst (dBin oLt (dVar 4) (dC (.int 7)))) (dTst (dBin oNe (dVar 5) (dLst aNil))))
  (sSeq (sSet 6 (dBin oIx (dVar 5) (dCallF f__law_e_pick (aCons (dVar 0) (aCons (dCall oLen (aCons (dVar 5) aNil)) aNil)))))
  (sSeq (sSet 7 (dLst (aCons (dC (.str "leave")) aNil)))
  (sSeq (sIf (dTst (dBin oNe (dBin oGetT (dVar 2) (dVar 6)) (dC (.str "go"))))
  (sSet 7 (dBin oAdd (dVar 7) (dLst (aCons (dC (.str "come")) (aCons (dC (.str "come")) aNil)))))
  sNil)
  (sSeq (sIf (dTst (dBin oNe (dBin oGetT (dVar 2) (dVar 6)) (dC (.str "come"))))
  (sSet 7 (dBin oAdd (dVar 7) (dLst (aCons (dC (.str "go")) (aCons (dC (.str "go")) aNil)))))
  sNil)
  (sRet (dTup (aCons (dBin oIx (dVar 7) (dCallF f__law_e_pick (aCons (dVar 0) (aCons (dCall oLen (aCons (dVar 7) aNil)) aNil)))) (aCons (dVar 6) aNil))))))))
  sNil)
  (sSeq (sSet 9 (dComp (iSeq (dCall oSortK (aCons (dVar 3) aNil))) (gN 8) [8] (dTst (dCallF f__law_e_may_call (aCons (dVar 2) (aCons (dBin oGetT (dVar 3) (dVar 8)) aNil)))) (dVar 8)))
  (sSeq (sIf (bAnd (dTst (dBin oEq (dVar 4) (dC (.int 7)))) (dTst (dBin oNe (dVar 9) (dLst aNil))))
  (sSeq (sSet 8 (dBin oIx (dVar 9) (dCallF f__law_e_pick (aCons (dVar 0) (aCons (dCall oLen (aCons (dVar 9) aNil)) aNil)))))
  (sRet (dTup (aCons (dC (.str "begin")) (aCons (dVar 8) (aCons (dBin oGetT (dVar 3) (dVar 8)) aNil))))))
  sNil)
  (sSeq (sIf (dTst (dBin oEq (dVar 4) (dC (.int 8))))
  (sRet (dTup (aCons (dC (.str "say")) (aCons (dBin oIx (dLst (aCons (dC (.str "a")) (aCons (dC (.str "come")) (aCons (dC (.str "go")) (aCons (dC (.str "zzzzzzzz")) aNil))))) (dCallF f__law_e_pick (aCons (dVar 0) (aCons (dC (.int 4)) aNil)))) aNil))))
  sNil)
  (sRet (dTup (aCons (dC (.str "work")) (aCons (dBin oIx (dLst (aCons (dC (.int 0)) (aCons (dC (.int 1)) (aCons (dC (.int 7)) (aCons (dC (.int 999)) aNil))))) (dCallF f__law_e_pick (aCons (dVar 0) (aCons (dC (.int 4)) aNil)))) aNil))))))))))))
noncomputable def f__law_e_house_deed : Fn := dFun0 10 d__law_e_house_deed
theorem ok__law_e_house_deed {k : Nat} {f : Addr} {fd : FuncData} (F : Fun K "_law_e_house_deed" "_law_e_house_deed" st__law_e_house_deed f fd) (b : Binds K fd ["deck", "boxes", "have", "later"] []) (m : mg "_law_e_house_deed" = some (.ref f)) (c__law_e_pick : Callee P w K mg base CX0 k "_law_e_pick" 2 f__law_e_pick) (c__law_e_may_call : Callee P w K mg base CX0 k "_law_e_may_call" 2 f__law_e_may_call) (m_sorted : mg "sorted" = none) (m_len : mg "len" = none) : Callee P w K mg base CX0 (k + 1) "_law_e_house_deed" 4 f__law_e_house_deed := by
  have sc := sc__law_e_house_deed
  refine ⟨f, fd, ["deck", "boxes", "have", "later"], Fun.okD F sc rfl fun cdv A outer s H E hr => ?_, m, F.kp, b⟩
  exact (ds_cons (ds_set 4 sc.nd (de_callC c__law_e_pick hr thru0 (an_cons (de_var 0) (an_cons de_int an_nil))))
  (ds_cons (ds_set 5 sc.nd (de_callB (cd_sortK (by rfl)) rfl m_sorted (by decide +kernel) (da_cons (de_var 2) da_nil)))
  (ds_cons (ds_if (PW.pt (dw_and (dt_cmp od_lt (de_var 4) de_int (nomark _)) (dw_and1 (dt_cmp od_gt (de_var 1) de_int (nomark _)))))
  (ds_one (ds_ret (de_tup (da_cons de_str (da_cons (de_callC c__law_e_pick hr thru0 (an_cons (de_var 0) (an_cons (de_var 1) an_nil))) (da_cons (de_ix xd_ix (de_lst (da_cons de_int (da_cons de_int (da_cons de_int (da_cons de_int da_nil))))) (de_callC c__law_e_pick hr thru0 (an_cons (de_var 0) (an_cons de_int an_nil))) (fun _ _ => rfl)) da_nil))))))
  ds_nil)
  (ds_cons (ds_if (PW.pt (dw_and (dt_cmp od_lt (de_var 4) de_int (nomark _)) (dw_and1 (dt_cmp od_gt (de_var 1) de_int (nomark _)))))
  (ds_one (ds_ret (de_tup (da_cons de_str (da_cons (de_callC c__law_e_pick hr thru0 (an_cons (de_var 0) (an_cons (de_var 1) an_nil))) (da_cons (de_ix xd_ix (de_lst (da_cons de_int (da_cons de_int (da_cons de_int (da_cons de_int (da_cons de_int (da_cons de_int da_nil))))))) (de_callC c__law_e_pick hr thru0 (an_cons (de_var 0) (an_cons de_int an_nil))) (fun _ _ => rfl)) da_nil))))))
  ds_nil)
  (ds_cons (ds_if (PW.pt (dw_and (dt_cmp od_lt (de_var 4) de_int (nomark _)) (dw_and1 (dt_cmp (od_ne hr.units) (de_var 5) (de_lst da_nil) (nomark _)))))
  (ds_cons (ds_set 6 sc.nd (de_ix xd_ix (de_var 5) (de_callC c__law_e_pick hr thru0 (an_cons (de_var 0) (an_cons (de_callB cd_len rfl m_len PySem.boot_len (da_cons (de_var 5) da_nil)) an_nil))) (fun _ _ => rfl)))
  (ds_cons (ds_set 7 sc.nd (de_lst (da_cons de_str da_nil)))
  (ds_cons (ds_if (dt_cmp (od_ne hr.units) (de_getT (hu1 hr) (de_var 2) (de_var 6) (fun _ _ => rfl)) de_str (nomark _))
  (ds_one (ds_set 7 sc.nd (de_bin od_add (de_var 7) (de_lst (da_cons de_str (da_cons de_str da_nil))))))
  ds_nil)
  (ds_cons (ds_if (dt_cmp (od_ne hr.units) (de_getT (hu1 hr) (de_var 2) (de_var 6) (fun _ _ => rfl)) de_str (nomark _))
  (ds_one (ds_set 7 sc.nd (de_bin od_add (de_var 7) (de_lst (da_cons de_str (da_cons de_str da_nil))))))
  ds_nil)
  (ds_one (ds_ret (de_tup (da_cons (de_ix xd_ix (de_var 7) (de_callC c__law_e_pick hr thru0 (an_cons (de_var 0) (an_cons (de_callB cd_len rfl m_len PySem.boot_len (da_cons (de_var 7) da_nil)) an_nil))) (fun _ _ => rfl)) (da_cons (de_var 6) da_nil)))))))))
  ds_nil)
  (ds_cons (ds_setLc (own := [("at", 8)]) 9 (by rfl) sc.nd (sw_true rfl rfl rfl (by decide +kernel)) (di_seq (de_callB (cd_sortK (by rfl)) rfl m_sorted (by decide +kernel) (da_cons (de_var 3) da_nil))) (blkOk_by (own := [("at", 8)]) (N := N__law_e_house_deed) (sc := defScope st__law_e_house_deed) (by decide +kernel)) (by decide) (fun _ _ _ _ _ => (dg_name 8 sc.nd)) (fun _ _ _ _ _ => (dts_one (dt_val (de_callC c__law_e_may_call hr thru0 (an_cons (de_var 2) (an_cons (de_getT (hu1 hr) (de_var 3) (de_var 8) (fun _ _ => rfl)) an_nil)))))) (fun _ _ _ _ _ => (de_var 8)))
  (ds_cons (ds_if (PW.pt (dw_and (dt_cmp (od_eq hr.units) (de_var 4) de_int (nomark _)) (dw_and1 (dt_cmp (od_ne hr.units) (de_var 9) (de_lst da_nil) (nomark _)))))
  (ds_cons (ds_set 8 sc.nd (de_ix xd_ix (de_var 9) (de_callC c__law_e_pick hr thru0 (an_cons (de_var 0) (an_cons (de_callB cd_len rfl m_len PySem.boot_len (da_cons (de_var 9) da_nil)) an_nil))) (fun _ _ => rfl)))
  (ds_one (ds_ret (de_tup (da_cons de_str (da_cons (de_var 8) (da_cons (de_getT (hu1 hr) (de_var 3) (de_var 8) (fun _ _ => rfl)) da_nil)))))))
  ds_nil)
  (ds_cons (ds_if (dt_cmp (od_eq hr.units) (de_var 4) de_int (nomark _))
  (ds_one (ds_ret (de_tup (da_cons de_str (da_cons (de_ix xd_ix (de_lst (da_cons de_str (da_cons de_str (da_cons de_str (da_cons de_str da_nil))))) (de_callC c__law_e_pick hr thru0 (an_cons (de_var 0) (an_cons de_int an_nil))) (fun _ _ => rfl)) da_nil)))))
  ds_nil)
  (ds_one (ds_ret (de_tup (da_cons de_str (da_cons (de_ix xd_ix (de_lst (da_cons de_int (da_cons de_int (da_cons de_int (da_cons de_int da_nil))))) (de_callC c__law_e_pick hr thru0 (an_cons (de_var 0) (an_cons de_int an_nil))) (fun _ _ => rfl)) da_nil)))))))))))))
/-! ### _law_e_house -/
abbrev st__law_e_house : Stmt := topS 53
abbrev N__law_e_house : List Str := ["deck", "boxes", "places", "many", "called", "at", "some", "scripts", "have", "later", "other", "script", "turn", "deed", "firsts", "place"]
theorem sc__law_e_house : FnScope N__law_e_house ["deck"] (defScope st__law_e_house) := ⟨rfl, rfl, rfl, by decide +kernel, rfl, by decide +kernel, by decide +kernel⟩
noncomputable def d__law_e_house : DS := (sSeq (sSet 1 (dBin oIx (dLst (aCons (dC (.int 0)) (aCons (dC (.int 1)) (aCons (dC (.int 2)) (aCons (dC (.int 3)) (aCons (dC (.int 99)) aNil)))))) (dCallF f__law_e_pick (aCons (dVar 0) (aCons (dC (.int 5)) aNil)))))
  (sSeq (sSet 2 (dCallF f__law_e_pick (aCons (dVar 0) (aCons (dC (.int 4)) aNil))))
  (sSeq (sSet 3 (dBin oAdd (dC (.int 1)) (dCallF f__law_e_pick (aCons (dVar 0) (aCons (dC (.int 3)) aNil)))))
  (sSeq (sSet 4 (dCell aNil))
  (sSeq (sFor (iRange1 (aCons (dVar 3) aNil)) (gN 5)
  (sSeq (sSet 6 (dComp (iRange1 (aCons (dVar 2) aNil)) (gN 15) [15] (dTst (dBin oGt (dCallF f__law_e_pick (aCons (dVar 0) (aCons (dC (.int 3)) aNil))) (dC (.int 0)))) (dVar 15)))
  (sExpr (dAppend (dVar 4) (dCallT oListT1 (aCons (dComp (iSeq (dVar 6)) (gN 15) [15] bYes (dTup (aCons (dVar 15) (aCons (dBin oIx (dLst (aCons (dC (.str "both")) (aCons (dC (.str "both")) (aCons (dC (.str "come")) (aCons (dC (.str "go")) aNil))))) (dCallF f__law_e_pick (aCons (dVar 0) (aCons (dC (.int 4)) aNil)))) aNil)))) aNil))))))
  (sSeq (sSet 7 (dCell aNil))
  (sSeq (sFor (iRange1 (aCons (dVar 3) aNil)) (gN 5)
  (sSeq (sSet 8 (dDictC (aCons (dBin oIx (dVar 4) (dVar 5)) aNil)))
  (sSeq (sSet 9 (dNewK))
  (sSeq (sFor (iRange2 (aCons (dBin oAdd (dVar 5) (dC (.int 1))) (aCons (dVar 3) aNil))) (gN 10)
  (sPutT (dVar 9) (dVar 10) (dBin oIx (dVar 4) (dVar 10))))
  (sSeq (sSet 11 (dCell aNil))
  (sSeq (sFor (iRange1 (aCons (dCallF f__law_e_pick (aCons (dVar 0) (aCons (dC (.int 7)) aNil))) aNil)) (gN 12)
  (sSeq (sSet 13 (dCallF f__law_e_house_deed (aCons (dVar 0) (aCons (dVar 1) (aCons (dVar 8) (aCons (dVar 9) aNil))))))
  (sSeq (sExpr (dAppend (dVar 11) (dVar 13)))
  (sSeq (sIf (dTst (dBin oEq (dBin oIx (dVar 13) (dC (.int 0))) (dC (.str "leave"))))
  (sExpr (dPopK (dVar 8) (dBin oIx (dVar 13) (dC (.int 1)))))
  sNil)
  (sIf (dTst (dBin oEq (dBin oIx (dVar 13) (dC (.int 0))) (dC (.str "begin"))))
  (sExpr (dClear (dVar 9)))
  sNil)))))
  (sExpr (dAppend (dVar 7) (dCall oTuple (aCons (dVar 11) aNil))))))))))
  (sSeq (sSet 14 (dComp (iRange1 (aCons (dBin oAdd (dC (.int 1)) (dCallF f__law_e_pick (aCons (dVar 0) (aCons (dC (.int 3)) aNil)))) aNil)) (gN 12) [12] bYes (dCallF f__law_e_pick (aCons (dVar 0) (aCons (dVar 3) aNil)))))
  (sRet (dTup (aCons (dVar 1) (aCons (dVar 2) (aCons (dCall oTuple (aCons (dComp (iSeq (dVar 14)) (gN 5) [5] bYes (dTup (aCons (dVar 5) (aCons (dBin oIx (dVar 4) (dVar 5)) aNil)))) aNil)) (aCons (dCall oTuple (aCons (dVar 7) aNil)) aNil))))))))))))))
noncomputable def f__law_e_house : Fn := dFun0 16 d__law_e_house
theorem ok__law_e_house {k : Nat} {f : Addr} {fd : FuncData} (F : Fun K "_law_e_house" "_law_e_house" st__law_e_house f fd) (b : Binds K fd ["deck"] []) (m : mg "_law_e_house" = some (.ref f)) (c__law_e_pick : Callee P w K mg base CX0 k "_law_e_pick" 2 f__law_e_pick) (c__law_e_house_deed : Callee P w K mg base CX0 k "_law_e_house_deed" 4 f__law_e_house_deed) (m_range : mg "range" = none) (m_tuple : mg "tuple" = none) (m_dict : mg "dict" = none) : Callee P w K mg base CX0 (k + 1) "_law_e_house" 1 f__law_e_house := by
  have sc := sc__law_e_house
  refine ⟨f, fd, ["deck"], Fun.okD F sc rfl fun cdv A outer s H E hr => ?_, m, F.kp, b⟩
  exact (ds_cons (ds_set 1 sc.nd (de_ix xd_ix (de_lst (da_cons de_int (da_cons de_int (da_cons de_int (da_cons de_int (da_cons de_int da_nil)))))) (de_callC c__law_e_pick hr thru0 (an_cons (de_var 0) (an_cons de_int an_nil))) (fun _ _ => rfl)))
  (ds_cons (ds_set 2 sc.nd (de_callC c__law_e_pick hr thru0 (an_cons (de_var 0) (an_cons de_int an_nil))))
  (ds_cons (ds_set 3 sc.nd (de_bin od_add de_int (de_callC c__law_e_pick hr thru0 (an_cons (de_var 0) (an_cons de_int an_nil)))))
  (ds_cons (ds_set 4 sc.nd (de_cell da_nil))
  (ds_cons (ds_for PassesOwn.never (by rfl) (di_range1 rfl m_range (da_cons (de_var 3) da_nil)) (dg_name 5 sc.nd)
  (ds_cons (ds_setLc (own := [("place", 15)]) 6 (by rfl) sc.nd (sw_true rfl rfl rfl (by decide +kernel)) (di_range1 rfl m_range (da_cons (de_var 2) da_nil)) (blkOk_by (own := [("place", 15)]) (N := N__law_e_house) (sc := defScope st__law_e_house) (by decide +kernel)) (by decide) (fun _ _ _ _ _ => (dg_name 15 sc.nd)) (fun _ _ _ _ _ => (dts_one (dt_cmp od_gt (de_callC c__law_e_pick hr thru0 (an_cons (de_var 0) (an_cons de_int an_nil))) de_int (nomark _)))) (fun _ _ _ _ _ => (de_var 15)))
  (ds_one (ds_expr (de_append (pe_bm PySem.F.plainAttrs_list PySem.F.slot_list_append PySem.F.type_list_append mt_append (de_var 4) (pa_cons (de_callTyT ct_tuple rfl m_tuple (by decide +kernel) (da_cons (de_comp (own := [("place", 15)]) (by rfl) sc.nd (di_seq (de_var 6)) (blkOk_by (own := [("place", 15)]) (N := N__law_e_house) (sc := defScope st__law_e_house) (by decide +kernel)) (by decide) (fun _ _ _ _ _ => (dg_name 15 sc.nd)) (fun _ _ _ _ _ => dts_nil) (fun _ _ _ _ _ => (de_tup (da_cons (de_var 15) (da_cons (de_ix xd_ix (de_lst (da_cons de_str (da_cons de_str (da_cons de_str (da_cons de_str da_nil))))) (de_callC c__law_e_pick hr thru0 (an_cons (de_var 0) (an_cons de_int an_nil))) (fun _ _ => rfl)) da_nil))))) da_nil)) pa_nil)))))))
  (ds_cons (ds_set 7 sc.nd (de_cell da_nil))
  (ds_cons (ds_for PassesOwn.never (by rfl) (di_range1 rfl m_range (da_cons (de_var 3) da_nil)) (dg_name 5 sc.nd)
  (ds_cons (ds_set 8 sc.nd (de_dictC (by rfl) rfl m_dict (by decide +kernel) (da_cons (de_ix xd_ix (de_var 4) (de_var 5) (fun _ _ => rfl)) da_nil)))
  (ds_cons (ds_set 9 sc.nd de_newK)
  (ds_cons (ds_for PassesOwn.never (by rfl) (di_range2 rfl m_range (da_cons (de_bin od_add (de_var 5) de_int) (da_cons (de_var 3) da_nil))) (dg_name 10 sc.nd)
  (ds_one (ds_putT (hu1 hr) (de_var 9) (de_var 10) (de_ix xd_ix (de_var 4) (de_var 10) (fun _ _ => rfl)))))
  (ds_cons (ds_set 11 sc.nd (de_cell da_nil))
  (ds_cons (ds_for PassesOwn.never (by rfl) (di_range1 rfl m_range (da_cons (de_callC c__law_e_pick hr thru0 (an_cons (de_var 0) (an_cons de_int an_nil))) da_nil)) (dg_name 12 sc.nd)
  (ds_cons (ds_set 13 sc.nd (de_callC c__law_e_house_deed hr thru0 (an_cons (de_var 0) (an_cons (de_var 1) (an_cons (de_var 8) (an_cons (de_var 9) an_nil))))))
  (ds_cons (ds_expr (de_append (pe_bm PySem.F.plainAttrs_list PySem.F.slot_list_append PySem.F.type_list_append mt_append (de_var 11) (pa_cons (de_var 13) pa_nil))))
  (ds_cons (ds_if (dt_cmp (od_eq hr.units) (de_ix xd_ix (de_var 13) de_int (fun _ _ => rfl)) de_str (nomark _))
  (ds_one (ds_expr (de_popK (de_var 8) (de_ix xd_ix (de_var 13) de_int (fun _ _ => rfl)) ⟨by rfl, by rfl, by rfl, by rfl⟩)))
  ds_nil)
  (ds_one (ds_if (dt_cmp (od_eq hr.units) (de_ix xd_ix (de_var 13) de_int (fun _ _ => rfl)) de_str (nomark _))
  (ds_one (ds_expr (de_clear (de_var 9))))
  ds_nil))))))
  (ds_one (ds_expr (de_append (pe_bm PySem.F.plainAttrs_list PySem.F.slot_list_append PySem.F.type_list_append mt_append (de_var 7) (pa_cons (de_callTy cd_tuple rfl m_tuple (by decide +kernel) (da_cons (de_var 11) da_nil)) pa_nil)))))))))))
  (ds_cons (ds_setLc (own := [("turn", 12)]) 14 (by rfl) sc.nd (sw_true rfl rfl rfl (by decide +kernel)) (di_range1 rfl m_range (da_cons (de_bin od_add de_int (de_callC c__law_e_pick hr thru0 (an_cons (de_var 0) (an_cons de_int an_nil)))) da_nil)) (blkOk_by (own := [("turn", 12)]) (N := N__law_e_house) (sc := defScope st__law_e_house) (by decide +kernel)) (by decide) (fun _ _ _ _ _ => (dg_name 12 sc.nd)) (fun _ _ _ _ _ => dts_nil) (fun _ _ _ _ _ => (de_callC c__law_e_pick hr thru0 (an_cons (de_var 0) (an_cons (de_var 3) an_nil)))))
  (ds_one (ds_ret (de_tup (da_cons (de_var 1) (da_cons (de_var 2) (da_cons (de_callTy cd_tuple rfl m_tuple (by decide +kernel) (da_cons (de_comp (own := [("at", 5)]) (by rfl) sc.nd (di_seq (de_var 14)) (blkOk_by (own := [("at", 5)]) (N := N__law_e_house) (sc := defScope st__law_e_house) (by decide +kernel)) (by decide) (fun _ _ _ _ _ => (dg_name 5 sc.nd)) (fun _ _ _ _ _ => dts_nil) (fun _ _ _ _ _ => (de_tup (da_cons (de_var 5) (da_cons (de_ix xd_ix (de_var 4) (de_var 5) (fun _ _ => rfl)) da_nil))))) da_nil)) (da_cons (de_callTy cd_tuple rfl m_tuple (by decide +kernel) (da_cons (de_var 7) da_nil)) da_nil)))))))))))))))
/-! ### _law_e_members_text -/
abbrev st__law_e_members_text : Stmt := topS 54
abbrev N__law_e_members_text : List Str := ["called", "place", "mode"]
theorem sc__law_e_members_text : FnScope N__law_e_members_text ["called"] (defScope st__law_e_members_text) := ⟨rfl, rfl, rfl, by decide +kernel, rfl, by decide +kernel, by decide +kernel⟩
def d__law_e_members_text : DS := (sRet (dM1 oJoin (dC (.str "")) (dComp (iSeq (dVar 0)) (gTupD 2 (gsCons (gN 1) (gsCons (gN 2) gsNil))) [1, 2] bYes (dBin oAdd (dBin oAdd (dBin oAdd (dC (.str " ")) (dCall oStrC (aCons (dVar 1) aNil))) (dC (.str ":"))) (dVar 2)))))
def f__law_e_members_text : Fn := dFun0 3 d__law_e_members_text
theorem ok__law_e_members_text {k : Nat} {f : Addr} {fd : FuncData} (F : Fun K "_law_e_members_text" "_law_e_members_text" st__law_e_members_text f fd) (b : Binds K fd ["called"] []) (m : mg "_law_e_members_text" = some (.ref f)) (m_str : mg "str" = none) : Callee P w K mg base CX0 (k + 1) "_law_e_members_text" 1 f__law_e_members_text := by
  have sc := sc__law_e_members_text
  refine ⟨f, fd, ["called"], Fun.okD F sc rfl fun cdv A outer s H E hr => ?_, m, F.kp, b⟩
  exact (ds_one (ds_ret (de_join de_str (de_comp (own := [("place", 1), ("mode", 2)]) (by rfl) sc.nd (di_seq (de_var 0)) (blkOk_by (own := [("place", 1), ("mode", 2)]) (N := N__law_e_members_text) (sc := defScope st__law_e_members_text) (by decide +kernel)) (by decide) (fun _ _ _ _ _ => (dg_tup (by rfl) (dgs_cons (dg_name 1 sc.nd) (dgs_cons (dg_name 2 sc.nd) dgs_nil)))) (fun _ _ _ _ _ => dts_nil) (fun _ _ _ _ _ => (de_bin od_add (de_bin od_add (de_bin od_add de_str (de_callTy cd_str rfl m_str (by decide +kernel) (da_cons (de_var 1) da_nil))) de_str) (de_var 2)))))))
/-! ### _law_e_deed_text -/
abbrev st__law_e_deed_text : Stmt := topS 55
abbrev N__law_e_deed_text : List Str := ["deed"]
theorem sc__law_e_deed_text : FnScope N__law_e_deed_text ["deed"] (defScope st__law_e_deed_text) := ⟨rfl, rfl, rfl, by decide +kernel, rfl, by decide +kernel, by decide +kernel⟩
def d__law_e_deed_text : DS := (sSeq (sIf (dTst (dBin oEq (dBin oIx (dVar 0) (dC (.int 0))) (dC (.str "begin"))))
  (sRet (dBin oAdd (dBin oAdd (dC (.str "begin ")) (dCall oStrC (aCons (dBin oIx (dVar 0) (dC (.int 1))) aNil))) (dCallF f__law_e_members_text (aCons (dBin oIx (dVar 0) (dC (.int 2))) aNil))))
  sNil)
  (sSeq (sIf (dTst (dBin oEq (dBin oIx (dVar 0) (dC (.int 0))) (dC (.str "say"))))
  (sRet (dBin oAdd (dC (.str "say ")) (dBin oIx (dVar 0) (dC (.int 1)))))
  sNil)
  (sSeq (sIf (dTst (dBin oEq (dCall oLen (aCons (dVar 0) aNil)) (dC (.int 3))))
  (sRet (dBin oAdd (dBin oAdd (dBin oAdd (dBin oAdd (dBin oIx (dVar 0) (dC (.int 0))) (dC (.str " "))) (dCall oStrC (aCons (dBin oIx (dVar 0) (dC (.int 1))) aNil))) (dC (.str " "))) (dCall oStrC (aCons (dBin oIx (dVar 0) (dC (.int 2))) aNil))))
  sNil)
  (sRet (dBin oAdd (dBin oAdd (dBin oIx (dVar 0) (dC (.int 0))) (dC (.str " "))) (dCall oStrC (aCons (dBin oIx (dVar 0) (dC (.int 1))) aNil)))))))
def f__law_e_deed_text : Fn := dFun0 1 d__law_e_deed_text
theorem ok__law_e_deed_text {k : Nat} {f : Addr} {fd : FuncData} (F : Fun K "_law_e_deed_text" "_law_e_deed_text" st__law_e_deed_text f fd) (b : Binds K fd ["deed"] []) (m : mg "_law_e_deed_text" = some (.ref f)) (c__law_e_members_text : Callee P w K mg base CX0 k "_law_e_members_text" 1 f__law_e_members_text) (m_str : mg "str" = none) (m_len : mg "len" = none) : Callee P w K mg base CX0 (k + 1) "_law_e_deed_text" 1 f__law_e_deed_text := by
  have sc := sc__law_e_deed_text
  refine ⟨f, fd, ["deed"], Fun.okD F sc rfl fun cdv A outer s H E hr => ?_, m, F.kp, b⟩
  exact (ds_cons (ds_if (dt_cmp (od_eq hr.units) (de_ix xd_ix (de_var 0) de_int (fun _ _ => rfl)) de_str (nomark _))
  (ds_one (ds_ret (de_bin od_add (de_bin od_add de_str (de_callTy cd_str rfl m_str (by decide +kernel) (da_cons (de_ix xd_ix (de_var 0) de_int (fun _ _ => rfl)) da_nil))) (de_callC c__law_e_members_text hr thru0 (an_cons (de_ix xd_ix (de_var 0) de_int (fun _ _ => rfl)) an_nil)))))
  ds_nil)
  (ds_cons (ds_if (dt_cmp (od_eq hr.units) (de_ix xd_ix (de_var 0) de_int (fun _ _ => rfl)) de_str (nomark _))
  (ds_one (ds_ret (de_bin od_add de_str (de_ix xd_ix (de_var 0) de_int (fun _ _ => rfl)))))
  ds_nil)
  (ds_cons (ds_if (dt_cmp (od_eq hr.units) (de_callB cd_len rfl m_len PySem.boot_len (da_cons (de_var 0) da_nil)) de_int (nomark _))
  (ds_one (ds_ret (de_bin od_add (de_bin od_add (de_bin od_add (de_bin od_add (de_ix xd_ix (de_var 0) de_int (fun _ _ => rfl)) de_str) (de_callTy cd_str rfl m_str (by decide +kernel) (da_cons (de_ix xd_ix (de_var 0) de_int (fun _ _ => rfl)) da_nil))) de_str) (de_callTy cd_str rfl m_str (by decide +kernel) (da_cons (de_ix xd_ix (de_var 0) de_int (fun _ _ => rfl)) da_nil)))))
  ds_nil)
  (ds_one (ds_ret (de_bin od_add (de_bin od_add (de_ix xd_ix (de_var 0) de_int (fun _ _ => rfl)) de_str) (de_callTy cd_str rfl m_str (by decide +kernel) (da_cons (de_ix xd_ix (de_var 0) de_int (fun _ _ => rfl)) da_nil))))))))
/-! ### _law_e_text -/
abbrev st__law_e_text : Stmt := topS 56
abbrev N__law_e_text : List Str := ["house", "lines", "script", "deed", "at", "called"]
theorem sc__law_e_text : FnScope N__law_e_text ["house"] (defScope st__law_e_text) := ⟨rfl, rfl, rfl, by decide +kernel, rfl, by decide +kernel, by decide +kernel⟩
def d__law_e_text : DS := (sSeq (sSet 1 (dCell (aCons (dBin oAdd (dBin oAdd (dBin oAdd (dC (.str "BOXES ")) (dCall oStrC (aCons (dBin oIx (dVar 0) (dC (.int 0))) aNil))) (dC (.str " WALLS "))) (dCall oStrC (aCons (dBin oIx (dVar 0) (dC (.int 1))) aNil))) aNil)))
  (sSeq (sFor (iSeq (dBin oIx (dVar 0) (dC (.int 3)))) (gN 2)
  (sSeq (sExpr (dAppend (dVar 1) (dC (.str "SCRIPT"))))
  (sFor (iSeq (dVar 2)) (gN 3)
  (sExpr (dAppend (dVar 1) (dCallF f__law_e_deed_text (aCons (dVar 3) aNil)))))))
  (sSeq (sFor (iSeq (dBin oIx (dVar 0) (dC (.int 2)))) (gTupD 2 (gsCons (gN 4) (gsCons (gN 5) gsNil)))
  (sExpr (dAppend (dVar 1) (dBin oAdd (dBin oAdd (dC (.str "FIRST ")) (dCall oStrC (aCons (dVar 4) aNil))) (dCallF f__law_e_members_text (aCons (dVar 5) aNil))))))
  (sRet (dM1 oJoin (dC (.str "\n")) (dVar 1))))))
noncomputable def f__law_e_text : Fn := frzF (dFun0 6 d__law_e_text)
theorem ok__law_e_text {k : Nat} {f : Addr} {fd : FuncData} (F : Fun K "_law_e_text" "_law_e_text" st__law_e_text f fd) (b : Binds K fd ["house"] []) (m : mg "_law_e_text" = some (.ref f)) (c__law_e_deed_text : Callee P w K mg base CX0 k "_law_e_deed_text" 1 f__law_e_deed_text) (c__law_e_members_text : Callee P w K mg base CX0 k "_law_e_members_text" 1 f__law_e_members_text) (m_str : mg "str" = none) : Callee P w K mg base CX0 (k + 1) "_law_e_text" 1 f__law_e_text := by
  have sc := sc__law_e_text
  refine Callee.frz ⟨f, fd, ["house"], Fun.okD F sc rfl fun cdv A outer s H E hr => ?_, m, F.kp, b⟩
  exact (ds_cons (ds_set 1 sc.nd (de_cell (da_cons (de_bin od_add (de_bin od_add (de_bin od_add de_str (de_callTy cd_str rfl m_str (by decide +kernel) (da_cons (de_ix xd_ix (de_var 0) de_int (fun _ _ => rfl)) da_nil))) de_str) (de_callTy cd_str rfl m_str (by decide +kernel) (da_cons (de_ix xd_ix (de_var 0) de_int (fun _ _ => rfl)) da_nil))) da_nil)))
  (ds_cons (ds_for PassesOwn.never (by rfl) (di_seq (de_ix xd_ix (de_var 0) de_int (fun _ _ => rfl))) (dg_name 2 sc.nd)
  (ds_cons (ds_expr (de_append (pe_bm PySem.F.plainAttrs_list PySem.F.slot_list_append PySem.F.type_list_append mt_append (de_var 1) (pa_cons de_str pa_nil))))
  (ds_one (ds_for PassesOwn.never (by rfl) (di_seq (de_var 2)) (dg_name 3 sc.nd)
  (ds_one (ds_expr (de_append (pe_bm PySem.F.plainAttrs_list PySem.F.slot_list_append PySem.F.type_list_append mt_append (de_var 1) (pa_cons (de_callC c__law_e_deed_text hr thru0 (an_cons (de_var 3) an_nil)) pa_nil)))))))))
  (ds_cons (ds_for PassesOwn.never (by rfl) (di_seq (de_ix xd_ix (de_var 0) de_int (fun _ _ => rfl))) (dg_tup (by rfl) (dgs_cons (dg_name 4 sc.nd) (dgs_cons (dg_name 5 sc.nd) dgs_nil)))
  (ds_one (ds_expr (de_append (pe_bm PySem.F.plainAttrs_list PySem.F.slot_list_append PySem.F.type_list_append mt_append (de_var 1) (pa_cons (de_bin od_add (de_bin od_add de_str (de_callTy cd_str rfl m_str (by decide +kernel) (da_cons (de_var 4) da_nil))) (de_callC c__law_e_members_text hr thru0 (an_cons (de_var 5) an_nil))) pa_nil))))))
  (ds_one (ds_ret (de_join de_str (de_var 1)))))))
/-! ### _law_e_kind -/
abbrev st__law_e_kind : Stmt := topS 57
abbrev N__law_e_kind : List Str := ["caught", "kinds"]
theorem sc__law_e_kind : FnScope N__law_e_kind ["caught"] (defScope st__law_e_kind) := ⟨rfl, rfl, rfl, by decide +kernel, rfl, by decide +kernel, by decide +kernel⟩
def d__law_e_kind : DS := (sSeq (sSet 1 (dLst (aCons (dIsE [("NoHouse", false), ("NoText", false)] (dVar 0)) (aCons (dIsE [("NoHouse", false), ("NoText", false)] (dVar 0)) (aCons (dIsE [("NoHouse", false), ("NoText", false)] (dVar 0)) aNil)))))
  (sSeq (sSet 1 (dBin oAdd (dVar 1) (dLst (aCons (dIsE [("NoHouse", true), ("NoText", false)] (dVar 0)) (aCons (dIsE [("NoHouse", false), ("NoText", false)] (dVar 0)) (aCons (dIsE [("NoHouse", false), ("NoText", false)] (dVar 0)) aNil))))))
  (sSeq (sSet 1 (dBin oAdd (dVar 1) (dLst (aCons (dIsE [("NoHouse", false), ("NoText", false)] (dVar 0)) (aCons (dIsE [("NoHouse", false), ("NoText", true)] (dVar 0)) (aCons (dIsE [("NoHouse", false), ("NoText", false)] (dVar 0)) aNil))))))
  (sSeq (sSet 1 (dBin oAdd (dVar 1) (dLst (aCons (dIsE [("NoHouse", false), ("NoText", false)] (dVar 0)) aNil))))
  (sSeq (sIf (bOr (dTst (dBin oNe (dMeth oCountB (dVar 1) (dC (.bl true))) (dC (.int 1)))) (bNot (dTst (dIsE [("NoHouse", true), ("NoText", true)] (dVar 0)))))
  (sRet (dC (.str "odd")))
  sNil)
  (sRet (dBin oIx (dLst (aCons (dC (.str "count")) (aCons (dC (.str "deed")) (aCons (dC (.str "hand")) (aCons (dC (.str "house")) (aCons (dC (.str "name")) (aCons (dC (.str "row")) (aCons (dC (.str "stand")) (aCons (dC (.str "text")) (aCons (dC (.str "stopper")) (aCons (dC (.str "many")) aNil))))))))))) (dMeth oIndexB (dVar 1) (dC (.bl true))))))))))
noncomputable def f__law_e_kind : Fn := frzF (dFun0 2 d__law_e_kind)
theorem ok__law_e_kind {k : Nat} {f : Addr} {fd : FuncData} (F : Fun K "_law_e_kind" "_law_e_kind" st__law_e_kind f fd) (b : Binds K fd ["caught"] []) (m : mg "_law_e_kind" = some (.ref f)) (m_isinstance : mg "isinstance" = none) (m_ValueError : mg "ValueError" = none) (i_NoHand : IsC K mg "NoHand" [("NoHouse", false), ("NoText", false)]) (i_NoDeed : IsC K mg "NoDeed" [("NoHouse", false), ("NoText", false)]) (i_NoCount : IsC K mg "NoCount" [("NoHouse", false), ("NoText", false)]) (i_NoRow : IsC K mg "NoRow" [("NoHouse", false), ("NoText", false)]) (i_NoName : IsC K mg "NoName" [("NoHouse", false), ("NoText", false)]) (i_NoHouse : IsC K mg "NoHouse" [("NoHouse", true), ("NoText", false)]) (i_NoWall : IsC K mg "NoWall" [("NoHouse", false), ("NoText", false)]) (i_NoText : IsC K mg "NoText" [("NoHouse", false), ("NoText", true)]) (i_NoStand : IsC K mg "NoStand" [("NoHouse", false), ("NoText", false)]) (i_TooMany : IsC K mg "TooMany" [("NoHouse", false), ("NoText", false)]) (i_ValueError : IsB K mg "ValueError" [("NoHouse", true), ("NoText", true)]) : Callee P w K mg base CX0 (k + 1) "_law_e_kind" 1 f__law_e_kind := by
  have sc := sc__law_e_kind
  refine Callee.frz ⟨f, fd, ["caught"], Fun.okD F sc rfl fun cdv A outer s H E hr => ?_, m, F.kp, b⟩
  exact (ds_cons (ds_set 1 sc.nd (de_lst (da_cons (de_isE i_NoCount (de_var 0) rfl m_isinstance) (da_cons (de_isE i_NoDeed (de_var 0) rfl m_isinstance) (da_cons (de_isE i_NoHand (de_var 0) rfl m_isinstance) da_nil)))))
  (ds_cons (ds_set 1 sc.nd (de_bin od_add (de_var 1) (de_lst (da_cons (de_isE i_NoHouse (de_var 0) rfl m_isinstance) (da_cons (de_isE i_NoName (de_var 0) rfl m_isinstance) (da_cons (de_isE i_NoRow (de_var 0) rfl m_isinstance) da_nil))))))
  (ds_cons (ds_set 1 sc.nd (de_bin od_add (de_var 1) (de_lst (da_cons (de_isE i_NoStand (de_var 0) rfl m_isinstance) (da_cons (de_isE i_NoText (de_var 0) rfl m_isinstance) (da_cons (de_isE i_NoWall (de_var 0) rfl m_isinstance) da_nil))))))
  (ds_cons (ds_set 1 sc.nd (de_bin od_add (de_var 1) (de_lst (da_cons (de_isE i_TooMany (de_var 0) rfl m_isinstance) da_nil))))
  (ds_cons (ds_if (PW.pt (dw_or (dt_cmp (od_ne hr.units) (de_countB (pe_bm PySem.F.plainAttrs_list PySem.F.slot_list_count PySem.F.type_list_count mt_countB (de_var 1) (pa_cons de_bl pa_nil))) de_int (nomark _)) (dw_or1 (dt_not (dt_val (de_isB i_ValueError (de_var 0) rfl rfl m_ValueError (by decide +kernel) m_isinstance))))))
  (ds_one (ds_ret de_str))
  ds_nil)
  (ds_one (ds_ret (de_ix xd_ix (de_lst (da_cons de_str (da_cons de_str (da_cons de_str (da_cons de_str (da_cons de_str (da_cons de_str (da_cons de_str (da_cons de_str (da_cons de_str (da_cons de_str da_nil))))))))))) (de_indexB (pe_bm PySem.F.plainAttrs_list PySem.F.slot_list_index PySem.F.type_list_index mt_indexB (de_var 1) (pa_cons de_bl pa_nil))) (fun _ _ => rfl)))))))))
/-! ### _law_e_word -/
abbrev st__law_e_word : Stmt := topS 58
abbrev N__law_e_word : List Str := ["way", "thing", "caught", "e"]
theorem sc__law_e_word : FnScope N__law_e_word ["way", "thing"] (defScope st__law_e_word) := ⟨rfl, rfl, rfl, by decide +kernel, rfl, by decide +kernel, by decide +kernel⟩
noncomputable def d__law_e_word : DS := (sSeq (sSet 2 (dC .non))
  (sSeq (sTryK ["NoHouse", "NoText"] 3 2 (sIf (dTst (dBin oEq (dVar 0) (dC (.int 0))))
  (sExpr (dCallF f_read_house (aCons (dVar 1) aNil)))
  (sExpr (dCallF f_show_house (aCons (dVar 1) aNil)))))
  (sSeq (sIf (dTst (dBin oIs (dVar 2) (dC .non)))
  (sRet (dC (.str "")))
  sNil)
  (sRet (dCallF f__law_e_kind (aCons (dVar 2) aNil))))))
noncomputable def f__law_e_word : Fn := frzF (dFun0 4 d__law_e_word)
theorem ok__law_e_word {k : Nat} {f : Addr} {fd : FuncData} (F : Fun K "_law_e_word" "_law_e_word" st__law_e_word f fd) (b : Binds K fd ["way", "thing"] []) (m : mg "_law_e_word" = some (.ref f)) (c_read_house : Callee P w K mg base (L2.CX P w) k "read_house" 1 f_read_house) (c_show_house : Callee P w K mg base (L2.CX P w) k "show_house" 1 f_show_house) (c__law_e_kind : Callee P w K mg base CX0 k "_law_e_kind" 1 f__law_e_kind) (t_WallError : CatC K mg "WallError" ["NoHouse", "NoText"]) : Callee P w K mg base CX0 (k + 1) "_law_e_word" 2 f__law_e_word := by
  have sc := sc__law_e_word
  refine Callee.frz ⟨f, fd, ["way", "thing"], Fun.okD F sc rfl fun cdv A outer s H E hr => ?_, m, F.kp, b⟩
  exact (ds_cons (ds_set 2 sc.nd de_non)
  (ds_cons (ds_tryK rfl rfl rfl sc.nd (by decide) t_WallError rfl fun W pn xe tk =>
  (dw_one (dw_if (dt_cmp (od_eq hr.units) (de_var 0) de_int (nomark _))
  (dw_one (dw_expr (de_callC c_read_house hr (thruX tk) (an_cons (de_var 1) an_nil))))
  (dw_one (dw_expr (de_callC c_show_house hr (thruX tk) (an_cons (de_var 1) an_nil)))))))
  (ds_cons (ds_if (dt_cmp od_is (de_var 2) de_non (nomark _))
  (ds_one (ds_ret de_str))
  ds_nil)
  (ds_one (ds_ret (de_callC c__law_e_kind hr thru0 (an_cons (de_var 2) an_nil)))))))
/-! ### _law_e_no_texts -/
abbrev st__law_e_no_texts : Stmt := topS 59
abbrev N__law_e_no_texts : List Str := ["deck", "text", "lines", "at", "line", "nines", "worse", "found", "turn", "one"]
theorem sc__law_e_no_texts : FnScope N__law_e_no_texts ["deck", "text"] (defScope st__law_e_no_texts) := ⟨rfl, rfl, rfl, by decide +kernel, rfl, by decide +kernel, by decide +kernel⟩
def d__law_e_no_texts : DS := (sSeq (sSet 2 (dM1 oSplit (dVar 1) (dC (.str "\n"))))
  (sSeq (sSet 3 (dCallF f__law_e_pick (aCons (dVar 0) (aCons (dCall oLen (aCons (dVar 2) aNil)) aNil))))
  (sSeq (sSet 4 (dBin oIx (dVar 2) (dVar 3)))
  (sSeq (sSet 5 (dBin oMulS (dC (.str "9")) (dC (.int 31))))
  (sSeq (sSet 6 (dCell (aCons (dBin oAdd (dVar 4) (dC (.str " "))) (aCons (dBin oAdd (dC (.str " ")) (dVar 4)) (aCons (dBin oAdd (dLower (dVar 4)) (dC (.str " 0 0"))) (aCons (dC (.str "")) (aCons (dBin oAdd (dVar 4) (dC (.str " x"))) (aCons (dC (.str "wait 0 1")) (aCons (dC (.str "raise 0")) (aCons (dC (.str "await 1")) (aCons (dC (.str "come")) aNil)))))))))))
  (sSeq (sSet 6 (dAddN (dVar 6) (dLst (aCons (dC (.str "go 0 0")) (aCons (dC (.str "leave")) (aCons (dC (.str "work 1 2")) (aCons (dC (.str "begin")) (aCons (dC (.str "say")) (aCons (dC (.str "say a b")) (aCons (dC (.str "raise 0  1")) (aCons (dC (.str "FIRST")) (aCons (dC (.str "FIRST 0 0both")) aNil))))))))))))
  (sSeq (sSet 6 (dAddN (dVar 6) (dLst (aCons (dC (.str "FIRST 0 0:")) (aCons (dC (.str "FIRST 0 :both")) (aCons (dC (.str "raise 01 1")) (aCons (dC (.str "raise 0 +1")) (aCons (dC (.str "raise -1 1")) (aCons (dC (.str "work 1.0")) aNil)))))))))
  (sSeq (sExpr (dAppend (dVar 6) (dBin oAdd (dC (.str "work ")) (dVar 5))))
  (sSeq (sSet 6 (dBin oAdd (dVar 6) (dLst (aCons (dC (.str "await 0 x")) (aCons (dC (.str "BOXES 1 WALLS")) (aCons (dC (.str "BOXES 1 WALLS 0 0")) (aCons (dC (.str "BOXES 00 WALLS 0")) (aCons (dC (.str "SCRIPT 0")) (aCons (dC (.str "script")) aNil)))))))))
  (sSeq (sSet 6 (dBin oAdd (dVar 6) (dLst (aCons (dC (.str "work 1_0")) (aCons (dC (.str "FIRST 0 0:each")) (aCons (dC (.str "say Come")) (aCons (dC (.str "say a1")) aNil)))))))
  (sSeq (sSet 6 (dBin oAdd (dVar 6) (dLst (aCons (dC (.str "FIRST 0  0:both")) (aCons (dC (.str "work")) (aCons (dC (.str "work 0x1")) (aCons (dC (.str "BOXES -0 WALLS 0")) (aCons (dC (.str "Begin 1")) (aCons (dC (.str "FIRST x")) aNil)))))))))
  (sSeq (sSet 7 (dCell (aCons (dBin oAdd (dC (.str "\n")) (dVar 1)) (aCons (dBin oAdd (dVar 1) (dC (.str "\n"))) (aCons (dC (.str "")) (aCons (dC (.str "BOXES")) (aCons (dBin oAdd (dBin oAdd (dVar 1) (dC (.str "\n\n"))) (dVar 1)) (aCons (dBin oAdd (dVar 1) (dC (.str "\nwork 1"))) (aCons (dBin oAdd (dVar 1) (dC (.str "\nSCRIPT"))) aNil)))))))))
  (sSeq (sExpr (dAppend (dVar 7) (dM1 oJoin (dC (.str "\n")) (dBin oAdd (dBin oAdd (dSl oSl (dVar 2) oNo (oSo (dC (.int 1)))) (dLst (aCons (dC (.str "work 1")) aNil))) (dSl oSl (dVar 2) (oSo (dC (.int 1))) oNo)))))
  (sSeq (sExpr (dAppend (dVar 7) (dM1 oJoin (dC (.str "\n")) (dSl oSl (dVar 2) (oSo (dC (.int 1))) oNo))))
  (sSeq (sFor (iRange1 (aCons (dC (.int 8)) aNil)) (gN 8)
  (sSeq (sSet 9 (dBin oIx (dVar 6) (dCallF f__law_e_pick (aCons (dVar 0) (aCons (dCall oLen (aCons (dVar 6) aNil)) aNil)))))
  (sExpr (dAppend (dVar 7) (dM1 oJoin (dC (.str "\n")) (dBin oAdd (dBin oAdd (dSl oSl (dVar 2) oNo (oSo (dVar 3))) (dLst (aCons (dVar 9) aNil))) (dSl oSl (dVar 2) (oSo (dBin oAdd (dVar 3) (dC (.int 1)))) oNo)))))))
  (sRet (dVar 7)))))))))))))))))
noncomputable def f__law_e_no_texts : Fn := frzF (dFun0 10 d__law_e_no_texts)
theorem ok__law_e_no_texts {k : Nat} {f : Addr} {fd : FuncData} (F : Fun K "_law_e_no_texts" "_law_e_no_texts" st__law_e_no_texts f fd) (b : Binds K fd ["deck", "text"] []) (m : mg "_law_e_no_texts" = some (.ref f)) (c__law_e_pick : Callee P w K mg base CX0 k "_law_e_pick" 2 f__law_e_pick) (m_len : mg "len" = none) (m_range : mg "range" = none) : Callee P w K mg base CX0 (k + 1) "_law_e_no_texts" 2 f__law_e_no_texts := by
  have sc := sc__law_e_no_texts
  refine Callee.frz ⟨f, fd, ["deck", "text"], Fun.okD F sc rfl fun cdv A outer s H E hr => ?_, m, F.kp, b⟩
  exact (ds_cons (ds_set 2 sc.nd (de_split (de_var 1) de_str))
  (ds_cons (ds_set 3 sc.nd (de_callC c__law_e_pick hr thru0 (an_cons (de_var 0) (an_cons (de_callB cd_len rfl m_len PySem.boot_len (da_cons (de_var 2) da_nil)) an_nil))))
  (ds_cons (ds_set 4 sc.nd (de_ix xd_ix (de_var 2) (de_var 3) (fun _ _ => rfl)))
  (ds_cons (ds_set 5 sc.nd (de_bin od_mulS de_str de_int))
  (ds_cons (ds_set 6 sc.nd (de_cell (da_cons (de_bin od_add (de_var 4) de_str) (da_cons (de_bin od_add de_str (de_var 4)) (da_cons (de_bin od_add (de_lower (de_var 4)) de_str) (da_cons de_str (da_cons (de_bin od_add (de_var 4) de_str) (da_cons de_str (da_cons de_str (da_cons de_str (da_cons de_str da_nil)))))))))))
  (ds_cons (ds_set 6 sc.nd (de_addN (de_var 6) (de_lst (da_cons de_str (da_cons de_str (da_cons de_str (da_cons de_str (da_cons de_str (da_cons de_str (da_cons de_str (da_cons de_str (da_cons de_str da_nil))))))))))))
  (ds_cons (ds_set 6 sc.nd (de_addN (de_var 6) (de_lst (da_cons de_str (da_cons de_str (da_cons de_str (da_cons de_str (da_cons de_str (da_cons de_str da_nil)))))))))
  (ds_cons (ds_expr (de_append (pe_bm PySem.F.plainAttrs_list PySem.F.slot_list_append PySem.F.type_list_append mt_append (de_var 6) (pa_cons (de_bin od_add de_str (de_var 5)) pa_nil))))
  (ds_cons (ds_set 6 sc.nd (de_bin od_add (de_var 6) (de_lst (da_cons de_str (da_cons de_str (da_cons de_str (da_cons de_str (da_cons de_str (da_cons de_str da_nil)))))))))
  (ds_cons (ds_set 6 sc.nd (de_bin od_add (de_var 6) (de_lst (da_cons de_str (da_cons de_str (da_cons de_str (da_cons de_str da_nil)))))))
  (ds_cons (ds_set 6 sc.nd (de_bin od_add (de_var 6) (de_lst (da_cons de_str (da_cons de_str (da_cons de_str (da_cons de_str (da_cons de_str (da_cons de_str da_nil)))))))))
  (ds_cons (ds_set 7 sc.nd (de_cell (da_cons (de_bin od_add de_str (de_var 1)) (da_cons (de_bin od_add (de_var 1) de_str) (da_cons de_str (da_cons de_str (da_cons (de_bin od_add (de_bin od_add (de_var 1) de_str) (de_var 1)) (da_cons (de_bin od_add (de_var 1) de_str) (da_cons (de_bin od_add (de_var 1) de_str) da_nil)))))))))
  (ds_cons (ds_expr (de_append (pe_bm PySem.F.plainAttrs_list PySem.F.slot_list_append PySem.F.type_list_append mt_append (de_var 7) (pa_cons (de_join de_str (de_bin od_add (de_bin od_add (de_slice sd_sl (de_var 2) do_no (do_so de_int)) (de_lst (da_cons de_str da_nil))) (de_slice sd_sl (de_var 2) (do_so de_int) do_no))) pa_nil))))
  (ds_cons (ds_expr (de_append (pe_bm PySem.F.plainAttrs_list PySem.F.slot_list_append PySem.F.type_list_append mt_append (de_var 7) (pa_cons (de_join de_str (de_slice sd_sl (de_var 2) (do_so de_int) do_no)) pa_nil))))
  (ds_cons (ds_for PassesOwn.never (by rfl) (di_range1 rfl m_range (da_cons de_int da_nil)) (dg_name 8 sc.nd)
  (ds_cons (ds_set 9 sc.nd (de_ix xd_ix (de_var 6) (de_callC c__law_e_pick hr thru0 (an_cons (de_var 0) (an_cons (de_callB cd_len rfl m_len PySem.boot_len (da_cons (de_var 6) da_nil)) an_nil))) (fun _ _ => rfl)))
  (ds_one (ds_expr (de_append (pe_bm PySem.F.plainAttrs_list PySem.F.slot_list_append PySem.F.type_list_append mt_append (de_var 7) (pa_cons (de_join de_str (de_bin od_add (de_bin od_add (de_slice sd_sl (de_var 2) do_no (do_so (de_var 3))) (de_lst (da_cons (de_var 9) da_nil))) (de_slice sd_sl (de_var 2) (do_so (de_bin od_add (de_var 3) de_int)) do_no))) pa_nil)))))))
  (ds_one (ds_ret (de_var 7))))))))))))))))))
/-! ### _law_e_no_houses -/
abbrev st__law_e_no_houses : Stmt := topS 60
abbrev N__law_e_no_houses : List Str := ["deck", "house", "boxes", "places", "firsts", "scripts", "many", "nines", "found", "bad", "deed"]
theorem sc__law_e_no_houses : FnScope N__law_e_no_houses ["deck", "house"] (defScope st__law_e_no_houses) := ⟨rfl, rfl, rfl, by decide +kernel, rfl, by decide +kernel, by decide +kernel⟩
def d__law_e_no_houses : DS := (sSeq (sAsg (dVar 1) (gTupD 4 (gsCons (gN 2) (gsCons (gN 3) (gsCons (gN 4) (gsCons (gN 5) gsNil))))))
  (sSeq (sSet 6 (dCall oLen (aCons (dVar 5) aNil)))
  (sSeq (sSet 7 (dBin oSub (dBin oSub (dBin oPow (dC (.int 10)) (dC (.int 30))) (dC (.int 1))) (dCallF f__law_e_pick (aCons (dVar 0) (aCons (dBin oPow (dC (.int 10)) (dC (.int 6))) aNil)))))
  (sSeq (sSet 8 (dCell (aCons (dTup (aCons (dC (.int 100)) (aCons (dVar 3) (aCons (dVar 4) (aCons (dVar 5) aNil))))) (aCons (dTup (aCons (dVar 2) (aCons (dC (.int 7)) (aCons (dVar 4) (aCons (dVar 5) aNil))))) (aCons (dTup (aCons (dVar 7) (aCons (dVar 3) (aCons (dVar 4) (aCons (dVar 5) aNil))))) aNil)))))
  (sSeq (sSet 8 (dAddN (dVar 8) (dLst (aCons (dTup (aCons (dVar 2) (aCons (dVar 3) (aCons (dTup aNil) (aCons (dVar 5) aNil))))) (aCons (dTup (aCons (dVar 2) (aCons (dVar 3) (aCons (dBin oAdd (dVar 4) (dTup (aCons (dTup (aCons (dVar 6) (aCons (dTup aNil) aNil))) aNil))) (aCons (dVar 5) aNil))))) aNil)))))
  (sSeq (sSet 8 (dAddN (dVar 8) (dLst (aCons (dTup (aCons (dVar 2) (aCons (dVar 3) (aCons (dBin oAdd (dVar 4) (dTup (aCons (dTup (aCons (dC (.int 0)) (aCons (dTup (aCons (dTup (aCons (dVar 3) (aCons (dC (.str "both")) aNil))) aNil)) aNil))) aNil))) (aCons (dVar 5) aNil))))) (aCons (dTup (aCons (dVar 2) (aCons (dVar 3) (aCons (dTup aNil) (aCons (dTup aNil) aNil))))) aNil)))))
  (sSeq (sSet 8 (dAddN (dVar 8) (dLst (aCons (dTup (aCons (dVar 2) (aCons (dBin oAdd (dVar 3) (dC (.int 2))) (aCons (dBin oAdd (dVar 4) (dTup (aCons (dTup (aCons (dC (.int 0)) (aCons (dTup (aCons (dTup (aCons (dC (.int 1)) (aCons (dC (.str "both")) aNil))) (aCons (dTup (aCons (dC (.int 0)) (aCons (dC (.str "both")) aNil))) aNil))) aNil))) aNil))) (aCons (dVar 5) aNil))))) aNil))))
  (sSeq (sSet 9 (dLst (aCons (dTup (aCons (dC (.str "raise")) (aCons (dVar 2) (aCons (dC (.int 1)) aNil)))) (aCons (dTup (aCons (dC (.str "raise")) (aCons (dC (.int 0)) (aCons (dC (.int 0)) aNil)))) (aCons (dTup (aCons (dC (.str "raise")) (aCons (dC (.int 0)) (aCons (dC (.int 100)) aNil)))) (aCons (dTup (aCons (dC (.str "await")) (aCons (dC (.int 0)) (aCons (dC (.int 0)) aNil)))) (aCons (dTup (aCons (dC (.str "await")) (aCons (dC (.int 0)) (aCons (dC (.int 10000)) aNil)))) aNil)))))))
  (sSeq (sSet 9 (dBin oAdd (dVar 9) (dLst (aCons (dTup (aCons (dC (.str "work")) (aCons (dC (.int 1000)) aNil))) (aCons (dTup (aCons (dC (.str "say")) (aCons (dC (.str "abcdefghi")) aNil))) aNil)))))
  (sSeq (sSet 9 (dBin oAdd (dVar 9) (dLst (aCons (dTup (aCons (dC (.str "come")) (aCons (dVar 3) aNil))) (aCons (dTup (aCons (dC (.str "go")) (aCons (dVar 3) aNil))) (aCons (dTup (aCons (dC (.str "leave")) (aCons (dVar 3) aNil))) (aCons (dTup (aCons (dC (.str "begin")) (aCons (dC (.int 0)) (aCons (dTup aNil) aNil)))) (aCons (dTup (aCons (dC (.str "begin")) (aCons (dVar 6) (aCons (dTup aNil) aNil)))) aNil))))))))
  (sSeq (sSet 9 (dBin oAdd (dVar 9) (dLst (aCons (dTup (aCons (dC (.str "work")) (aCons (dVar 7) aNil))) (aCons (dTup (aCons (dC (.str "raise")) (aCons (dVar 7) (aCons (dC (.int 1)) aNil)))) (aCons (dTup (aCons (dC (.str "await")) (aCons (dVar 2) (aCons (dVar 7) aNil)))) aNil))))))
  (sSeq (sFor (iSeq (dVar 9)) (gN 10)
  (sExpr (dAppend (dVar 8) (dTup (aCons (dVar 2) (aCons (dVar 3) (aCons (dVar 4) (aCons (dBin oAdd (dTup (aCons (dBin oAdd (dBin oIx (dVar 5) (dC (.int 0))) (dTup (aCons (dVar 10) aNil))) aNil)) (dSl oSl (dVar 5) (oSo (dC (.int 1))) oNo)) aNil))))))))
  (sRet (dVar 8))))))))))))))
noncomputable def f__law_e_no_houses : Fn := frzF (dFun0 11 d__law_e_no_houses)
theorem ok__law_e_no_houses {k : Nat} {f : Addr} {fd : FuncData} (F : Fun K "_law_e_no_houses" "_law_e_no_houses" st__law_e_no_houses f fd) (b : Binds K fd ["deck", "house"] []) (m : mg "_law_e_no_houses" = some (.ref f)) (c__law_e_pick : Callee P w K mg base CX0 k "_law_e_pick" 2 f__law_e_pick) (m_len : mg "len" = none) : Callee P w K mg base CX0 (k + 1) "_law_e_no_houses" 2 f__law_e_no_houses := by
  have sc := sc__law_e_no_houses
  refine Callee.frz ⟨f, fd, ["deck", "house"], Fun.okD F sc rfl fun cdv A outer s H E hr => ?_, m, F.kp, b⟩
  exact (ds_cons (ds_asg (de_var 1) (dg_tup (by rfl) (dgs_cons (dg_name 2 sc.nd) (dgs_cons (dg_name 3 sc.nd) (dgs_cons (dg_name 4 sc.nd) (dgs_cons (dg_name 5 sc.nd) dgs_nil))))))
  (ds_cons (ds_set 6 sc.nd (de_callB cd_len rfl m_len PySem.boot_len (da_cons (de_var 5) da_nil)))
  (ds_cons (ds_set 7 sc.nd (de_bin od_sub (de_bin od_sub (de_bin od_pow de_int de_int) de_int) (de_callC c__law_e_pick hr thru0 (an_cons (de_var 0) (an_cons (de_bin od_pow de_int de_int) an_nil)))))
  (ds_cons (ds_set 8 sc.nd (de_cell (da_cons (de_tup (da_cons de_int (da_cons (de_var 3) (da_cons (de_var 4) (da_cons (de_var 5) da_nil))))) (da_cons (de_tup (da_cons (de_var 2) (da_cons de_int (da_cons (de_var 4) (da_cons (de_var 5) da_nil))))) (da_cons (de_tup (da_cons (de_var 7) (da_cons (de_var 3) (da_cons (de_var 4) (da_cons (de_var 5) da_nil))))) da_nil)))))
  (ds_cons (ds_set 8 sc.nd (de_addN (de_var 8) (de_lst (da_cons (de_tup (da_cons (de_var 2) (da_cons (de_var 3) (da_cons (de_tup da_nil) (da_cons (de_var 5) da_nil))))) (da_cons (de_tup (da_cons (de_var 2) (da_cons (de_var 3) (da_cons (de_bin od_add (de_var 4) (de_tup (da_cons (de_tup (da_cons (de_var 6) (da_cons (de_tup da_nil) da_nil))) da_nil))) (da_cons (de_var 5) da_nil))))) da_nil)))))
  (ds_cons (ds_set 8 sc.nd (de_addN (de_var 8) (de_lst (da_cons (de_tup (da_cons (de_var 2) (da_cons (de_var 3) (da_cons (de_bin od_add (de_var 4) (de_tup (da_cons (de_tup (da_cons de_int (da_cons (de_tup (da_cons (de_tup (da_cons (de_var 3) (da_cons de_str da_nil))) da_nil)) da_nil))) da_nil))) (da_cons (de_var 5) da_nil))))) (da_cons (de_tup (da_cons (de_var 2) (da_cons (de_var 3) (da_cons (de_tup da_nil) (da_cons (de_tup da_nil) da_nil))))) da_nil)))))
  (ds_cons (ds_set 8 sc.nd (de_addN (de_var 8) (de_lst (da_cons (de_tup (da_cons (de_var 2) (da_cons (de_bin od_add (de_var 3) de_int) (da_cons (de_bin od_add (de_var 4) (de_tup (da_cons (de_tup (da_cons de_int (da_cons (de_tup (da_cons (de_tup (da_cons de_int (da_cons de_str da_nil))) (da_cons (de_tup (da_cons de_int (da_cons de_str da_nil))) da_nil))) da_nil))) da_nil))) (da_cons (de_var 5) da_nil))))) da_nil))))
  (ds_cons (ds_set 9 sc.nd (de_lst (da_cons (de_tup (da_cons de_str (da_cons (de_var 2) (da_cons de_int da_nil)))) (da_cons (de_tup (da_cons de_str (da_cons de_int (da_cons de_int da_nil)))) (da_cons (de_tup (da_cons de_str (da_cons de_int (da_cons de_int da_nil)))) (da_cons (de_tup (da_cons de_str (da_cons de_int (da_cons de_int da_nil)))) (da_cons (de_tup (da_cons de_str (da_cons de_int (da_cons de_int da_nil)))) da_nil)))))))
  (ds_cons (ds_set 9 sc.nd (de_bin od_add (de_var 9) (de_lst (da_cons (de_tup (da_cons de_str (da_cons de_int da_nil))) (da_cons (de_tup (da_cons de_str (da_cons de_str da_nil))) da_nil)))))
  (ds_cons (ds_set 9 sc.nd (de_bin od_add (de_var 9) (de_lst (da_cons (de_tup (da_cons de_str (da_cons (de_var 3) da_nil))) (da_cons (de_tup (da_cons de_str (da_cons (de_var 3) da_nil))) (da_cons (de_tup (da_cons de_str (da_cons (de_var 3) da_nil))) (da_cons (de_tup (da_cons de_str (da_cons de_int (da_cons (de_tup da_nil) da_nil)))) (da_cons (de_tup (da_cons de_str (da_cons (de_var 6) (da_cons (de_tup da_nil) da_nil)))) da_nil))))))))
  (ds_cons (ds_set 9 sc.nd (de_bin od_add (de_var 9) (de_lst (da_cons (de_tup (da_cons de_str (da_cons (de_var 7) da_nil))) (da_cons (de_tup (da_cons de_str (da_cons (de_var 7) (da_cons de_int da_nil)))) (da_cons (de_tup (da_cons de_str (da_cons (de_var 2) (da_cons (de_var 7) da_nil)))) da_nil))))))
  (ds_cons (ds_for PassesOwn.never (by rfl) (di_seq (de_var 9)) (dg_name 10 sc.nd)
  (ds_one (ds_expr (de_append (pe_bm PySem.F.plainAttrs_list PySem.F.slot_list_append PySem.F.type_list_append mt_append (de_var 8) (pa_cons (de_tup (da_cons (de_var 2) (da_cons (de_var 3) (da_cons (de_var 4) (da_cons (de_bin od_add (de_tup (da_cons (de_bin od_add (de_ix xd_ix (de_var 5) de_int (fun _ _ => rfl)) (de_tup (da_cons (de_var 10) da_nil))) da_nil)) (de_slice sd_sl (de_var 5) (do_so de_int) do_no)) da_nil))))) pa_nil))))))
  (ds_one (ds_ret (de_var 8)))))))))))))))
/-! ### law -/
abbrev st_law : Stmt := topS 61
abbrev N_law : List Str := ["script", "deck", "k", "house", "text", "bad"]
theorem sc_law : FnScope N_law ["script"] (defScope st_law) := ⟨rfl, rfl, rfl, by decide +kernel, rfl, by decide +kernel, by decide +kernel⟩
noncomputable def d_law : DS := (sSeq (sSet 1 (dCell (aCons (dVar 0) (aCons (dC (.int 0)) (aCons (dC (.int 0)) aNil)))))
  (sSeq (sFor (iRange1 (aCons (dC (.int 3)) aNil)) (gN 2)
  (sSeq (sIf (bAnd (dTst (dBin oGt (dVar 2) (dC (.int 1)))) (dTst (dBin oGe (dBin oIx (dVar 1) (dC (.int 1))) (dCall oLen (aCons (dVar 0) aNil)))))
  (sFl .bk)
  sNil)
  (sSeq (sSet 3 (dUnl (dCallF f__law_e_house (aCons (dVar 1) aNil))))
  (sSeq (sSet 4 (dCallF f__law_e_text (aCons (dVar 3) aNil)))
  (sSeq (sFor (iSeq (dCallF f__law_e_no_texts (aCons (dVar 1) (aCons (dVar 4) aNil)))) (gN 5)
  (sIf (dTst (dBin oNe (dCallF f__law_e_word (aCons (dC (.int 0)) (aCons (dVar 5) aNil))) (dC (.str "text"))))
  (sRet (dC (.bl false)))
  sNil))
  (sSeq (sFor (iSeq (dCallF f__law_e_no_houses (aCons (dVar 1) (aCons (dVar 3) aNil)))) (gN 5)
  (sIf (bOr (dTst (dBin oNe (dCallF f__law_e_word (aCons (dC (.int 0)) (aCons (dCallF f__law_e_text (aCons (dVar 5) aNil)) aNil))) (dC (.str "house")))) (dTst (dBin oNe (dCallF f__law_e_word (aCons (dC (.int 1)) (aCons (dVar 5) aNil))) (dC (.str "house")))))
  (sRet (dC (.bl false)))
  sNil))
  (sIf (bOr (dTst (dBin oNe (dCallF f__law_e_word (aCons (dC (.int 0)) (aCons (dVar 4) aNil))) (dC (.str "")))) (dTst (dBin oNe (dCallF f_read_house (aCons (dVar 4) aNil)) (dVar 3))))
  (sRet (dC (.bl false)))
  sNil)))))))
  (sRet (dC (.bl true)))))
noncomputable def f_law : Fn := dFun0 6 d_law
theorem ok_law {k : Nat} {f : Addr} {fd : FuncData} (F : Fun K "law" "law" st_law f fd) (c__law_e_house : Callee P w K mg base CX0 k "_law_e_house" 1 f__law_e_house) (c__law_e_text : Callee P w K mg base CX0 k "_law_e_text" 1 f__law_e_text) (c__law_e_no_texts : Callee P w K mg base CX0 k "_law_e_no_texts" 2 f__law_e_no_texts) (c__law_e_word : Callee P w K mg base CX0 k "_law_e_word" 2 f__law_e_word) (c__law_e_no_houses : Callee P w K mg base CX0 k "_law_e_no_houses" 2 f__law_e_no_houses) (c_read_house : Callee P w K mg base (L2.CX P w) k "read_house" 1 f_read_house) (m_range : mg "range" = none) (m_len : mg "len" = none) : FnOk P w K mg base CX0 (k + 1) f fd ["script"] (spD K mg 1 f_law) := by
  have sc := sc_law
  refine Fun.okD F sc rfl fun cdv A outer s H E hr => ?_
  exact (ds_cons (ds_set 1 sc.nd (de_cell (da_cons (de_var 0) (da_cons de_int (da_cons de_int da_nil)))))
  (ds_cons (ds_for PassesOwn.never (by rfl) (di_range1 rfl m_range (da_cons de_int da_nil)) (dg_name 2 sc.nd)
  (ds_cons (ds_if (PW.pt (dw_and (dt_cmp od_gt (de_var 2) de_int (nomark _)) (dw_and1 (dt_cmp od_ge (de_ix xd_ix (de_var 1) de_int (fun _ _ => rfl)) (de_callB cd_len rfl m_len PySem.boot_len (da_cons (de_var 0) da_nil)) (nomark _)))))
  (ds_one ds_break)
  ds_nil)
  (ds_cons (ds_set 3 sc.nd (de_unl (de_callC c__law_e_house hr thru0 (an_cons (de_var 1) an_nil))))
  (ds_cons (ds_set 4 sc.nd (de_callC c__law_e_text hr thru0 (an_cons (de_var 3) an_nil)))
  (ds_cons (ds_for PassesOwn.never (by rfl) (di_seq (de_callC c__law_e_no_texts hr thru0 (an_cons (de_var 1) (an_cons (de_var 4) an_nil)))) (dg_name 5 sc.nd)
  (ds_one (ds_if (dt_cmp (od_ne hr.units) (de_callC c__law_e_word hr thru0 (an_cons de_int (an_cons (de_var 5) an_nil))) de_str (nomark _))
  (ds_one (ds_ret de_bl))
  ds_nil)))
  (ds_cons (ds_for PassesOwn.never (by rfl) (di_seq (de_callC c__law_e_no_houses hr thru0 (an_cons (de_var 1) (an_cons (de_var 3) an_nil)))) (dg_name 5 sc.nd)
  (ds_one (ds_if (PW.pt (dw_or (dt_cmp (od_ne hr.units) (de_callC c__law_e_word hr thru0 (an_cons de_int (an_cons (de_callC c__law_e_text hr thru0 (an_cons (de_var 5) an_nil)) an_nil))) de_str (nomark _)) (dw_or1 (dt_cmp (od_ne hr.units) (de_callC c__law_e_word hr thru0 (an_cons de_int (an_cons (de_var 5) an_nil))) de_str (nomark _)))))
  (ds_one (ds_ret de_bl))
  ds_nil)))
  (ds_one (ds_if (PW.pt (dw_or (dt_cmp (od_ne hr.units) (de_callC c__law_e_word hr thru0 (an_cons de_int (an_cons (de_var 4) an_nil))) de_str (nomark _)) (dw_or1 (dt_cmp (od_ne hr.units) (de_callC c_read_house hr (thruX takes0) (an_cons (de_var 4) an_nil)) (de_var 3) (nomark _)))))
  (ds_one (ds_ret de_bl))
  ds_nil))))))))
  (ds_one (ds_ret de_bl))))
end
end G
end DL
end L2
set_option Elab.async false
set_option linter.all false
set_option maxRecDepth 100000
namespace L2
namespace DL
open PySem PySem.Spec PyProof.Rows
local macro_rules
  | `(tactic| simp_arith [$ls,*]) => `(tactic| simp only [wps, w_C, w_Var, k_Var, w_Bin, k_Bin1, k_Bin2, w_Tst, k_B, w_Chain, k_Ch1, k_Ch2, k_Ch3t, k_Ch3f, k_Ch4, w_And, w_Or, w_Not, k_Andt, k_Andf, k_Ort, k_Orf, k_Not, w_bAnd, w_bOr, w_bNot, w_bYes, k_bAndt, k_bAndf, k_bOrt, k_bOrf, k_bNot, w_dIf, k_dIft, k_dIff, w_aNil, w_aCons, k_Cons1, k_Cons2, w_Tup, w_Lst, w_Cell, k_Tup, k_Lst, k_Cell, w_Call, k_Call, w_CallF, k_CallF, w_CallN, k_CallN, k_New, k_AddN1, w_Un, k_Un, w_Sl, k_Sl1, k_Sl2, k_Sl3, w_No, w_So, k_So, w_iSeq, k_Items, w_Range1, w_Range2, k_Rng1, k_Rng2, w_iEnum, k_Enum, w_Comp, k_Comp, k_AsL, w_TupRg, w_LstRg, k_TupRg, k_LstRg, w_Rev, k_Rev, rev_tup, rev_lst, k_Di1, k_PT1, k_PT2, w_Nil, w_Nop, w_Fl, w_Seq, k_Seqn, k_Seqr, k_Seqb, k_Seqc, w_Expr, k_Drop, w_Ret, k_Ret, w_Set, k_Set, w_Asg, k_Asg1, k_Nx, w_If, k_Ift, k_Iff, w_For, k_For, k_Put1, k_Put2, w_Fun, w_Fun0, k_Funn, k_Funr, w_newK, w_newT, asB_bl, gN, gTupD, gsCons, gsNil, wipeE, itemsOf, seqItems, len_str, add_ii, sub_ii, neg_i, lt_ii, le_ii, gt_ii, ge_ii, eq_ii, ne_ii, eq_ss, ne_ss, isnot_bb, is_bb, is_non, isnot_non, isNonD, ix_tupD, ix_lstD, ix_fzD, at_lit0, at_lit1, at_lit2, at_lit3, len_fz, len_lst, len_tup, List.map_cons, List.map_nil, List.length_cons, List.length_nil, List.getElem?_cons_zero, List.getElem?_cons_succ, List.set_cons_zero, List.set_cons_succ, List.cons_append, List.nil_append, List.replicate_succ, List.replicate_zero, Nat.reduceSub, Nat.reduceAdd, Nat.reduceLeDiff, if_true, if_false, Bool.false_eq_true, Bool.true_eq_false, Bool.not_true, Bool.not_false, Option.bind_some, Option.map_some, Nat.zero_add, ite_true, ite_false, Int.cast_ofNat_Int, Int.natCast_zero, Int.natCast_one, Int.reduceLT, Int.reduceLE, Int.reduceEq, Int.reduceAdd, Int.reduceSub, Int.reduceNeg, decide_true, decide_false, true_and, and_true, le_size, add_ll, add_tt, tuple_lst, tuple_tup, list_tup, list_lst, sl_tup, sl_lst, ii_non_int, ii_non_bool, ii_non_str, ii_non_tuple, ii_non_list, ii_non_dict, ii_bl_int, ii_bl_bool, ii_bl_str, ii_bl_tuple, ii_bl_list, ii_bl_dict, ii_int_int, ii_int_bool, ii_int_str, ii_int_tuple, ii_int_list, ii_int_dict, ii_str_int, ii_str_bool, ii_str_str, ii_str_tuple, ii_str_list, ii_str_dict, ii_tup_int, ii_tup_bool, ii_tup_str, ii_tup_tuple, ii_tup_list, ii_tup_dict, ii_lst_int, ii_lst_bool, ii_lst_str, ii_lst_tuple, ii_lst_list, ii_lst_dict, ii_fz_int, ii_fz_bool, ii_fz_str, ii_fz_tuple, ii_fz_list, ii_fz_dict, w_newN, w_CallT, k_CallT, k_NewT, w_M1, k_M1, k_M1b, w_Lower, $ls,*])
  | `(tactic| simp_arith) => `(tactic| simp_arith [wps])
  | `(tactic| simp_arith [$ls,*] $l:location) => `(tactic| simp only [wps, w_C, w_Var, k_Var, w_Bin, k_Bin1, k_Bin2, w_Tst, k_B, w_Chain, k_Ch1, k_Ch2, k_Ch3t, k_Ch3f, k_Ch4, w_And, w_Or, w_Not, k_Andt, k_Andf, k_Ort, k_Orf, k_Not, w_bAnd, w_bOr, w_bNot, w_bYes, k_bAndt, k_bAndf, k_bOrt, k_bOrf, k_bNot, w_dIf, k_dIft, k_dIff, w_aNil, w_aCons, k_Cons1, k_Cons2, w_Tup, w_Lst, w_Cell, k_Tup, k_Lst, k_Cell, w_Call, k_Call, w_CallF, k_CallF, w_CallN, k_CallN, k_New, k_AddN1, w_Un, k_Un, w_Sl, k_Sl1, k_Sl2, k_Sl3, w_No, w_So, k_So, w_iSeq, k_Items, w_Range1, w_Range2, k_Rng1, k_Rng2, w_iEnum, k_Enum, w_Comp, k_Comp, k_AsL, w_TupRg, w_LstRg, k_TupRg, k_LstRg, w_Rev, k_Rev, rev_tup, rev_lst, k_Di1, k_PT1, k_PT2, w_Nil, w_Nop, w_Fl, w_Seq, k_Seqn, k_Seqr, k_Seqb, k_Seqc, w_Expr, k_Drop, w_Ret, k_Ret, w_Set, k_Set, w_Asg, k_Asg1, k_Nx, w_If, k_Ift, k_Iff, w_For, k_For, k_Put1, k_Put2, w_Fun, w_Fun0, k_Funn, k_Funr, w_newK, w_newT, asB_bl, gN, gTupD, gsCons, gsNil, wipeE, itemsOf, seqItems, len_str, add_ii, sub_ii, neg_i, lt_ii, le_ii, gt_ii, ge_ii, eq_ii, ne_ii, eq_ss, ne_ss, isnot_bb, is_bb, is_non, isnot_non, isNonD, ix_tupD, ix_lstD, ix_fzD, at_lit0, at_lit1, at_lit2, at_lit3, len_fz, len_lst, len_tup, List.map_cons, List.map_nil, List.length_cons, List.length_nil, List.getElem?_cons_zero, List.getElem?_cons_succ, List.set_cons_zero, List.set_cons_succ, List.cons_append, List.nil_append, List.replicate_succ, List.replicate_zero, Nat.reduceSub, Nat.reduceAdd, Nat.reduceLeDiff, if_true, if_false, Bool.false_eq_true, Bool.true_eq_false, Bool.not_true, Bool.not_false, Option.bind_some, Option.map_some, Nat.zero_add, ite_true, ite_false, Int.cast_ofNat_Int, Int.natCast_zero, Int.natCast_one, Int.reduceLT, Int.reduceLE, Int.reduceEq, Int.reduceAdd, Int.reduceSub, Int.reduceNeg, decide_true, decide_false, true_and, and_true, le_size, add_ll, add_tt, tuple_lst, tuple_tup, list_tup, list_lst, sl_tup, sl_lst, ii_non_int, ii_non_bool, ii_non_str, ii_non_tuple, ii_non_list, ii_non_dict, ii_bl_int, ii_bl_bool, ii_bl_str, ii_bl_tuple, ii_bl_list, ii_bl_dict, ii_int_int, ii_int_bool, ii_int_str, ii_int_tuple, ii_int_list, ii_int_dict, ii_str_int, ii_str_bool, ii_str_str, ii_str_tuple, ii_str_list, ii_str_dict, ii_tup_int, ii_tup_bool, ii_tup_str, ii_tup_tuple, ii_tup_list, ii_tup_dict, ii_lst_int, ii_lst_bool, ii_lst_str, ii_lst_tuple, ii_lst_list, ii_lst_dict, ii_fz_int, ii_fz_bool, ii_fz_str, ii_fz_tuple, ii_fz_list, ii_fz_dict, w_newN, w_CallT, k_CallT, k_NewT, w_M1, k_M1, k_M1b, w_Lower, $ls,*] $l:location)
  | `(tactic| simp_arith $l:location) => `(tactic| simp_arith [wps] $l:location)
/-! ### rows of pairs -/
section
variable {κ α β : Type} [DecidableEq κ]
def dropA (l : List (κ × α)) (k : κ) : List (κ × α) := l.filter fun e => decide (e.1 ≠ k)
theorem map_drop (f : α → β) (l : List (κ × α)) (k : κ) : (dropA l k).map (fun e => (e.1, f e.2)) = dropA (l.map fun e => (e.1, f e.2)) k := by
  unfold dropA
  rw [List.filter_map]
  rfl
end

namespace G
/-! ### what is a loose house -/
def wholeB : D → Bool
  | .int _ => true
  | _ => false
def fromTo (a b : Int) : D → Bool
  | .int i => decide (a ≤ i) && decide (i ≤ b)
  | _ => false
def LETS : Str := "abcdefghijklmnopqrstuvwxyz"
def wordB : D → Bool
  | .str x => decide (1 ≤ x.length) && decide (x.length ≤ 8) && x.cps.toList.all fun c => decide (c ∈ LETS.cps.toList)
  | _ => false
theorem whole_wp {d : D} {S : Sto} {P : D → Sto → Prop} (h : typedD S d = true) (k : P (.bl (wholeB d)) S) : Wp (f_is_whole [d] S) P := by
  unfold f_is_whole d_is_whole
  cases d with
  | ref n => simp_arith [ir_int h]; exact k
  | ty n => cases h
  | _ => simp_arith; exact k
theorem from_wp {d : D} {a b : Int} {S : Sto} {P : D → Sto → Prop} (h : typedD S d = true) (k : P (.bl (fromTo a b d)) S) : Wp (f_is_from_to [d, .int a, .int b] S) P := by
  unfold f_is_from_to d_is_from_to
  simp_arith
  refine whole_wp h ?_
  cases d with
  | int i =>
    simp_arith [wholeB]
    by_cases h1 : a ≤ i
    · simp_arith [decide_eq_true h1]
      unfold fromTo at k
      dsimp only at k
      rw [decide_eq_true h1, Bool.true_and] at k
      exact k
    · simp_arith [decide_eq_false h1]
      unfold fromTo at k
      dsimp only at k
      rw [decide_eq_false h1, Bool.false_and] at k
      exact k
  | ty n => cases h
  | _ => simp_arith [wholeB]; exact k
theorem word_wp {d : D} {S : Sto} {P : D → Sto → Prop} (h : typedD S d = true) (hx : ∀ x, d = .str x → x.length ≤ 1000) (k : P (.bl (wordB d)) S) : Wp (f_is_word [d] S) P := by
  unfold f_is_word d_is_word
  cases d with
  | str x =>
    have hl := hx x rfl
    have hz : x.length ≤ sizeLine := by have e := sizeLine_eq; omega
    simp_arith [len_str hz]
    unfold wordB at k
    dsimp only at k
    by_cases h1 : (1 : Int) ≤ (x.length : Int)
    · by_cases h2 : (x.length : Int) ≤ 8
      · simp_arith [decide_eq_true h1, decide_eq_true h2]
        refine compGo_pure (fun d => match d with | .str y => .bl (match signOf y with | some c => decide (c ∈ LETS.cps.toList) | none => false) | d => d) ?_ (fun d hd => ?_) ?_
        · unfold signs
          rw [List.length_map]
          exact hz
        · unfold signs at hd
          obtain ⟨c, hc, e⟩ := List.mem_map.mp hd
          subst e
          refine ⟨_, rfl, ?_⟩
          have e1 : oIn false S (.str ⟨#[c]⟩) (.str "abcdefghijklmnopqrstuvwxyz") = some (.bl (decide (c ∈ LETS.cps.toList))) := by
            refine (orO_none rfl).trans ((orO_none rfl).trans ?_)
            show some (D.bl (false ^^ decide (c ∈ LETS.cps.toList))) = _
            rw [Bool.false_xor]
          simp_arith [e1]
          rfl
        · have e2 : (signs x).map (fun d => match d with | .str y => .bl (match signOf y with | some c => decide (c ∈ LETS.cps.toList) | none => false) | d => d) = x.cps.toList.map fun c => D.bl (decide (c ∈ LETS.cps.toList)) := by
            unfold signs
            rw [List.map_map]
            rfl
          rw [e2]
          simp_arith [all_lst]
          rw [decide_eq_true (show 1 ≤ x.length by omega), decide_eq_true (show x.length ≤ 8 by omega)] at k
          exact k
      · simp_arith [decide_eq_true h1, decide_eq_false h2]
        rw [decide_eq_false (show ¬ x.length ≤ 8 by omega), Bool.and_false, Bool.false_and] at k
        exact k
    · simp_arith [decide_eq_false h1]
      rw [decide_eq_false (show ¬ 1 ≤ x.length by omega), Bool.false_and, Bool.false_and] at k
      exact k
  | ref n => simp_arith [ir_str h]; exact k
  | ty n => cases h
  | _ => simp_arith; exact k
mutual
/-- texts in a thing are short -/
def shortD : D → Bool
  | .str x => decide (x.length ≤ 1000)
  | .tup ds => shortL ds
  | .lst ds => shortL ds
  | .fz ds => shortL ds
  | _ => true
def shortL : List D → Bool
  | [] => true
  | d :: ds => shortD d && shortL ds
end
theorem short_mem : ∀ {ds : List D} {d : D}, shortL ds = true → d ∈ ds → shortD d = true
  | [], _, _, h => by cases h
  | x :: xs, d, h, hm => by
    unfold shortL at h
    rw [Bool.and_eq_true] at h
    rcases List.mem_cons.mp hm with e | e
    · rw [e]; exact h.1
    · exact short_mem h.2 e
def okD (S : Sto) (d : D) : Prop := typedD S d = true ∧ shortD d = true
theorem okD.mem {S : Sto} {ds : List D} (h : okD S (.tup ds)) {d : D} (hd : d ∈ ds) : okD S d := ⟨typed_mem (show typedL S ds = true from h.1) hd, short_mem (show shortL ds = true from h.2) hd⟩
theorem from_wp' {d : D} {a b : Int} {S : Sto} {P : D → Sto → Prop} (h : okD S d) (k : P (.bl (fromTo a b d)) S) : Wp (f_is_from_to [d, .int a, .int b] S) P := from_wp h.1 k
theorem word_wp' {d : D} {S : Sto} {P : D → Sto → Prop} (h : okD S d) (k : P (.bl (wordB d)) S) : Wp (f_is_word [d] S) P := word_wp h.1 (fun x e => by subst e; exact of_decide_eq_true h.2) k

/-! ### what has the form of a house -/
def MD : List Str := ["both", "come", "go"]
def memberB (walls last : Int) : D → Bool
  | .tup [w, .str m] => fromTo (last + 1) (walls - 1) w && decide (m ∈ MD)
  | _ => false
def numOf : D → Int
  | .tup (.int i :: _) => i
  | _ => 0
def membersGo (walls : Int) : Int → List D → Bool
  | _, [] => true
  | last, d :: ds => memberB walls last d && membersGo walls (numOf d) ds
def membersB (walls : Int) : D → Bool
  | .tup ds => membersGo walls (-1) ds
  | _ => false
def hthreeB (boxes walls scripts at' : Int) (w : Str) (a c : D) : Bool :=
  if w = "raise" then fromTo 0 (boxes - 1) a && fromTo 1 99 c
  else if w = "await" then fromTo 0 (boxes - 1) a && fromTo 1 9999 c
  else decide (w = "begin") && (fromTo (at' + 1) (scripts - 1) a && membersB walls c)
def htwoB (walls : Int) (w : Str) (a : D) : Bool :=
  if w = "work" then fromTo 0 999 a
  else if w = "say" then wordB a
  else decide (w ∈ (["come", "go", "leave"] : List Str)) && fromTo 0 (walls - 1) a
def hdeedB (boxes walls scripts at' : Int) : D → Bool
  | .tup [.str w, a, c] => hthreeB boxes walls scripts at' w a c
  | .tup [.str w, a] => htwoB walls w a
  | _ => false
def callingB (walls scripts : Int) : D → Bool
  | .tup [a, ms] => fromTo 0 (scripts - 1) a && membersB walls ms
  | _ => false
def hscriptB (boxes walls scripts at' : Int) : D → Bool
  | .tup ds => decide (ds.length ≤ 80) && ds.all (hdeedB boxes walls scripts at')
  | _ => false
def hscriptsB (boxes walls scripts : Int) : Nat → List D → Bool
  | _, [] => true
  | k, d :: ds => hscriptB boxes walls scripts k d && hscriptsB boxes walls scripts (k + 1) ds
def preB : D → Bool
  | .tup [.int b, .int w, .tup fs, .tup ss] => decide (0 ≤ b) && decide (b ≤ 99) && (decide (0 ≤ w) && decide (w ≤ 6)) && (decide (1 ≤ fs.length) && decide (fs.length ≤ 40)) && (decide (1 ≤ ss.length) && decide (ss.length ≤ 20)) && hscriptsB b w ss.length 0 ss && fs.all (callingB w ss.length)
  | _ => false
section
variable {S : Sto} {P : D → Sto → Prop}
theorem members_wp {walls : Int} {d : D} (h : okD S d) (k : P (.bl (membersB walls d)) S) : Wp (f_is_members [.int walls, d] S) P := by
  unfold f_is_members d_is_members
  by_cases ht : isTupD d = true
  case neg =>
    have e0 : membersB walls d = false := by
      cases d with
      | tup ds => exact absurd rfl ht
      | _ => rfl
    rw [e0] at k
    have i := it_tuple h.1
    rw [Bool.eq_false_iff.mpr ht] at i
    simp_arith [i]
    exact k
  cases d with
  | tup ds =>
    simp_arith
    refine forGo_wp (fun rest env T => ∃ (last : Int) (e3 : Option D), env = [some (.int walls), some (.tup ds), some (.int last), e3] ∧ T = S ∧ (∀ x ∈ rest, okD S x) ∧ membersGo walls (-1) ds = membersGo walls last rest) _ _ _
      ⟨-1, none, rfl, rfl, fun x hx => h.mem hx, rfl⟩ (fun x rest env T hI => ?_) fun env T hI => ?_
    · obtain ⟨last, e3, e, eT, hr, hm⟩ := hI
      subst e eT
      have hx := hr x List.mem_cons_self
      refine ⟨_, rfl, ?_⟩
      have hm2 : membersGo walls last (x :: rest) = (memberB walls last x && membersGo walls (numOf x) rest) := rfl
      rw [hm2] at hm
      have bad : memberB walls last x = false → P (.bl false) T := fun q => by
        have e1 : membersB walls (.tup ds) = false := by
          show membersGo walls (-1) ds = false
          rw [hm, q, Bool.false_and]
        rw [e1] at k
        exact k
      by_cases htx : isTupD x = true
      case neg =>
        have i := it_tuple hx.1
        rw [Bool.eq_false_iff.mpr htx] at i
        simp_arith [i]
        refine bad ?_
        cases x with
        | tup ds => exact absurd rfl htx
        | _ => rfl
      cases x with
      | tup xs =>
        match xs, hx, hm, bad with
        | [], hx, hm, bad => simp_arith; exact bad rfl
        | [a], hx, hm, bad => simp_arith; refine bad ?_; cases a <;> rfl
        | a :: b :: c :: r, hx, hm, bad =>
          simp_arith [decide_eq_false (show ¬ ((r.length + 1 + 1 + 1 : Nat) : Int) = 2 by omega)]
          refine bad ?_
          cases b <;> rfl
        | [a, b], hx, hm, bad =>
          have ha := hx.mem (d := a) List.mem_cons_self
          have hb := hx.mem (d := b) (List.mem_cons_of_mem _ List.mem_cons_self)
          simp_arith
          refine from_wp' ha ?_
          cases hf : fromTo (last + 1) (walls - 1) a with
          | false =>
            simp_arith
            refine bad ?_
            cases b with
            | str m => show (fromTo (last + 1) (walls - 1) a && _) = false; rw [hf, Bool.false_and]
            | _ => rfl
          | true =>
            by_cases hs : isStrD b = true
            case neg =>
              have i := it_str hb.1
              rw [Bool.eq_false_iff.mpr hs] at i
              simp_arith [i]
              refine bad ?_
              cases b with
              | str m => exact absurd rfl hs
              | _ => rfl
            cases b with
            | str m =>
              simp_arith
              refine w_InG ?_
              simp_arith [k_InG, Bool.true_xor]
              have em : memberB walls last (.tup [a, .str m]) = decide (m ∈ MD) := by
                show (fromTo (last + 1) (walls - 1) a && decide (m ∈ MD)) = _
                rw [hf, Bool.true_and]
              refine k_Ifn (fun c => ?_) fun c => ?_
              · simp_arith
                refine bad ?_
                rw [em]
                exact decide_eq_false c
              · simp_arith
                rw [em, decide_eq_true (show m ∈ MD from c), Bool.true_and] at hm
                cases a with
                | int i => exact ⟨_, _, rfl, fun y hy => hr y (List.mem_cons_of_mem _ hy), hm⟩
                | _ => cases hf
            | _ => cases hs
      | _ => cases htx
    · obtain ⟨last, e3, e, eT, hr, hm⟩ := hI
      subst e eT
      have e1 : membersB walls (.tup ds) = true := by
        show membersGo walls (-1) ds = true
        rw [hm]
        rfl
      rw [e1] at k
      simp_arith
      exact k
  | _ => cases ht
theorem flDL_strs : ∀ ns : List Str, flDL (ns.map D.str) = some (ns.map V.str)
  | [] => rfl
  | n :: ns => by
    rw [List.map_cons]
    unfold flDL
    rw [flDL_strs ns]
    rfl
theorem in_strs {S : Sto} {w : Str} {ns : List Str} (neg : Bool) : oIn neg S (.str w) (.tup (ns.map D.str)) = some (.bl (neg ^^ decide (w ∈ ns))) := by
  refine orO_some ?_
  show (flDL (ns.map D.str)).map _ = _
  rw [flDL_strs, Option.map_some, inV_strs]
  cases neg <;> simp
theorem in_come {T : Sto} (w : Str) : oIn false T (.str w) (.tup [.str "come", .str "go", .str "leave"]) = some (.bl (decide (w ∈ (["come", "go", "leave"] : List Str)))) :=
  (in_strs (ns := ["come", "go", "leave"]) false).trans (by rw [Bool.false_xor])
theorem hdeed_wp {b w n a' : Int} {d : D} (h : okD S d) (k : P (.bl (hdeedB b w n a' d)) S) : Wp (f_is_deed [.int b, .int w, .int n, .int a', d] S) P := by
  unfold f_is_deed d_is_deed
  by_cases ht : isTupD d = true
  case neg =>
    have e0 : hdeedB b w n a' d = false := by
      cases d with
      | tup ds => exact absurd rfl ht
      | _ => rfl
    rw [e0] at k
    have i := it_tuple h.1
    rw [Bool.eq_false_iff.mpr ht] at i
    simp_arith [i]
    exact k
  cases d with
  | tup ds =>
    match ds, h, k with
    | [], h, k => simp_arith; exact k
    | [x], h, k => simp_arith; cases x <;> exact k
    | s :: x :: r, h, k =>
      have hw := h.mem (d := s) List.mem_cons_self
      have hx := h.mem (d := x) (List.mem_cons_of_mem _ List.mem_cons_self)
      have hlen : ¬ ((r.length + 1 + 1 : Nat) : Int) < 2 := by omega
      by_cases hs : isStrD s = true
      case neg =>
        have e0 : hdeedB b w n a' (.tup (s :: x :: r)) = false := by
          cases s with
          | str ds => exact absurd rfl hs
          | _ => match r with
            | [] => rfl
            | [c] => rfl
            | _ :: _ :: _ => rfl
        rw [e0] at k
        have i := it_str hw.1
        rw [Bool.eq_false_iff.mpr hs] at i
        simp_arith [decide_eq_false hlen, i]
        exact k
      cases s with
      | str s =>
        simp_arith [decide_eq_false hlen]
        match r, h, k, hlen with
        | [], h, k, hlen =>
          have e0 : hdeedB b w n a' (.tup [.str s, x]) = htwoB w s x := rfl
          rw [e0] at k
          unfold htwoB at k
          simp_arith
          by_cases h1 : s = "work"
          · rw [if_pos h1] at k
            simp_arith [decide_eq_true h1]
            refine from_wp' hx ?_
            simp_arith
            exact k
          rw [if_neg h1] at k
          simp_arith [decide_eq_false h1]
          by_cases h2 : s = "say"
          · rw [if_pos h2] at k
            simp_arith [decide_eq_true h2]
            refine word_wp' hx ?_
            simp_arith
            exact k
          rw [if_neg h2] at k
          simp_arith [decide_eq_false h2, in_come]
          by_cases h3 : s ∈ (["come", "go", "leave"] : List Str)
          · rw [decide_eq_true h3, Bool.true_and] at k
            simp_arith [decide_eq_true h3]
            refine from_wp' hx ?_
            simp_arith
            exact k
          · rw [decide_eq_false h3, Bool.false_and] at k
            simp_arith [decide_eq_false h3]
            exact k
        | [c], h, k, hlen =>
          have hc := h.mem (d := c) (by simp)
          have e0 : hdeedB b w n a' (.tup [.str s, x, c]) = hthreeB b w n a' s x c := rfl
          rw [e0] at k
          unfold hthreeB at k
          simp_arith
          by_cases h1 : s = "raise"
          · rw [if_pos h1] at k
            simp_arith [decide_eq_true h1]
            refine from_wp' hx ?_
            cases hf : fromTo 0 (b - 1) x with
            | false => rw [hf, Bool.false_and] at k; simp_arith; exact k
            | true =>
              rw [hf, Bool.true_and] at k
              simp_arith
              refine from_wp' hc ?_
              simp_arith
              exact k
          rw [if_neg h1] at k
          simp_arith [decide_eq_false h1]
          by_cases h2 : s = "await"
          · rw [if_pos h2] at k
            simp_arith [decide_eq_true h2]
            refine from_wp' hx ?_
            cases hf : fromTo 0 (b - 1) x with
            | false => rw [hf, Bool.false_and] at k; simp_arith; exact k
            | true =>
              rw [hf, Bool.true_and] at k
              simp_arith
              refine from_wp' hc ?_
              simp_arith
              exact k
          rw [if_neg h2] at k
          simp_arith [decide_eq_false h2]
          by_cases h3 : s = "begin"
          · rw [decide_eq_true h3, Bool.true_and] at k
            simp_arith [decide_eq_true h3]
            refine from_wp' hx ?_
            cases hf : fromTo (a' + 1) (n - 1) x with
            | false => rw [hf, Bool.false_and] at k; simp_arith; exact k
            | true =>
              rw [hf, Bool.true_and] at k
              simp_arith
              refine members_wp hc ?_
              simp_arith
              exact k
          · rw [decide_eq_false h3, Bool.false_and] at k
            simp_arith [decide_eq_false h3]
            exact k
        | c :: f :: r2, h, k, hlen =>
          have e0 : hdeedB b w n a' (.tup (.str s :: x :: c :: f :: r2)) = false := rfl
          rw [e0] at k
          simp_arith [decide_eq_false (show ¬ ((r2.length + 1 + 1 + 1 + 1 : Nat) : Int) = 3 by omega), decide_eq_false (show ¬ ((r2.length + 1 + 1 + 1 + 1 : Nat) : Int) = 2 by omega)]
          exact k
      | _ => cases hs
  | _ => cases ht
theorem calling_wp {w n : Int} {d : D} (h : okD S d) (k : P (.bl (callingB w n d)) S) : Wp (f_is_calling [.int w, .int n, d] S) P := by
  unfold f_is_calling d_is_calling
  by_cases ht : isTupD d = true
  case neg =>
    have e0 : callingB w n d = false := by
      cases d with
      | tup ds => exact absurd rfl ht
      | _ => rfl
    rw [e0] at k
    have i := it_tuple h.1
    rw [Bool.eq_false_iff.mpr ht] at i
    simp_arith [i]
    exact k
  cases d with
  | tup ds =>
    match ds, h, k with
    | [], h, k => simp_arith; exact k
    | [x], h, k => simp_arith; exact k
    | x :: y :: z :: r, h, k =>
      have e0 : callingB w n (.tup (x :: y :: z :: r)) = false := rfl
      rw [e0] at k
      simp_arith [decide_eq_false (show ¬ ((r.length + 1 + 1 + 1 : Nat) : Int) = 2 by omega)]
      exact k
    | [x, y], h, k =>
      have e0 : callingB w n (.tup [x, y]) = (fromTo 0 (n - 1) x && membersB w y) := rfl
      rw [e0] at k
      simp_arith
      refine from_wp' (h.mem (by simp)) ?_
      cases hf : fromTo 0 (n - 1) x with
      | false => rw [hf, Bool.false_and] at k; simp_arith; exact k
      | true =>
        rw [hf, Bool.true_and] at k
        simp_arith
        refine members_wp (h.mem (by simp)) ?_
        simp_arith
        exact k
  | _ => cases ht
theorem hscript_wp {b w n a' : Int} {d : D} (h : okD S d) (k : P (.bl (hscriptB b w n a' d)) S) : Wp (f_is_script [.int b, .int w, .int n, .int a', d] S) P := by
  unfold f_is_script d_is_script
  by_cases ht : isTupD d = true
  case neg =>
    have e0 : hscriptB b w n a' d = false := by
      cases d with
      | tup ds => exact absurd rfl ht
      | _ => rfl
    rw [e0] at k
    have i := it_tuple h.1
    rw [Bool.eq_false_iff.mpr ht] at i
    simp_arith [i]
    exact k
  cases d with
  | tup ds =>
    simp_arith
    unfold hscriptB at k
    dsimp only at k
    refine k_Ifd (fun h1 => ?_) fun h1 => ?_
    · rw [decide_eq_false (show ¬ ds.length ≤ 80 by omega), Bool.false_and] at k
      simp_arith
      exact k
    · rw [decide_eq_true (show ds.length ≤ 80 by omega), Bool.true_and] at k
      simp_arith
      refine compGo_pure (fun d => .bl (hdeedB b w n a' d)) (by rw [sizeLine_eq]; omega) (fun x hx => ?_) ?_
      · refine ⟨_, rfl, ?_⟩
        simp_arith
        refine hdeed_wp (h.mem hx) ?_
        simp_arith
      · simp_arith [all_lst]
        exact k
  | _ => cases ht
/-- a house, but for its callings -/
theorem ishouse_wp {d : D} (h : okD S d) (k : preB d = false → P (.bl false) S) (k2 : ∀ b w fs ss, d = .tup [.int b, .int w, .tup fs, .tup ss] → preB d = true → Wp (f_are_called_well [.tup fs, .tup ss] S) P) : Wp (f_is_house [d] S) P := by
  unfold f_is_house d_is_house
  by_cases ht : isTupD d = true
  case neg =>
    have e0 : preB d = false := by
      cases d with
      | tup ds => exact absurd rfl ht
      | _ => rfl
    have i := it_tuple h.1
    rw [Bool.eq_false_iff.mpr ht] at i
    simp_arith [i]
    exact k e0
  cases d with
  | tup ds =>
    by_cases hl : ds.length = 4
    case neg =>
      have e0 : preB (.tup ds) = false := by
        match ds, hl with
        | [], _ => rfl
        | [a], _ => cases a <;> rfl
        | [a, b], _ => cases a <;> first | rfl | (cases b <;> rfl)
        | [a, b, c], _ => cases a <;> first | rfl | (cases b <;> first | rfl | (cases c <;> rfl))
        | [_, _, _, _], hl => exact absurd rfl hl
        | a :: b :: c :: d :: _ :: _, _ => cases a <;> first | rfl | (cases b <;> first | rfl | (cases c <;> first | rfl | (cases d <;> rfl)))
      simp_arith [decide_eq_false (show ¬ ((ds.length : Nat) : Int) = 4 by omega)]
      exact k e0
    match ds, hl, h, k, k2 with
    | [b, w, fs, ss], hl, h, k, k2 =>
    have hb := h.mem (d := b) (by simp)
    have hw := h.mem (d := w) (by simp)
    have hfs := h.mem (d := fs) (by simp)
    have hss := h.mem (d := ss) (by simp)
    simp_arith
    refine from_wp' hb ?_
    cases hf : fromTo 0 99 b with
    | false =>
      simp_arith
      refine k ?_
      cases b with
      | int b =>
        have hf' : (decide (0 ≤ b) && decide (b ≤ 99)) = false := hf
        cases w <;> first | rfl | (cases fs <;> first | rfl | (cases ss <;> first | rfl | (unfold preB; dsimp only; rw [hf']; simp only [Bool.false_and])))
      | _ => rfl
    | true =>
      cases b with
      | int b =>
        have hf' : (decide (0 ≤ b) && decide (b ≤ 99)) = true := hf
        simp_arith
        refine from_wp' hw ?_
        cases hg : fromTo 0 6 w with
        | false =>
          simp_arith
          refine k ?_
          cases w with
          | int w =>
            have hg' : (decide (0 ≤ w) && decide (w ≤ 6)) = false := hg
            cases fs <;> first | rfl | (cases ss <;> first | rfl | (unfold preB; dsimp only; rw [hg']; simp only [Bool.false_and, Bool.and_false]))
          | _ => rfl
        | true =>
          cases w with
          | int w =>
            have hg' : (decide (0 ≤ w) && decide (w ≤ 6)) = true := hg
            by_cases hft : isTupD fs = true
            case neg =>
              have i := it_tuple hfs.1
              rw [Bool.eq_false_iff.mpr hft] at i
              simp_arith [i]
              refine k ?_
              cases fs with
              | tup ds => exact absurd rfl hft
              | _ => rfl
            cases fs with
            | tup fs =>
              simp_arith
              have pre1 : ∀ ss', ¬ (1 ≤ fs.length ∧ fs.length ≤ 40) → preB (.tup [.int b, .int w, .tup fs, ss']) = false := fun ss' q => by
                cases ss' with
                | tup ss =>
                  unfold preB
                  dsimp only
                  have e : (decide (1 ≤ fs.length) && decide (fs.length ≤ 40)) = false := by
                    rw [Bool.and_eq_false_iff, decide_eq_false_iff_not, decide_eq_false_iff_not]
                    omega
                  rw [e]
                  simp only [Bool.false_and, Bool.and_false]
                | _ => rfl
              refine k_Ch3d (fun f1 => ?_) fun f1 => ?_
              · simp_arith
                refine k_Ifn (fun f2 => ?_) fun f2 => ?_
                · simp_arith
                  exact k (pre1 _ (by omega))
                · have e1 : (decide (1 ≤ fs.length) && decide (fs.length ≤ 40)) = true := by rw [decide_eq_true (show 1 ≤ fs.length by omega), decide_eq_true (show fs.length ≤ 40 by omega)]; rfl
                  by_cases hst : isTupD ss = true
                  case neg =>
                    have i := it_tuple hss.1
                    rw [Bool.eq_false_iff.mpr hst] at i
                    simp_arith [i]
                    refine k ?_
                    cases ss with
                    | tup ds => exact absurd rfl hst
                    | _ => rfl
                  cases ss with
                  | tup ss =>
                    simp_arith
                    have pre2 : ¬ (1 ≤ ss.length ∧ ss.length ≤ 20) → preB (.tup [.int b, .int w, .tup fs, .tup ss]) = false := fun q => by
                      unfold preB
                      dsimp only
                      have e : (decide (1 ≤ ss.length) && decide (ss.length ≤ 20)) = false := by
                        rw [Bool.and_eq_false_iff, decide_eq_false_iff_not, decide_eq_false_iff_not]
                        omega
                      rw [e]
                      simp only [Bool.false_and, Bool.and_false]
                    refine k_Ch3d (fun g1 => ?_) fun g1 => ?_
                    · simp_arith
                      refine k_Ifn (fun g2 => ?_) fun g2 => ?_
                      · simp_arith
                        exact k (pre2 (by omega))
                      · have e2 : (decide (1 ≤ ss.length) && decide (ss.length ≤ 20)) = true := by rw [decide_eq_true (show 1 ≤ ss.length by omega), decide_eq_true (show ss.length ≤ 20 by omega)]; rfl
                        have epre : preB (.tup [.int b, .int w, .tup fs, .tup ss]) = (hscriptsB b w ss.length 0 ss && fs.all (callingB w ss.length)) := by
                          unfold preB
                          dsimp only
                          rw [hf', hg', e1, e2]
                          simp only [Bool.true_and]
                        simp_arith
                        refine forGo_wp (fun rest env T => ∃ (i : Nat) (l : List D) (e6 e7 : Option D), rest = enumL i l ∧ env = [some (.tup [.int b, .int w, .tup fs, .tup ss]), some (.int b), some (.int w), some (.tup fs), some (.tup ss), some (.int (ss.length : Int)), e6, e7, none] ∧ T = S ∧ (∀ x ∈ l, okD S x) ∧ hscriptsB b w ss.length 0 ss = hscriptsB b w ss.length i l) _ _ _
                          ⟨0, ss, none, none, rfl, rfl, rfl, fun x hx => hss.mem hx, rfl⟩ (fun x rest env T hI => ?_) fun env T hI => ?_
                        · obtain ⟨i, l, e6, e7, er, e, eT, hr, hm⟩ := hI
                          cases l with
                          | nil => cases er
                          | cons y l =>
                            obtain ⟨ex, er2⟩ := List.cons.inj (show x :: rest = D.tup [.int (i : Int), y] :: enumL (i + 1) l from er)
                            subst e eT ex
                            refine ⟨_, rfl, ?_⟩
                            simp_arith
                            refine hscript_wp (hr y List.mem_cons_self) ?_
                            have hm2 : hscriptsB b w ss.length i (y :: l) = (hscriptB b w ss.length i y && hscriptsB b w ss.length (i + 1) l) := rfl
                            rw [hm2] at hm
                            cases hsb : hscriptB b w ss.length i y with
                            | false =>
                              simp_arith
                              refine k ?_
                              rw [epre, hm, hsb, Bool.false_and, Bool.false_and]
                            | true =>
                              rw [hsb, Bool.true_and] at hm
                              simp_arith
                              exact ⟨i + 1, l, _, _, er2, rfl, fun z hz => hr z (List.mem_cons_of_mem _ hz), hm⟩
                        · obtain ⟨i, l, e6, e7, er, e, eT, hr, hm⟩ := hI
                          cases l with
                          | cons y l => cases er
                          | nil =>
                            subst e eT
                            have hm1 : hscriptsB b w ss.length 0 ss = true := hm
                            rw [hm1, Bool.true_and] at epre
                            simp_arith
                            refine compGo_pure (fun d => .bl (callingB w ss.length d)) (by rw [sizeLine_eq]; omega) (fun x hx => ?_) ?_
                            · refine ⟨_, rfl, ?_⟩
                              simp_arith
                              refine calling_wp (hfs.mem hx) ?_
                              simp_arith
                            · simp_arith [all_lst]
                              cases hc : fs.all (callingB w ss.length) with
                              | false =>
                                simp_arith
                                exact k (epre.trans hc)
                              | true =>
                                simp_arith
                                refine (k2 b w fs ss rfl (epre.trans hc)).mono fun d T q => ?_
                                simp_arith
                                exact q
                    · simp_arith
                      exact k (pre2 (by omega))
                  | _ => cases hst
              · simp_arith
                exact k (pre1 _ (by omega))
            | _ => cases hft
          | _ => cases hg
      | _ => cases hf
  | _ => cases ht
end

end G
/-! ### the deck -/
def deckC (ns : List Int) (p q : Int) : Cell := .lst [.fz (ns.map D.int), .int p, .int q]
namespace G
theorem mixed_spec (cell place : Int) (S : Sto) (hp : 0 ≤ place) : ∃ x, 0 ≤ x ∧ f__law_e_mixed [.int cell, .int place] S = .ok (.int x) S := by
  have m1 : (0 : Int) < 1999999973 := by decide
  have m2 : (0 : Int) < 2147483549 := by decide
  have m3 : (0 : Int) < 2147483497 := by decide
  have m0 : (0 : Int) < 1000000009 := by decide
  by_cases hc : (1000000000000000000 : Int) ≤ cell
  · refine ⟨cell, by omega, fun0_rt (env := [some (.int cell), some (.int place), none, none, none]) ?_⟩
    have pw : oPow S (.int 10) (.int 18) = some (.int 1000000000000000000) := rfl
    simp only [d__law_e_mixed, sSeq, sIf, sRet, sSet, sExpr, sAsg, sFl, sNil, sFor, dBin, dC, dCall, dCallF, aCons, aNil, dTst, dNot, dAnd, dOr, bAnd, bOr, bNot, dChain, dUn, dTup, dLst, dCell, dIf, iSeq, iRange1, iRange2, dVar, gN, gTupD, gsCons, gsNil, dSl, oNo, oSo, asI, dComp, wipeE, Out.bind_ok, Out.bind_exc, Out.bind_bad, lift_some, lift_none, asB_bl, add_ii, sub_ii, neg_i, lt_ii, le_ii, gt_ii, ge_ii, eq_ii, ne_ii, eq_ss, ne_ss, isnot_bb, is_bb, is_non, isnot_non, ix_tupD, ix_lstD, ix_fzD, at_lit0, at_lit1, at_lit2, at_lit3, len_fz, len_lst, len_tup, itemsOf, seqItems, List.map_cons, List.map_nil, List.length_cons, List.length_nil, List.getElem?_cons_zero, List.getElem?_cons_succ, List.set_cons_zero, List.set_cons_succ, List.cons_append, List.nil_append, List.replicate_succ, List.replicate_zero, Nat.reduceSub, Nat.reduceAdd, if_true, if_false, Bool.false_eq_true, Bool.true_eq_false, Bool.not_true, Bool.not_false, Option.bind_some, Option.map_some, Nat.zero_add, ite_true, ite_false, pw, decide_eq_true hc]
  · have pw : oPow S (.int 10) (.int 18) = some (.int 1000000000000000000) := rfl
    -- the letters
    obtain ⟨one, h1⟩ : ∃ one, one = (cell % 1000000009 * 75353 + place * 4099 + 17) % 1999999973 := ⟨_, rfl⟩
    obtain ⟨two, h2⟩ : ∃ two, two = (one * one + 8191 * one + 3 * place + 1) % 2147483549 := ⟨_, rfl⟩
    obtain ⟨more, h3⟩ : ∃ more, more = (two * two + 127 * place + one) % 2147483497 := ⟨_, rfl⟩
    have b1 : 0 ≤ one := by rw [h1]; exact Int.emod_nonneg _ (by decide)
    have c1 : one < 1999999973 := by rw [h1]; exact Int.emod_lt_of_pos _ m1
    have b2 : 0 ≤ two := by rw [h2]; exact Int.emod_nonneg _ (by decide)
    have c2 : two < 2147483549 := by rw [h2]; exact Int.emod_lt_of_pos _ m2
    have b3 : 0 ≤ more := by rw [h3]; exact Int.emod_nonneg _ (by decide)
    have x1 : ∀ z, oMul S (.int z) (.int 75353) = some (.int (z * 75353)) := fun z => mul_ii S (.inr (by decide))
    have x2 : oMul S (.int place) (.int 4099) = some (.int (place * 4099)) := mul_ii S (.inr (by decide))
    have x3 : oMul S (.int one) (.int one) = some (.int (one * one)) := mul_ii S (.inr (by omega))
    have x4 : oMul S (.int 8191) (.int one) = some (.int (8191 * one)) := mul_ii S (.inl (by decide))
    have x5 : oMul S (.int 3) (.int place) = some (.int (3 * place)) := mul_ii S (.inl (by decide))
    have x6 : oMul S (.int two) (.int two) = some (.int (two * two)) := mul_ii S (.inr (by omega))
    have x7 : oMul S (.int 127) (.int place) = some (.int (127 * place)) := mul_ii S (.inl (by decide))
    have x8 : oMul S (.int two) (.int 2147483497) = some (.int (two * 2147483497)) := mul_ii S (.inr (by decide))
    refine ⟨two * 2147483497 + more, by omega, fun0_rt (env := [some (.int cell), some (.int place), some (.int one), some (.int two), some (.int more)]) ?_⟩
    simp only [d__law_e_mixed, sSeq, sIf, sRet, sSet, sExpr, sAsg, sFl, sNil, sFor, dBin, dC, dCall, dCallF, aCons, aNil, dTst, dNot, dAnd, dOr, bAnd, bOr, bNot, dChain, dUn, dTup, dLst, dCell, dIf, iSeq, iRange1, iRange2, dVar, gN, gTupD, gsCons, gsNil, dSl, oNo, oSo, asI, dComp, wipeE, Out.bind_ok, Out.bind_exc, Out.bind_bad, lift_some, lift_none, asB_bl, add_ii, sub_ii, neg_i, lt_ii, le_ii, gt_ii, ge_ii, eq_ii, ne_ii, eq_ss, ne_ss, isnot_bb, is_bb, is_non, isnot_non, ix_tupD, ix_lstD, ix_fzD, at_lit0, at_lit1, at_lit2, at_lit3, len_fz, len_lst, len_tup, itemsOf, seqItems, List.map_cons, List.map_nil, List.length_cons, List.length_nil, List.getElem?_cons_zero, List.getElem?_cons_succ, List.set_cons_zero, List.set_cons_succ, List.cons_append, List.nil_append, List.replicate_succ, List.replicate_zero, Nat.reduceSub, Nat.reduceAdd, if_true, if_false, Bool.false_eq_true, Bool.true_eq_false, Bool.not_true, Bool.not_false, Option.bind_some, Option.map_some, Nat.zero_add, ite_true, ite_false, pw, decide_eq_false hc, mod_ii S m0, mod_ii S m1, x1, x2, ← h1, x3, x4, x5, mod_ii S m2, ← h2, x6, x7, mod_ii S m3, ← h3, x8]
theorem pick_spec (ns : List Int) (n : Nat) (S : Sto) (p q many : Int) (hS : S[n]? = some (deckC ns p q)) (hp : 0 ≤ p) (hq : 0 ≤ q) (hm : 1 ≤ many) (hm2 : many < 2 ^ 80) :
    ∃ v p' q', 0 ≤ v ∧ v < many ∧ 0 ≤ p' ∧ 0 ≤ q' ∧ f__law_e_pick [.ref n, .int many] S = .ok (.int v) (S.set n (deckC ns p' q')) := by
  have m0 : (0 : Int) < 999999937 := by decide
  -- the second half: from a deck with a number
  have rest : ∀ (env : Ev) (T : Sto) (p' q' : Int), env[0]? = some (some (.ref n)) → env[1]? = some (some (.int many)) → 4 < env.length → T[n]? = some (deckC ns p' q') → 0 ≤ q' →
      ∃ env', (sSeq (sSet 4 (dBin oMod (dBin oIx (dVar 0) (dC (.int 2))) (dVar 1))) (sSeq (sPutL (dVar 0) (dC (.int 2)) (dBin oDiv (dBin oIx (dVar 0) (dC (.int 2))) (dVar 1))) (sRet (dVar 4)))) env T = .ok (.rt (.int (q' % many)), env') (T.set n (deckC ns p' (q' / many))) := by
    intro env T p' q' h0 h1 hl hT hq'
    refine ⟨env.set 4 (some (.int (q' % many))), (seq_nx (env' := env.set 4 (some (.int (q' % many)))) (S' := T) ?_).trans ((seq_nx (env' := env.set 4 (some (.int (q' % many)))) (S' := T.set n (deckC ns p' (q' / many))) ?_).trans ?_)⟩
    · simp only [sSeq, sIf, sRet, sSet, sExpr, sAsg, sFl, sNil, sFor, dBin, dC, dCall, dCallF, aCons, aNil, dTst, dNot, dAnd, dOr, bAnd, bOr, bNot, dChain, dUn, dTup, dLst, dCell, dIf, iSeq, iRange1, iRange2, dVar, gN, gTupD, gsCons, gsNil, dSl, oNo, oSo, asI, dComp, wipeE, Out.bind_ok, Out.bind_exc, Out.bind_bad, lift_some, lift_none, asB_bl, add_ii, sub_ii, neg_i, lt_ii, le_ii, gt_ii, ge_ii, eq_ii, ne_ii, eq_ss, ne_ss, isnot_bb, is_bb, is_non, isnot_non, ix_tupD, ix_lstD, ix_fzD, at_lit0, at_lit1, at_lit2, at_lit3, len_fz, len_lst, len_tup, itemsOf, seqItems, List.map_cons, List.map_nil, List.length_cons, List.length_nil, List.getElem?_cons_zero, List.getElem?_cons_succ, List.set_cons_zero, List.set_cons_succ, List.cons_append, List.nil_append, List.replicate_succ, List.replicate_zero, Nat.reduceSub, Nat.reduceAdd, if_true, if_false, Bool.false_eq_true, Bool.true_eq_false, Bool.not_true, Bool.not_false, Option.bind_some, Option.map_some, Nat.zero_add, ite_true, ite_false, h0, h1, ix_refD hT, mod_ii T (show (0 : Int) < many by omega)]
    · refine (putL_ref (n := n) (ds := [.fz (ns.map D.int), .int p', .int q']) (y := .int (q' / many)) (k := 2) (j := 2) (S1 := T) (S2 := T) (S3 := T) ?_ ?_ rfl hT rfl).trans rfl
      · simp only [sSeq, sIf, sRet, sSet, sExpr, sAsg, sFl, sNil, sFor, dBin, dC, dCall, dCallF, aCons, aNil, dTst, dNot, dAnd, dOr, bAnd, bOr, bNot, dChain, dUn, dTup, dLst, dCell, dIf, iSeq, iRange1, iRange2, dVar, gN, gTupD, gsCons, gsNil, dSl, oNo, oSo, asI, dComp, wipeE, Out.bind_ok, Out.bind_exc, Out.bind_bad, lift_some, lift_none, asB_bl, add_ii, sub_ii, neg_i, lt_ii, le_ii, gt_ii, ge_ii, eq_ii, ne_ii, eq_ss, ne_ss, isnot_bb, is_bb, is_non, isnot_non, ix_tupD, ix_lstD, ix_fzD, at_lit0, at_lit1, at_lit2, at_lit3, len_fz, len_lst, len_tup, itemsOf, seqItems, List.map_cons, List.map_nil, List.length_cons, List.length_nil, List.getElem?_cons_zero, List.getElem?_cons_succ, List.set_cons_zero, List.set_cons_succ, List.cons_append, List.nil_append, List.replicate_succ, List.replicate_zero, Nat.reduceSub, Nat.reduceAdd, if_true, if_false, Bool.false_eq_true, Bool.true_eq_false, Bool.not_true, Bool.not_false, Option.bind_some, Option.map_some, Nat.zero_add, ite_true, ite_false, List.getElem?_set_ne (show (4 : Nat) ≠ 0 by decide), List.getElem?_set_ne (show (4 : Nat) ≠ 1 by decide), h0, h1, ix_refD hT, div_ii T (show (0 : Int) < many by omega) hm2]
      · simp only [sSeq, sIf, sRet, sSet, sExpr, sAsg, sFl, sNil, sFor, dBin, dC, dCall, dCallF, aCons, aNil, dTst, dNot, dAnd, dOr, bAnd, bOr, bNot, dChain, dUn, dTup, dLst, dCell, dIf, iSeq, iRange1, iRange2, dVar, gN, gTupD, gsCons, gsNil, dSl, oNo, oSo, asI, dComp, wipeE, Out.bind_ok, Out.bind_exc, Out.bind_bad, lift_some, lift_none, asB_bl, add_ii, sub_ii, neg_i, lt_ii, le_ii, gt_ii, ge_ii, eq_ii, ne_ii, eq_ss, ne_ss, isnot_bb, is_bb, is_non, isnot_non, ix_tupD, ix_lstD, ix_fzD, at_lit0, at_lit1, at_lit2, at_lit3, len_fz, len_lst, len_tup, itemsOf, seqItems, List.map_cons, List.map_nil, List.length_cons, List.length_nil, List.getElem?_cons_zero, List.getElem?_cons_succ, List.set_cons_zero, List.set_cons_succ, List.cons_append, List.nil_append, List.replicate_succ, List.replicate_zero, Nat.reduceSub, Nat.reduceAdd, if_true, if_false, Bool.false_eq_true, Bool.true_eq_false, Bool.not_true, Bool.not_false, Option.bind_some, Option.map_some, Nat.zero_add, ite_true, ite_false, List.getElem?_set_ne (show (4 : Nat) ≠ 0 by decide), h0]
    · simp only [sSeq, sIf, sRet, sSet, sExpr, sAsg, sFl, sNil, sFor, dBin, dC, dCall, dCallF, aCons, aNil, dTst, dNot, dAnd, dOr, bAnd, bOr, bNot, dChain, dUn, dTup, dLst, dCell, dIf, iSeq, iRange1, iRange2, dVar, gN, gTupD, gsCons, gsNil, dSl, oNo, oSo, asI, dComp, wipeE, Out.bind_ok, Out.bind_exc, Out.bind_bad, lift_some, lift_none, asB_bl, add_ii, sub_ii, neg_i, lt_ii, le_ii, gt_ii, ge_ii, eq_ii, ne_ii, eq_ss, ne_ss, isnot_bb, is_bb, is_non, isnot_non, ix_tupD, ix_lstD, ix_fzD, at_lit0, at_lit1, at_lit2, at_lit3, len_fz, len_lst, len_tup, itemsOf, seqItems, List.map_cons, List.map_nil, List.length_cons, List.length_nil, List.getElem?_cons_zero, List.getElem?_cons_succ, List.set_cons_zero, List.set_cons_succ, List.cons_append, List.nil_append, List.replicate_succ, List.replicate_zero, Nat.reduceSub, Nat.reduceAdd, if_true, if_false, Bool.false_eq_true, Bool.true_eq_false, Bool.not_true, Bool.not_false, Option.bind_some, Option.map_some, Nat.zero_add, ite_true, ite_false, List.getElem?_set_self hl]
  by_cases hc : q < many
  · -- a new number is drawn
    have body : ∃ env' q', 0 ≤ q' ∧ env'[0]? = some (some (.ref n)) ∧ env'[1]? = some (some (.int many)) ∧ 4 < env'.length ∧
        (sSeq (sSet 2 (dBin oIx (dVar 0) (dC (.int 1))))
  (sSeq (sSet 3 (dBin oMul (dC (.int 7)) (dVar 2)))
  (sSeq (sIf (dTst (dBin oLt (dVar 2) (dCall oLen (aCons (dBin oIx (dVar 0) (dC (.int 0))) aNil))))
  (sSet 3 (dBin oIx (dBin oIx (dVar 0) (dC (.int 0))) (dVar 2)))
  (sIf (dTst (dBin oGt (dCall oLen (aCons (dBin oIx (dVar 0) (dC (.int 0))) aNil)) (dC (.int 0))))
  (sSet 3 (dBin oAdd (dBin oMod (dBin oIx (dBin oIx (dVar 0) (dC (.int 0))) (dBin oMod (dBin oMul (dVar 2) (dC (.int 11))) (dCall oLen (aCons (dBin oIx (dVar 0) (dC (.int 0))) aNil)))) (dC (.int 999999937))) (dBin oMul (dVar 2) (dC (.int 3000000)))))
  sNil))
  (sSeq (sPutL (dVar 0) (dC (.int 1)) (dBin oAdd (dVar 2) (dC (.int 1))))
  (sPutL (dVar 0) (dC (.int 2)) (dCallF f__law_e_mixed (aCons (dVar 3) (aCons (dVar 2) aNil)))))))) [some (.ref n), some (.int many), none, none, none] S = .ok (.nx, env') (S.set n (deckC ns (p + 1) q')) := by
      -- the cell
      have cell : ∃ c : Int, (sIf (dTst (dBin oLt (dVar 2) (dCall oLen (aCons (dBin oIx (dVar 0) (dC (.int 0))) aNil))))
  (sSet 3 (dBin oIx (dBin oIx (dVar 0) (dC (.int 0))) (dVar 2)))
  (sIf (dTst (dBin oGt (dCall oLen (aCons (dBin oIx (dVar 0) (dC (.int 0))) aNil)) (dC (.int 0))))
  (sSet 3 (dBin oAdd (dBin oMod (dBin oIx (dBin oIx (dVar 0) (dC (.int 0))) (dBin oMod (dBin oMul (dVar 2) (dC (.int 11))) (dCall oLen (aCons (dBin oIx (dVar 0) (dC (.int 0))) aNil)))) (dC (.int 999999937))) (dBin oMul (dVar 2) (dC (.int 3000000)))))
  sNil)) [some (.ref n), some (.int many), some (.int p), some (.int (7 * p)), none] S = .ok (.nx, [some (.ref n), some (.int many), some (.int p), some (.int c), none]) S := by
        have hlen : (ns.map D.int).length = ns.length := List.length_map _
        by_cases h1 : p < ns.length
        · refine ⟨ns[p.toNat]'(by omega), ?_⟩
          have e : atI (ns.map D.int) p = some (.int (ns[p.toNat]'(by omega))) := at_nat hp (by rw [List.getElem?_map, List.getElem?_eq_getElem (by omega)]; rfl)
          simp only [sSeq, sIf, sRet, sSet, sExpr, sAsg, sFl, sNil, sFor, dBin, dC, dCall, dCallF, aCons, aNil, dTst, dNot, dAnd, dOr, bAnd, bOr, bNot, dChain, dUn, dTup, dLst, dCell, dIf, iSeq, iRange1, iRange2, dVar, gN, gTupD, gsCons, gsNil, dSl, oNo, oSo, asI, dComp, wipeE, Out.bind_ok, Out.bind_exc, Out.bind_bad, lift_some, lift_none, asB_bl, add_ii, sub_ii, neg_i, lt_ii, le_ii, gt_ii, ge_ii, eq_ii, ne_ii, eq_ss, ne_ss, isnot_bb, is_bb, is_non, isnot_non, ix_tupD, ix_lstD, ix_fzD, at_lit0, at_lit1, at_lit2, at_lit3, len_fz, len_lst, len_tup, itemsOf, seqItems, List.map_cons, List.map_nil, List.length_cons, List.length_nil, List.getElem?_cons_zero, List.getElem?_cons_succ, List.set_cons_zero, List.set_cons_succ, List.cons_append, List.nil_append, List.replicate_succ, List.replicate_zero, Nat.reduceSub, Nat.reduceAdd, if_true, if_false, Bool.false_eq_true, Bool.true_eq_false, Bool.not_true, Bool.not_false, Option.bind_some, Option.map_some, Nat.zero_add, ite_true, ite_false, ix_refD hS, hlen, decide_eq_true h1, e]
        · by_cases h2 : (0 : Int) < ns.length
          · have hb : 0 ≤ p * 11 % ns.length := Int.emod_nonneg _ (by omega)
            have hb2 : p * 11 % ns.length < ns.length := Int.emod_lt_of_pos _ h2
            refine ⟨ns[(p * 11 % ns.length).toNat]'(by omega) % 999999937 + p * 3000000, ?_⟩
            have e : atI (ns.map D.int) (p * 11 % ns.length) = some (.int (ns[(p * 11 % ns.length).toNat]'(by omega))) := at_nat hb (by rw [List.getElem?_map, List.getElem?_eq_getElem (by omega)]; rfl)
            simp only [sSeq, sIf, sRet, sSet, sExpr, sAsg, sFl, sNil, sFor, dBin, dC, dCall, dCallF, aCons, aNil, dTst, dNot, dAnd, dOr, bAnd, bOr, bNot, dChain, dUn, dTup, dLst, dCell, dIf, iSeq, iRange1, iRange2, dVar, gN, gTupD, gsCons, gsNil, dSl, oNo, oSo, asI, dComp, wipeE, Out.bind_ok, Out.bind_exc, Out.bind_bad, lift_some, lift_none, asB_bl, add_ii, sub_ii, neg_i, lt_ii, le_ii, gt_ii, ge_ii, eq_ii, ne_ii, eq_ss, ne_ss, isnot_bb, is_bb, is_non, isnot_non, ix_tupD, ix_lstD, ix_fzD, at_lit0, at_lit1, at_lit2, at_lit3, len_fz, len_lst, len_tup, itemsOf, seqItems, List.map_cons, List.map_nil, List.length_cons, List.length_nil, List.getElem?_cons_zero, List.getElem?_cons_succ, List.set_cons_zero, List.set_cons_succ, List.cons_append, List.nil_append, List.replicate_succ, List.replicate_zero, Nat.reduceSub, Nat.reduceAdd, if_true, if_false, Bool.false_eq_true, Bool.true_eq_false, Bool.not_true, Bool.not_false, Option.bind_some, Option.map_some, Nat.zero_add, ite_true, ite_false, ix_refD hS, hlen, decide_eq_false h1, decide_eq_true h2, mul_ii S (i := p) (j := 11) (.inr (by decide)), mod_ii S h2, e, mod_ii S m0, mul_ii S (i := p) (j := 3000000) (.inr (by decide))]
          · exact ⟨7 * p, by simp only [sSeq, sIf, sRet, sSet, sExpr, sAsg, sFl, sNil, sFor, dBin, dC, dCall, dCallF, aCons, aNil, dTst, dNot, dAnd, dOr, bAnd, bOr, bNot, dChain, dUn, dTup, dLst, dCell, dIf, iSeq, iRange1, iRange2, dVar, gN, gTupD, gsCons, gsNil, dSl, oNo, oSo, asI, dComp, wipeE, Out.bind_ok, Out.bind_exc, Out.bind_bad, lift_some, lift_none, asB_bl, add_ii, sub_ii, neg_i, lt_ii, le_ii, gt_ii, ge_ii, eq_ii, ne_ii, eq_ss, ne_ss, isnot_bb, is_bb, is_non, isnot_non, ix_tupD, ix_lstD, ix_fzD, at_lit0, at_lit1, at_lit2, at_lit3, len_fz, len_lst, len_tup, itemsOf, seqItems, List.map_cons, List.map_nil, List.length_cons, List.length_nil, List.getElem?_cons_zero, List.getElem?_cons_succ, List.set_cons_zero, List.set_cons_succ, List.cons_append, List.nil_append, List.replicate_succ, List.replicate_zero, Nat.reduceSub, Nat.reduceAdd, if_true, if_false, Bool.false_eq_true, Bool.true_eq_false, Bool.not_true, Bool.not_false, Option.bind_some, Option.map_some, Nat.zero_add, ite_true, ite_false, ix_refD hS, hlen, decide_eq_false h1, decide_eq_false h2]⟩
      obtain ⟨c, hcell⟩ := cell
      obtain ⟨x, hx, hmix⟩ := mixed_spec c p (S.set n (deckC ns (p + 1) q)) hp
      refine ⟨[some (.ref n), some (.int many), some (.int p), some (.int c), none], x, hx, rfl, rfl, by simp, ?_⟩
      refine (seq_nx (env' := [some (.ref n), some (.int many), some (.int p), none, none]) (S' := S) ?_).trans ?_
      · simp only [sSeq, sIf, sRet, sSet, sExpr, sAsg, sFl, sNil, sFor, dBin, dC, dCall, dCallF, aCons, aNil, dTst, dNot, dAnd, dOr, bAnd, bOr, bNot, dChain, dUn, dTup, dLst, dCell, dIf, iSeq, iRange1, iRange2, dVar, gN, gTupD, gsCons, gsNil, dSl, oNo, oSo, asI, dComp, wipeE, Out.bind_ok, Out.bind_exc, Out.bind_bad, lift_some, lift_none, asB_bl, add_ii, sub_ii, neg_i, lt_ii, le_ii, gt_ii, ge_ii, eq_ii, ne_ii, eq_ss, ne_ss, isnot_bb, is_bb, is_non, isnot_non, ix_tupD, ix_lstD, ix_fzD, at_lit0, at_lit1, at_lit2, at_lit3, len_fz, len_lst, len_tup, itemsOf, seqItems, List.map_cons, List.map_nil, List.length_cons, List.length_nil, List.getElem?_cons_zero, List.getElem?_cons_succ, List.set_cons_zero, List.set_cons_succ, List.cons_append, List.nil_append, List.replicate_succ, List.replicate_zero, Nat.reduceSub, Nat.reduceAdd, if_true, if_false, Bool.false_eq_true, Bool.true_eq_false, Bool.not_true, Bool.not_false, Option.bind_some, Option.map_some, Nat.zero_add, ite_true, ite_false, ix_refD hS]
      refine (seq_nx (env' := [some (.ref n), some (.int many), some (.int p), some (.int (7 * p)), none]) (S' := S) ?_).trans ?_
      · simp only [sSeq, sIf, sRet, sSet, sExpr, sAsg, sFl, sNil, sFor, dBin, dC, dCall, dCallF, aCons, aNil, dTst, dNot, dAnd, dOr, bAnd, bOr, bNot, dChain, dUn, dTup, dLst, dCell, dIf, iSeq, iRange1, iRange2, dVar, gN, gTupD, gsCons, gsNil, dSl, oNo, oSo, asI, dComp, wipeE, Out.bind_ok, Out.bind_exc, Out.bind_bad, lift_some, lift_none, asB_bl, add_ii, sub_ii, neg_i, lt_ii, le_ii, gt_ii, ge_ii, eq_ii, ne_ii, eq_ss, ne_ss, isnot_bb, is_bb, is_non, isnot_non, ix_tupD, ix_lstD, ix_fzD, at_lit0, at_lit1, at_lit2, at_lit3, len_fz, len_lst, len_tup, itemsOf, seqItems, List.map_cons, List.map_nil, List.length_cons, List.length_nil, List.getElem?_cons_zero, List.getElem?_cons_succ, List.set_cons_zero, List.set_cons_succ, List.cons_append, List.nil_append, List.replicate_succ, List.replicate_zero, Nat.reduceSub, Nat.reduceAdd, if_true, if_false, Bool.false_eq_true, Bool.true_eq_false, Bool.not_true, Bool.not_false, Option.bind_some, Option.map_some, Nat.zero_add, ite_true, ite_false, mul_ii S (i := 7) (j := p) (.inl (by decide))]
      refine (seq_nx hcell).trans ?_
      refine (seq_nx (env' := [some (.ref n), some (.int many), some (.int p), some (.int c), none]) (S' := S.set n (deckC ns (p + 1) q)) ?_).trans ?_
      · exact (putL_ref (n := n) (ds := [.fz (ns.map D.int), .int p, .int q]) (y := .int (p + 1)) (k := 1) (j := 1) (S1 := S) (S2 := S) (S3 := S) rfl rfl rfl hS rfl).trans rfl
      · refine (putL_ref (n := n) (ds := [.fz (ns.map D.int), .int (p + 1), .int q]) (y := .int x) (k := 2) (j := 2) (S1 := S.set n (deckC ns (p + 1) q)) (S2 := S.set n (deckC ns (p + 1) q)) (S3 := S.set n (deckC ns (p + 1) q)) ?_ rfl rfl (set_get hS) rfl).trans ?_
        · simp only [sSeq, sIf, sRet, sSet, sExpr, sAsg, sFl, sNil, sFor, dBin, dC, dCall, dCallF, aCons, aNil, dTst, dNot, dAnd, dOr, bAnd, bOr, bNot, dChain, dUn, dTup, dLst, dCell, dIf, iSeq, iRange1, iRange2, dVar, gN, gTupD, gsCons, gsNil, dSl, oNo, oSo, asI, dComp, wipeE, Out.bind_ok, Out.bind_exc, Out.bind_bad, lift_some, lift_none, asB_bl, add_ii, sub_ii, neg_i, lt_ii, le_ii, gt_ii, ge_ii, eq_ii, ne_ii, eq_ss, ne_ss, isnot_bb, is_bb, is_non, isnot_non, ix_tupD, ix_lstD, ix_fzD, at_lit0, at_lit1, at_lit2, at_lit3, len_fz, len_lst, len_tup, itemsOf, seqItems, List.map_cons, List.map_nil, List.length_cons, List.length_nil, List.getElem?_cons_zero, List.getElem?_cons_succ, List.set_cons_zero, List.set_cons_succ, List.cons_append, List.nil_append, List.replicate_succ, List.replicate_zero, Nat.reduceSub, Nat.reduceAdd, if_true, if_false, Bool.false_eq_true, Bool.true_eq_false, Bool.not_true, Bool.not_false, Option.bind_some, Option.map_some, Nat.zero_add, ite_true, ite_false, hmix]
        · rw [set_set]; rfl
    obtain ⟨env', q', hq', h0, h1, hl, hb⟩ := body
    obtain ⟨env2, hr⟩ := rest env' (S.set n (deckC ns (p + 1) q')) (p + 1) q' h0 h1 hl (set_get hS) hq'
    rw [set_set] at hr
    refine ⟨q' % many, p + 1, q' / many, Int.emod_nonneg _ (by omega), Int.emod_lt_of_pos _ (by omega), by omega, Int.ediv_nonneg hq' (by omega), fun0_rt (env := env2) ?_⟩
    unfold d__law_e_pick
    refine (seq_nx (env' := env') (S' := S.set n (deckC ns (p + 1) q')) ((if_t (S' := S) ?_).trans hb)).trans hr
    simp only [sSeq, sIf, sRet, sSet, sExpr, sAsg, sFl, sNil, sFor, dBin, dC, dCall, dCallF, aCons, aNil, dTst, dNot, dAnd, dOr, bAnd, bOr, bNot, dChain, dUn, dTup, dLst, dCell, dIf, iSeq, iRange1, iRange2, dVar, gN, gTupD, gsCons, gsNil, dSl, oNo, oSo, asI, dComp, wipeE, Out.bind_ok, Out.bind_exc, Out.bind_bad, lift_some, lift_none, asB_bl, add_ii, sub_ii, neg_i, lt_ii, le_ii, gt_ii, ge_ii, eq_ii, ne_ii, eq_ss, ne_ss, isnot_bb, is_bb, is_non, isnot_non, ix_tupD, ix_lstD, ix_fzD, at_lit0, at_lit1, at_lit2, at_lit3, len_fz, len_lst, len_tup, itemsOf, seqItems, List.map_cons, List.map_nil, List.length_cons, List.length_nil, List.getElem?_cons_zero, List.getElem?_cons_succ, List.set_cons_zero, List.set_cons_succ, List.cons_append, List.nil_append, List.replicate_succ, List.replicate_zero, Nat.reduceSub, Nat.reduceAdd, if_true, if_false, Bool.false_eq_true, Bool.true_eq_false, Bool.not_true, Bool.not_false, Option.bind_some, Option.map_some, Nat.zero_add, ite_true, ite_false, ix_refD hS, decide_eq_true hc]
  · obtain ⟨env2, hr⟩ := rest [some (.ref n), some (.int many), none, none, none] S p q rfl rfl (by simp) hS hq
    refine ⟨q % many, p, q / many, Int.emod_nonneg _ (by omega), Int.emod_lt_of_pos _ (by omega), hp, Int.ediv_nonneg hq (by omega), fun0_rt (env := env2) ?_⟩
    unfold d__law_e_pick
    refine (seq_nx (env' := [some (.ref n), some (.int many), none, none, none]) (S' := S) ((if_f (S' := S) ?_).trans rfl)).trans hr
    simp only [sSeq, sIf, sRet, sSet, sExpr, sAsg, sFl, sNil, sFor, dBin, dC, dCall, dCallF, aCons, aNil, dTst, dNot, dAnd, dOr, bAnd, bOr, bNot, dChain, dUn, dTup, dLst, dCell, dIf, iSeq, iRange1, iRange2, dVar, gN, gTupD, gsCons, gsNil, dSl, oNo, oSo, asI, dComp, wipeE, Out.bind_ok, Out.bind_exc, Out.bind_bad, lift_some, lift_none, asB_bl, add_ii, sub_ii, neg_i, lt_ii, le_ii, gt_ii, ge_ii, eq_ii, ne_ii, eq_ss, ne_ss, isnot_bb, is_bb, is_non, isnot_non, ix_tupD, ix_lstD, ix_fzD, at_lit0, at_lit1, at_lit2, at_lit3, len_fz, len_lst, len_tup, itemsOf, seqItems, List.map_cons, List.map_nil, List.length_cons, List.length_nil, List.getElem?_cons_zero, List.getElem?_cons_succ, List.set_cons_zero, List.set_cons_succ, List.cons_append, List.nil_append, List.replicate_succ, List.replicate_zero, Nat.reduceSub, Nat.reduceAdd, if_true, if_false, Bool.false_eq_true, Bool.true_eq_false, Bool.not_true, Bool.not_false, Option.bind_some, Option.map_some, Nat.zero_add, ite_true, ite_false, ix_refD hS, decide_eq_false hc]
theorem rng1_int {j : Int} (h0 : 0 ≤ j) (h : j < 2 ^ 62) : rng1 [.int j] = some (rngL 0 j.toNat) := by
  unfold rng1
  dsimp only
  rw [if_pos]
  unfold in62
  rw [Bool.and_eq_true, decide_eq_true_eq, decide_eq_true_eq]
  omega
/-- a deck at n; what stays but it -/
def DK (ns : List Int) (n : Nat) (S : Sto) : Prop := ∃ p q, 0 ≤ p ∧ 0 ≤ q ∧ S[n]? = some (deckC ns p q)
def Kp (n : Nat) (S S' : Sto) : Prop := ∀ j c, j ≠ n → S[j]? = some c → S'[j]? = some c
theorem Kp.refl (n : Nat) (S : Sto) : Kp n S S := fun _ _ _ h => h
theorem Kp.trans {n : Nat} {S S1 S2 : Sto} (h : Kp n S S1) (k : Kp n S1 S2) : Kp n S S2 := fun j c hj e => k j c hj (h j c hj e)
theorem Kp.app (n : Nat) (S : Sto) (c : Cell) : Kp n S (S ++ [c]) := fun j d _ e => by
  rw [List.getElem?_append_left (List.getElem?_eq_some_iff.mp e).1]
  exact e
theorem DK.app {ns : List Int} {n : Nat} {S : Sto} (h : DK ns n S) (c : Cell) : DK ns n (S ++ [c]) := by
  obtain ⟨p, q, h1, h2, h3⟩ := h
  exact ⟨p, q, h1, h2, by rw [List.getElem?_append_left (List.getElem?_eq_some_iff.mp h3).1]; exact h3⟩
theorem app_at (S : Sto) (c : Cell) : (S ++ [c])[S.length]? = some c := by
  rw [List.getElem?_append_right (Nat.le_refl _), Nat.sub_self]
  rfl
theorem DK.set {ns : List Int} {n m : Nat} {S : Sto} (h : DK ns n S) (c : Cell) (hm : m ≠ n) : DK ns n (S.set m c) := by
  obtain ⟨p, q, h1, h2, h3⟩ := h
  exact ⟨p, q, h1, h2, by rw [List.getElem?_set_ne hm]; exact h3⟩
theorem pick_wp {ns : List Int} {n : Nat} {S : Sto} {many : Int} {P : D → Sto → Prop} (h : DK ns n S) (hm : 1 ≤ many) (hm2 : many < 2 ^ 80) (k : ∀ v S', 0 ≤ v → v < many → DK ns n S' → Kp n S S' → S'.length = S.length → P (.int v) S') : Wp (f__law_e_pick [.ref n, .int many] S) P := by
  obtain ⟨p, q, hp, hq, hS⟩ := h
  obtain ⟨v, p', q', h1, h2, h3, h4, e⟩ := pick_spec ns n S p q many hS hp hq hm hm2
  refine Wp.of e (k v _ h1 h2 ⟨p', q', h3, h4, set_get hS⟩ (fun j c hj e2 => ?_) (List.length_set ..))
  rw [List.getElem?_set_ne (Ne.symm hj)]
  exact e2
/-- the end of the deck ends the loop -/
theorem brk_deck {ns xs : List Int} {env : Ev} {S : Sto} {g : DS} {PF : Fl × Ev → Sto → Prop} {j : Nat} {i : Int} (h0 : env[0]? = some (some (.fz (xs.map D.int)))) (h1 : env[1]? = some (some (.ref 0))) (h2 : env[j]? = some (some (.int i))) (hS : DK ns 0 S) (hb : PF (.bk, env) S) (hg : Wp (g env S) PF) :
    Wp (sSeq (sIf (bAnd (dTst (dBin oGt (dVar j) (dC (.int 1)))) (dTst (dBin oGe (dBin oIx (dVar 1) (dC (.int 1))) (dCall oLen (aCons (dVar 0) aNil))))) (sFl .bk) sNil) g env S) PF := by
  obtain ⟨p, q, hp, hq, hS⟩ := hS
  have i1 : oIx S (.ref 0) (.int 1) = some (.int p) := by rw [ix_refD hS]; rfl
  simp only [w_Seq, w_If, w_bAnd, w_Tst, w_Bin, w_Var, w_C, k_Bin1, k_Bin2, k_B, k_Var, gt_ii, wps, h0, h1, h2, asB_bl]
  refine k_bAndc (fun c1 => ?_) fun c1 => ?_
  · simp only [w_Tst, w_Bin, w_Var, w_C, k_Bin1, k_Bin2, k_B, k_Var, ge_ii, wps, h0, h1, w_Call, w_aCons, w_aNil, k_Cons1, k_Cons2, k_Call, len_fz, i1]
    refine k_Ifd (fun c2 => ?_) fun c2 => ?_
    · simp only [w_Fl, k_Seqb]; exact hb
    · simp only [w_Nil, k_Seqn]; exact hg
  · simp only [k_Iff, w_Nil, k_Seqn]; exact hg
/-- .. the deck and what it leaves -/
structure Dr (ns : List Int) (m : Nat) (S S' : Sto) : Prop where
  dk : DK ns m S'
  kp : Kp m S S'
  len : S.length ≤ S'.length
theorem Dr.trans {ns : List Int} {m : Nat} {S S1 S2 : Sto} (h : Dr ns m S S1) (k : Dr ns m S1 S2) : Dr ns m S S2 := ⟨k.dk, h.kp.trans k.kp, Nat.le_trans h.len k.len⟩
theorem Dr.refl {ns : List Int} {m : Nat} {S : Sto} (h : DK ns m S) : Dr ns m S S := ⟨h, Kp.refl _ _, Nat.le_refl _⟩
theorem pick_dr {ns : List Int} {m : Nat} {S : Sto} {many : Int} {P : D → Sto → Prop} (h : DK ns m S) (hm : 1 ≤ many) (hm2 : many < 2 ^ 80) (k : ∀ v S', 0 ≤ v → v < many → Dr ns m S S' → P (.int v) S') : Wp (f__law_e_pick [.ref m, .int many] S) P :=
  pick_wp h hm hm2 fun v S' h1 h2 h3 h4 h5 => k v S' h1 h2 ⟨h3, h4, by omega⟩
theorem DK.lt {ns : List Int} {m : Nat} {S : Sto} (h : DK ns m S) : m < S.length := by
  obtain ⟨p, q, _, _, e⟩ := h
  exact (List.getElem?_eq_some_iff.mp e).1
theorem Dr.app {ns : List Int} {m : Nat} {S S' : Sto} (h : Dr ns m S S') (c : Cell) : Dr ns m S (S' ++ [c]) := ⟨h.dk.app c, h.kp.trans (Kp.app _ _ _), by rw [List.length_append]; exact Nat.le_trans h.len (Nat.le_add_right _ _)⟩
theorem Dr.put {ns : List Int} {m q : Nat} {S S' : Sto} (h : Dr ns m S S') (c : Cell) (hm : q ≠ m) (hq : S.length ≤ q) : Dr ns m S (S'.set q c) := by
  refine ⟨h.dk.set c hm, fun j d hj e => ?_, by rw [List.length_set]; exact h.len⟩
  have hl := (List.getElem?_eq_some_iff.mp e).1
  rw [List.getElem?_set_ne (by omega)]
  exact h.kp j d hj e
theorem ltL_ints (k : Nat) : ∀ ns : List Int, ltL k (ns.map D.int) = true
  | [] => rfl
  | n :: ns => by
    show (true && ltL k (ns.map D.int)) = true
    rw [ltL_ints k ns]
    rfl
theorem Dr.frz {ns : List Int} {m : Nat} {S S' : Sto} (hS : m < S.length) (h : Dr ns m S S') : ∀ j c, j < S.length → S'[j]? = some c → S[j]? = some c ∨ ltC S.length c = true := fun j c hj e => by
  by_cases z : j = m
  · subst z
    obtain ⟨p, q, _, _, e2⟩ := h.dk
    rw [e2] at e
    cases e
    refine .inr ?_
    show (ltL S.length (ns.map D.int) && _) = true
    rw [ltL_ints]
    rfl
  · have e2 := h.kp j _ z (List.getElem?_eq_getElem hj)
    rw [e2] at e
    exact .inl (by rw [List.getElem?_eq_getElem hj]; exact e)
theorem Dr.cut {ns : List Int} {m : Nat} {S S' : Sto} (hS : m < S.length) (h : Dr ns m S S') : Dr ns m S (S'.take S.length) := by
  obtain ⟨p, q, h1, h2, h3⟩ := h.dk
  have hl := h.len
  refine ⟨⟨p, q, h1, h2, ?_⟩, fun j c hj e => ?_, by rw [List.length_take]; omega⟩
  · rw [List.getElem?_take, if_pos hS]; exact h3
  · have hj2 := (List.getElem?_eq_some_iff.mp e).1
    rw [List.getElem?_take, if_pos hj2]
    exact h.kp j c hj e
theorem frz_lst {S S' : Sto} {q : Nat} {ds : List D} (hq : S.length ≤ q) (h : S'[q]? = some (.lst ds)) (hl : ltL 0 ds = true) : mapD (rsv S.length S' 64) (.ref q) = some (.lst ds) := by
  show rsv S.length S' 64 q = _
  unfold rsv
  rw [if_neg (by omega), h]
  dsimp only
  rw [mapL_id ds hl]
  rfl
theorem rng_succ (lo : Int) (k : Nat) : rngL lo (k + 1) = .int lo :: rngL (lo + 1) k := by
  unfold rngL
  rw [List.range_succ_eq_map, List.map_cons, List.map_map]
  congr 1
  · rw [Int.natCast_zero, Int.add_zero]
  · refine List.map_congr_left fun a _ => ?_
    show D.int (lo + ((a + 1 : Nat) : Int)) = D.int (lo + 1 + (a : Int))
    rw [show lo + ((a + 1 : Nat) : Int) = lo + 1 + (a : Int) by omega]
end G
namespace G
theorem hn_raise_await : (("raise" : Str) = "await") = False := eq_false (by decide)
theorem hn_raise_begin : (("raise" : Str) = "begin") = False := eq_false (by decide)
theorem hn_raise_work : (("raise" : Str) = "work") = False := eq_false (by decide)
theorem hn_raise_say : (("raise" : Str) = "say") = False := eq_false (by decide)
theorem hn_raise_come : (("raise" : Str) = "come") = False := eq_false (by decide)
theorem hn_raise_go : (("raise" : Str) = "go") = False := eq_false (by decide)
theorem hn_raise_leave : (("raise" : Str) = "leave") = False := eq_false (by decide)
theorem hn_await_raise : (("await" : Str) = "raise") = False := eq_false (by decide)
theorem hn_await_begin : (("await" : Str) = "begin") = False := eq_false (by decide)
theorem hn_await_work : (("await" : Str) = "work") = False := eq_false (by decide)
theorem hn_await_say : (("await" : Str) = "say") = False := eq_false (by decide)
theorem hn_await_come : (("await" : Str) = "come") = False := eq_false (by decide)
theorem hn_await_go : (("await" : Str) = "go") = False := eq_false (by decide)
theorem hn_await_leave : (("await" : Str) = "leave") = False := eq_false (by decide)
theorem hn_begin_raise : (("begin" : Str) = "raise") = False := eq_false (by decide)
theorem hn_begin_await : (("begin" : Str) = "await") = False := eq_false (by decide)
theorem hn_begin_work : (("begin" : Str) = "work") = False := eq_false (by decide)
theorem hn_begin_say : (("begin" : Str) = "say") = False := eq_false (by decide)
theorem hn_begin_come : (("begin" : Str) = "come") = False := eq_false (by decide)
theorem hn_begin_go : (("begin" : Str) = "go") = False := eq_false (by decide)
theorem hn_begin_leave : (("begin" : Str) = "leave") = False := eq_false (by decide)
theorem hn_work_raise : (("work" : Str) = "raise") = False := eq_false (by decide)
theorem hn_work_await : (("work" : Str) = "await") = False := eq_false (by decide)
theorem hn_work_begin : (("work" : Str) = "begin") = False := eq_false (by decide)
theorem hn_work_say : (("work" : Str) = "say") = False := eq_false (by decide)
theorem hn_work_come : (("work" : Str) = "come") = False := eq_false (by decide)
theorem hn_work_go : (("work" : Str) = "go") = False := eq_false (by decide)
theorem hn_work_leave : (("work" : Str) = "leave") = False := eq_false (by decide)
theorem hn_say_raise : (("say" : Str) = "raise") = False := eq_false (by decide)
theorem hn_say_await : (("say" : Str) = "await") = False := eq_false (by decide)
theorem hn_say_begin : (("say" : Str) = "begin") = False := eq_false (by decide)
theorem hn_say_work : (("say" : Str) = "work") = False := eq_false (by decide)
theorem hn_say_come : (("say" : Str) = "come") = False := eq_false (by decide)
theorem hn_say_go : (("say" : Str) = "go") = False := eq_false (by decide)
theorem hn_say_leave : (("say" : Str) = "leave") = False := eq_false (by decide)
theorem hn_come_raise : (("come" : Str) = "raise") = False := eq_false (by decide)
theorem hn_come_await : (("come" : Str) = "await") = False := eq_false (by decide)
theorem hn_come_begin : (("come" : Str) = "begin") = False := eq_false (by decide)
theorem hn_come_work : (("come" : Str) = "work") = False := eq_false (by decide)
theorem hn_come_say : (("come" : Str) = "say") = False := eq_false (by decide)
theorem hn_come_go : (("come" : Str) = "go") = False := eq_false (by decide)
theorem hn_come_leave : (("come" : Str) = "leave") = False := eq_false (by decide)
theorem hn_go_raise : (("go" : Str) = "raise") = False := eq_false (by decide)
theorem hn_go_await : (("go" : Str) = "await") = False := eq_false (by decide)
theorem hn_go_begin : (("go" : Str) = "begin") = False := eq_false (by decide)
theorem hn_go_work : (("go" : Str) = "work") = False := eq_false (by decide)
theorem hn_go_say : (("go" : Str) = "say") = False := eq_false (by decide)
theorem hn_go_come : (("go" : Str) = "come") = False := eq_false (by decide)
theorem hn_go_leave : (("go" : Str) = "leave") = False := eq_false (by decide)
theorem hn_leave_raise : (("leave" : Str) = "raise") = False := eq_false (by decide)
theorem hn_leave_await : (("leave" : Str) = "await") = False := eq_false (by decide)
theorem hn_leave_begin : (("leave" : Str) = "begin") = False := eq_false (by decide)
theorem hn_leave_work : (("leave" : Str) = "work") = False := eq_false (by decide)
theorem hn_leave_say : (("leave" : Str) = "say") = False := eq_false (by decide)
theorem hn_leave_come : (("leave" : Str) = "come") = False := eq_false (by decide)
theorem hn_leave_go : (("leave" : Str) = "go") = False := eq_false (by decide)
/-! ### houses by their deeds -/
abbrev Mem := List (Nat × Str)
inductive Hd where
  | rai (b x : Nat) | awa (b x : Nat) | beg (s : Nat) (ms : Mem) | work (x : Nat) | say (w : Str) | com (w : Nat) | go (w : Nat) | lve (w : Nat)
def memD (ms : Mem) : D := .tup (ms.map fun p => .tup [.int (p.1 : Int), .str p.2])
def Hd.d : Hd → D
  | .rai b x => .tup [.str "raise", .int (b : Int), .int (x : Int)]
  | .awa b x => .tup [.str "await", .int (b : Int), .int (x : Int)]
  | .beg s ms => .tup [.str "begin", .int (s : Int), memD ms]
  | .work x => .tup [.str "work", .int (x : Int)]
  | .say w => .tup [.str "say", .str w]
  | .com w => .tup [.str "come", .int (w : Int)]
  | .go w => .tup [.str "go", .int (w : Int)]
  | .lve w => .tup [.str "leave", .int (w : Int)]
def hsD (s : List Hd) : D := .tup (s.map Hd.d)
abbrev Call := Nat × Mem
def callD (c : Call) : D := .tup [.int (c.1 : Int), memD c.2]
structure HH where
  b : Nat
  w : Nat
  fs : List Call
  ss : List (List Hd)
def HH.d (h : HH) : D := .tup [.int (h.b : Int), .int (h.w : Int), .tup (h.fs.map callD), .tup (h.ss.map hsD)]
def modeOf (kvs : Mem) (w : Nat) : Option Str := (kvs.find? fun p => decide (p.1 = w)).map (·.2)
def hasM (kvs : Mem) (w : Nat) (ms : List Str) : Bool := match modeOf kvs w with
  | some m => decide (m ∈ ms)
  | none => false
def mayDo (kvs : Mem) : Hd → Bool
  | .com w => hasM kvs w ["both", "come"]
  | .go w => hasM kvs w ["both", "go"]
  | .lve w => (modeOf kvs w).isSome
  | .beg _ ms => ms.all fun p => hasM kvs p.1 [p.2, "both"]
  | _ => true
def afterDo (kvs : Mem) : Hd → Mem
  | .lve w => kvs.filter fun p => decide (p.1 ≠ w)
  | _ => kvs
def fits : Mem → List Hd → Bool
  | _, [] => true
  | kvs, e :: es => mayDo kvs e && fits (afterDo kvs e) es
def begOf : Hd → Option Call
  | .beg s ms => some (s, ms)
  | _ => none
def begs (s : List Hd) : List Call := s.filterMap begOf
def scriptAt (h : HH) (c : Call) : List Hd := (h.ss[c.1]?).getD []
/-- the hands called, all of them, each behind its beginner -/
structure Called (h : HH) (A : List Call) : Prop where
  eq : A = h.fs ++ A.flatMap fun c => begs (scriptAt h c)
  len : A.length ≤ 60
  sum : (A.map fun c => (scriptAt h c).length).sum ≤ 1200
  lt : ∀ c ∈ A, c.1 < h.ss.length
  fit : ∀ c ∈ A, fits c.2 (scriptAt h c) = true
  nd : ∀ c ∈ A, (c.2.map (·.1)).Nodup
  ml : ∀ c ∈ A, c.2.length ≤ 10
  sl : ∀ s ∈ h.ss, s.length ≤ 80
def tabM (kvs : Mem) : List (Key × D) := kvs.map fun p => (.inl (p.1 : Int), .str p.2)
theorem tabM_val (w : Nat) : ∀ kvs : Mem, valD (tabM kvs) (.inl (w : Int)) = (modeOf kvs w).map D.str
  | [] => rfl
  | p :: kvs => by
    have ih := tabM_val w kvs
    unfold valD tabM modeOf at ih ⊢
    rw [List.map_cons, List.find?_cons, List.find?_cons]
    have e : decide ((Sum.inl (p.1 : Int) : Key) = .inl (w : Int)) = decide (p.1 = w) := decide_eq_decide.mpr ⟨fun h => by have := Sum.inl.inj h; omega, fun h => by rw [h]⟩
    dsimp only
    rw [e]
    cases decide (p.1 = w) with
    | true => rfl
    | false => exact ih
theorem tabM_put {kvs : Mem} {w : Nat} {m : Str} (h : w ∉ kvs.map (·.1)) : putD (tabM kvs) (.inl (w : Int)) (.str m) = tabM (kvs ++ [(w, m)]) := by
  unfold putD
  have e : ((tabM kvs).any fun kv => decide (kv.1 = .inl (w : Int))) = false := by
    rw [List.any_eq_false]
    intro p hp q
    obtain ⟨x, hx, e⟩ := List.mem_map.mp hp
    subst e
    have := Sum.inl.inj (of_decide_eq_true q)
    exact h (List.mem_map.mpr ⟨x, hx, by omega⟩)
  rw [e, if_neg Bool.false_ne_true]
  unfold tabM
  rw [List.map_append]
  rfl
theorem tabM_drop (w : Nat) : ∀ kvs : Mem, dropD (tabM kvs) (.inl (w : Int)) = tabM (kvs.filter fun p => decide (p.1 ≠ w))
  | [] => rfl
  | p :: kvs => by
    have ih := tabM_drop w kvs
    unfold dropD tabM at ih ⊢
    rw [List.map_cons, List.filter_cons, List.filter_cons]
    by_cases c : p.1 = w
    · rw [if_neg (by simp [c]), if_neg (by simpa using c)]
      exact ih
    · have c2 : ¬ (Sum.inl (p.1 : Int) : Key) = .inl (w : Int) := fun q => c (by have := Sum.inl.inj q; omega)
      rw [if_pos (by simpa using c2), if_pos (by simpa using c), List.map_cons, ih]
section
variable {S : Sto} {P : D → Sto → Prop} {n : Nat} {kvs : Mem}
theorem getT_M (h : S[n]? = some (.dK (tabM kvs))) (w : Nat) : getT S (.ref n) (.int (w : Int)) = some ((modeOf kvs w).map D.str) := by
  unfold getT
  dsimp only
  rw [h]
  dsimp only
  show (keyD (.int (w : Int))).map _ = _
  unfold keyD
  rw [Option.map_some, tabM_val]
theorem inT_M (h : S[n]? = some (.dK (tabM kvs))) (w : Nat) : oInT false S (.int (w : Int)) (.ref n) = some (.bl (modeOf kvs w).isSome) := by
  unfold oInT
  rw [getT_M h, Option.map_some, Bool.false_xor]
  cases modeOf kvs w <;> rfl
theorem hasmode_wp (h : S[n]? = some (.dK (tabM kvs))) {w : Nat} {ms : List Str} (k : P (.bl (hasM kvs w ms)) S) : Wp (f_has_mode [.ref n, .int (w : Int), .tup (ms.map D.str)] S) P := by
  unfold f_has_mode d_has_mode
  unfold hasM at k
  cases hm : modeOf kvs w with
  | none =>
    rw [hm] at k
    simp_arith [inT_M h, hm, Option.isSome_none]
    exact k
  | some m =>
    rw [hm] at k
    have hg : oGetT S (.ref n) (.int (w : Int)) = some (.str m) := by
      unfold oGetT
      rw [getT_M h, hm]
      rfl
    simp_arith [inT_M h, hm, Option.isSome_some, hg, in_strs, Bool.false_xor]
    exact k
theorem mem_items (ms : Mem) : (ms.map fun p => D.tup [.int (p.1 : Int), .str p.2]).map (fun d => match d with | .tup [.int i, .str m] => D.bl (hasM kvs i.toNat [m, "both"]) | d => d) = ms.map fun p => D.bl (hasM kvs p.1 [p.2, "both"]) := by
  rw [List.map_map]
  rfl
theorem maydo_wp (h : S[n]? = some (.dK (tabM kvs))) {e : Hd} (hl : ∀ s ms, e = .beg s ms → ms.length ≤ 10) (k : P (.bl (mayDo kvs e)) S) : Wp (f_may_do_with [.ref n, e.d] S) P := by
  unfold f_may_do_with d_may_do_with
  cases e with
  | com w =>
    simp_arith [Hd.d, eq_self, hn_raise_await, hn_raise_begin, hn_raise_work, hn_raise_say, hn_raise_come, hn_raise_go, hn_raise_leave, hn_await_raise, hn_await_begin, hn_await_work, hn_await_say, hn_await_come, hn_await_go, hn_await_leave, hn_begin_raise, hn_begin_await, hn_begin_work, hn_begin_say, hn_begin_come, hn_begin_go, hn_begin_leave, hn_work_raise, hn_work_await, hn_work_begin, hn_work_say, hn_work_come, hn_work_go, hn_work_leave, hn_say_raise, hn_say_await, hn_say_begin, hn_say_work, hn_say_come, hn_say_go, hn_say_leave, hn_come_raise, hn_come_await, hn_come_begin, hn_come_work, hn_come_say, hn_come_go, hn_come_leave, hn_go_raise, hn_go_await, hn_go_begin, hn_go_work, hn_go_say, hn_go_come, hn_go_leave, hn_leave_raise, hn_leave_await, hn_leave_begin, hn_leave_work, hn_leave_say, hn_leave_come, hn_leave_go]
    refine hasmode_wp (ms := ["both", "come"]) h ?_
    simp_arith
    exact k
  | go w =>
    simp_arith [Hd.d, eq_self, hn_raise_await, hn_raise_begin, hn_raise_work, hn_raise_say, hn_raise_come, hn_raise_go, hn_raise_leave, hn_await_raise, hn_await_begin, hn_await_work, hn_await_say, hn_await_come, hn_await_go, hn_await_leave, hn_begin_raise, hn_begin_await, hn_begin_work, hn_begin_say, hn_begin_come, hn_begin_go, hn_begin_leave, hn_work_raise, hn_work_await, hn_work_begin, hn_work_say, hn_work_come, hn_work_go, hn_work_leave, hn_say_raise, hn_say_await, hn_say_begin, hn_say_work, hn_say_come, hn_say_go, hn_say_leave, hn_come_raise, hn_come_await, hn_come_begin, hn_come_work, hn_come_say, hn_come_go, hn_come_leave, hn_go_raise, hn_go_await, hn_go_begin, hn_go_work, hn_go_say, hn_go_come, hn_go_leave, hn_leave_raise, hn_leave_await, hn_leave_begin, hn_leave_work, hn_leave_say, hn_leave_come, hn_leave_go]
    refine hasmode_wp (ms := ["both", "go"]) h ?_
    simp_arith
    exact k
  | lve w =>
    simp_arith [Hd.d, eq_self, hn_raise_await, hn_raise_begin, hn_raise_work, hn_raise_say, hn_raise_come, hn_raise_go, hn_raise_leave, hn_await_raise, hn_await_begin, hn_await_work, hn_await_say, hn_await_come, hn_await_go, hn_await_leave, hn_begin_raise, hn_begin_await, hn_begin_work, hn_begin_say, hn_begin_come, hn_begin_go, hn_begin_leave, hn_work_raise, hn_work_await, hn_work_begin, hn_work_say, hn_work_come, hn_work_go, hn_work_leave, hn_say_raise, hn_say_await, hn_say_begin, hn_say_work, hn_say_come, hn_say_go, hn_say_leave, hn_come_raise, hn_come_await, hn_come_begin, hn_come_work, hn_come_say, hn_come_go, hn_come_leave, hn_go_raise, hn_go_await, hn_go_begin, hn_go_work, hn_go_say, hn_go_come, hn_go_leave, hn_leave_raise, hn_leave_await, hn_leave_begin, hn_leave_work, hn_leave_say, hn_leave_come, hn_leave_go, inT_M h]
    exact k
  | beg s ms =>
    have hms := hl s ms rfl
    simp_arith [Hd.d, eq_self, hn_raise_await, hn_raise_begin, hn_raise_work, hn_raise_say, hn_raise_come, hn_raise_go, hn_raise_leave, hn_await_raise, hn_await_begin, hn_await_work, hn_await_say, hn_await_come, hn_await_go, hn_await_leave, hn_begin_raise, hn_begin_await, hn_begin_work, hn_begin_say, hn_begin_come, hn_begin_go, hn_begin_leave, hn_work_raise, hn_work_await, hn_work_begin, hn_work_say, hn_work_come, hn_work_go, hn_work_leave, hn_say_raise, hn_say_await, hn_say_begin, hn_say_work, hn_say_come, hn_say_go, hn_say_leave, hn_come_raise, hn_come_await, hn_come_begin, hn_come_work, hn_come_say, hn_come_go, hn_come_leave, hn_go_raise, hn_go_await, hn_go_begin, hn_go_work, hn_go_say, hn_go_come, hn_go_leave, hn_leave_raise, hn_leave_await, hn_leave_begin, hn_leave_work, hn_leave_say, hn_leave_come, hn_leave_go, memD]
    refine compGo_pure (fun d => match d with | .tup [.int i, .str m] => .bl (hasM kvs i.toNat [m, "both"]) | d => d) (by rw [List.length_map, sizeLine_eq]; omega) (fun d hd => ?_) ?_
    · obtain ⟨p, _, e⟩ := List.mem_map.mp hd
      subst e
      refine ⟨_, rfl, ?_⟩
      simp_arith
      refine hasmode_wp (ms := [p.2, "both"]) h ?_
      exact ⟨rfl, by rw [Int.toNat_natCast]⟩
    · rw [mem_items]
      simp_arith [all_lst]
      exact k
  | rai b x => simp_arith [Hd.d, eq_self, hn_raise_await, hn_raise_begin, hn_raise_work, hn_raise_say, hn_raise_come, hn_raise_go, hn_raise_leave, hn_await_raise, hn_await_begin, hn_await_work, hn_await_say, hn_await_come, hn_await_go, hn_await_leave, hn_begin_raise, hn_begin_await, hn_begin_work, hn_begin_say, hn_begin_come, hn_begin_go, hn_begin_leave, hn_work_raise, hn_work_await, hn_work_begin, hn_work_say, hn_work_come, hn_work_go, hn_work_leave, hn_say_raise, hn_say_await, hn_say_begin, hn_say_work, hn_say_come, hn_say_go, hn_say_leave, hn_come_raise, hn_come_await, hn_come_begin, hn_come_work, hn_come_say, hn_come_go, hn_come_leave, hn_go_raise, hn_go_await, hn_go_begin, hn_go_work, hn_go_say, hn_go_come, hn_go_leave, hn_leave_raise, hn_leave_await, hn_leave_begin, hn_leave_work, hn_leave_say, hn_leave_come, hn_leave_go]; exact k
  | awa b x => simp_arith [Hd.d, eq_self, hn_raise_await, hn_raise_begin, hn_raise_work, hn_raise_say, hn_raise_come, hn_raise_go, hn_raise_leave, hn_await_raise, hn_await_begin, hn_await_work, hn_await_say, hn_await_come, hn_await_go, hn_await_leave, hn_begin_raise, hn_begin_await, hn_begin_work, hn_begin_say, hn_begin_come, hn_begin_go, hn_begin_leave, hn_work_raise, hn_work_await, hn_work_begin, hn_work_say, hn_work_come, hn_work_go, hn_work_leave, hn_say_raise, hn_say_await, hn_say_begin, hn_say_work, hn_say_come, hn_say_go, hn_say_leave, hn_come_raise, hn_come_await, hn_come_begin, hn_come_work, hn_come_say, hn_come_go, hn_come_leave, hn_go_raise, hn_go_await, hn_go_begin, hn_go_work, hn_go_say, hn_go_come, hn_go_leave, hn_leave_raise, hn_leave_await, hn_leave_begin, hn_leave_work, hn_leave_say, hn_leave_come, hn_leave_go]; exact k
  | work x => simp_arith [Hd.d, eq_self, hn_raise_await, hn_raise_begin, hn_raise_work, hn_raise_say, hn_raise_come, hn_raise_go, hn_raise_leave, hn_await_raise, hn_await_begin, hn_await_work, hn_await_say, hn_await_come, hn_await_go, hn_await_leave, hn_begin_raise, hn_begin_await, hn_begin_work, hn_begin_say, hn_begin_come, hn_begin_go, hn_begin_leave, hn_work_raise, hn_work_await, hn_work_begin, hn_work_say, hn_work_come, hn_work_go, hn_work_leave, hn_say_raise, hn_say_await, hn_say_begin, hn_say_work, hn_say_come, hn_say_go, hn_say_leave, hn_come_raise, hn_come_await, hn_come_begin, hn_come_work, hn_come_say, hn_come_go, hn_come_leave, hn_go_raise, hn_go_await, hn_go_begin, hn_go_work, hn_go_say, hn_go_come, hn_go_leave, hn_leave_raise, hn_leave_await, hn_leave_begin, hn_leave_work, hn_leave_say, hn_leave_come, hn_leave_go]; exact k
  | say w => simp_arith [Hd.d, eq_self, hn_raise_await, hn_raise_begin, hn_raise_work, hn_raise_say, hn_raise_come, hn_raise_go, hn_raise_leave, hn_await_raise, hn_await_begin, hn_await_work, hn_await_say, hn_await_come, hn_await_go, hn_await_leave, hn_begin_raise, hn_begin_await, hn_begin_work, hn_begin_say, hn_begin_come, hn_begin_go, hn_begin_leave, hn_work_raise, hn_work_await, hn_work_begin, hn_work_say, hn_work_come, hn_work_go, hn_work_leave, hn_say_raise, hn_say_await, hn_say_begin, hn_say_work, hn_say_come, hn_say_go, hn_say_leave, hn_come_raise, hn_come_await, hn_come_begin, hn_come_work, hn_come_say, hn_come_go, hn_come_leave, hn_go_raise, hn_go_await, hn_go_begin, hn_go_work, hn_go_say, hn_go_come, hn_go_leave, hn_leave_raise, hn_leave_await, hn_leave_begin, hn_leave_work, hn_leave_say, hn_leave_come, hn_leave_go]; exact k
theorem fits_cons (kvs : Mem) (e : Hd) (es : List Hd) : fits kvs (e :: es) = (mayDo kvs e && fits (afterDo kvs e) es) := rfl
theorem frz_set1 {S : Sto} {c : Cell} {e : D} {P : D → Sto → Prop} (he : ltD 0 e = true) (k : P e S) : (∀ j d, j < S.length → (S ++ [c])[j]? = some d → S[j]? = some d ∨ ltC S.length d = true) ∧ ∃ d, mapD (rsv S.length (S ++ [c]) 64) e = some d ∧ P d ((S ++ [c]).take S.length) :=
  ⟨fun j d hj h => .inl (by rw [List.getElem?_append_left hj] at h; exact h), e, mapD_id e he, by rw [List.take_left]; exact k⟩
theorem set_last {S : Sto} {c c' : Cell} : (S ++ [c]).set S.length c' = S ++ [c'] := by
  rw [List.set_append_right _ _ (Nat.le_refl _), Nat.sub_self]
  rfl
theorem scriptfits_wp {s : List Hd} {ms : Mem} (hsl : s.length ≤ 80) (hml : ms.length ≤ 10) (nd : (ms.map (·.1)).Nodup) (hb : ∀ e ∈ s, ∀ i m, e = .beg i m → m.length ≤ 10) (k : P (.bl (fits ms s)) S) : Wp (f_script_fits [hsD s, memD ms] S) P := by
  unfold f_script_fits d_script_fits
  refine wp_frz ?_
  simp_arith [memD]
  refine forGo_wp (fun rest env T => ∃ (done left : Mem) (e3 e4 e5 : Option D), ms = done ++ left ∧ rest = left.map (fun p => D.tup [.int (p.1 : Int), .str p.2]) ∧ env = [some (hsD s), some (.tup (ms.map fun p => D.tup [.int (p.1 : Int), .str p.2])), some (.ref S.length), e3, e4, e5] ∧ T = S ++ [.dK (tabM done)]) _ _ _
    ⟨[], ms, none, none, none, rfl, rfl, rfl, rfl⟩ (fun d rest env T hI => ?_) fun env T hI => ?_
  · obtain ⟨done, left, e3, e4, e5, em, er, e, eT⟩ := hI
    cases left with
    | nil => cases er
    | cons p left =>
      obtain ⟨ed, er2⟩ := List.cons.inj er
      subst e eT ed
      refine ⟨_, rfl, ?_⟩
      have hn : p.1 ∉ done.map (·.1) := fun q => by
        rw [em, List.map_append, List.map_cons] at nd
        exact (List.nodup_append.mp nd).2.2 p.1 q p.1 List.mem_cons_self rfl
      have hdl : done.length ≤ 10 := by
        have := congrArg List.length em
        rw [List.length_append] at this
        omega
      simp_arith
      refine w_PutT ?_
      simp_arith [k_PT1, k_PT2]
      refine ⟨(S ++ [Cell.dK (tabM done)]).set S.length (Cell.dK (tabM (done ++ [(p.1, p.2)]))), ?_, ?_⟩
      · unfold putT
        dsimp only
        rw [app_at]
        dsimp only
        rw [if_pos (by unfold tabM; rw [List.length_map, sizeLine_eq]; omega)]
        dsimp only [keyD, Option.map_some]
        rw [tabM_put hn]
      · rw [set_last]
        exact ⟨done ++ [p], left, _, _, _, by rw [em, List.append_assoc]; rfl, er2, rfl, rfl⟩
  · obtain ⟨done, left, e3, e4, e5, em, er, e, eT⟩ := hI
    cases left with
    | cons p left => cases er
    | nil =>
      rw [List.append_nil] at em
      subst em e eT
      simp_arith [hsD]
      refine forGo_wp (fun rest env T => ∃ (kvs : Mem) (left : List Hd) (e5 : Option D), rest = left.map Hd.d ∧ (∀ e ∈ left, e ∈ s) ∧ env = [some (.tup (s.map Hd.d)), some (.tup (ms.map fun p => D.tup [.int (p.1 : Int), .str p.2])), some (.ref S.length), e3, e4, e5] ∧ T = S ++ [.dK (tabM kvs)] ∧ fits ms s = fits kvs left) _ _ _
        ⟨ms, s, e5, rfl, fun e he => he, rfl, rfl, rfl⟩ (fun d rest env T hI => ?_) fun env T hI => ?_
      · obtain ⟨kvs, left, e5, er, hin, e, eT, hf⟩ := hI
        cases left with
        | nil => cases er
        | cons x left =>
          obtain ⟨ed, er2⟩ := List.cons.inj er
          subst e eT ed
          have hc := app_at S (.dK (tabM kvs))
          refine ⟨_, rfl, ?_⟩
          simp_arith
          refine maydo_wp hc (fun i m e => hb x (hin x List.mem_cons_self) i m e) ?_
          rw [fits_cons] at hf
          cases hm : mayDo kvs x with
          | false =>
            rw [hm, Bool.false_and] at hf
            rw [hf] at k
            simp_arith
            exact frz_set1 rfl k
          | true =>
            rw [hm, Bool.true_and] at hf
            have hin2 : ∀ e ∈ left, e ∈ s := fun e he => hin e (List.mem_cons_of_mem _ he)
            cases x with
            | lve w =>
              simp_arith [Hd.d, eq_self, hn_raise_await, hn_raise_begin, hn_raise_work, hn_raise_say, hn_raise_come, hn_raise_go, hn_raise_leave, hn_await_raise, hn_await_begin, hn_await_work, hn_await_say, hn_await_come, hn_await_go, hn_await_leave, hn_begin_raise, hn_begin_await, hn_begin_work, hn_begin_say, hn_begin_come, hn_begin_go, hn_begin_leave, hn_work_raise, hn_work_await, hn_work_begin, hn_work_say, hn_work_come, hn_work_go, hn_work_leave, hn_say_raise, hn_say_await, hn_say_begin, hn_say_work, hn_say_come, hn_say_go, hn_say_leave, hn_come_raise, hn_come_await, hn_come_begin, hn_come_work, hn_come_say, hn_come_go, hn_come_leave, hn_go_raise, hn_go_await, hn_go_begin, hn_go_work, hn_go_say, hn_go_come, hn_go_leave, hn_leave_raise, hn_leave_await, hn_leave_begin, hn_leave_work, hn_leave_say, hn_leave_come, hn_leave_go]
              refine w_PopK ?_
              simp_arith
              obtain ⟨m, hmo⟩ := Option.isSome_iff_exists.mp (show (modeOf kvs w).isSome = true from hm)
              refine ⟨S.length, rfl, ⟨_, hc⟩, ?_⟩
              simp_arith
              refine ⟨_, .inl (w : Int), .str m, hc, rfl, by rw [tabM_val, hmo]; rfl, ?_⟩
              rw [set_last, tabM_drop]
              exact ⟨_, left, _, er2, hin2, rfl, rfl, hf⟩
            | com w => simp_arith [Hd.d, eq_self, hn_raise_await, hn_raise_begin, hn_raise_work, hn_raise_say, hn_raise_come, hn_raise_go, hn_raise_leave, hn_await_raise, hn_await_begin, hn_await_work, hn_await_say, hn_await_come, hn_await_go, hn_await_leave, hn_begin_raise, hn_begin_await, hn_begin_work, hn_begin_say, hn_begin_come, hn_begin_go, hn_begin_leave, hn_work_raise, hn_work_await, hn_work_begin, hn_work_say, hn_work_come, hn_work_go, hn_work_leave, hn_say_raise, hn_say_await, hn_say_begin, hn_say_work, hn_say_come, hn_say_go, hn_say_leave, hn_come_raise, hn_come_await, hn_come_begin, hn_come_work, hn_come_say, hn_come_go, hn_come_leave, hn_go_raise, hn_go_await, hn_go_begin, hn_go_work, hn_go_say, hn_go_come, hn_go_leave, hn_leave_raise, hn_leave_await, hn_leave_begin, hn_leave_work, hn_leave_say, hn_leave_come, hn_leave_go]; exact ⟨_, left, _, er2, hin2, rfl, rfl, hf⟩
            | go w => simp_arith [Hd.d, eq_self, hn_raise_await, hn_raise_begin, hn_raise_work, hn_raise_say, hn_raise_come, hn_raise_go, hn_raise_leave, hn_await_raise, hn_await_begin, hn_await_work, hn_await_say, hn_await_come, hn_await_go, hn_await_leave, hn_begin_raise, hn_begin_await, hn_begin_work, hn_begin_say, hn_begin_come, hn_begin_go, hn_begin_leave, hn_work_raise, hn_work_await, hn_work_begin, hn_work_say, hn_work_come, hn_work_go, hn_work_leave, hn_say_raise, hn_say_await, hn_say_begin, hn_say_work, hn_say_come, hn_say_go, hn_say_leave, hn_come_raise, hn_come_await, hn_come_begin, hn_come_work, hn_come_say, hn_come_go, hn_come_leave, hn_go_raise, hn_go_await, hn_go_begin, hn_go_work, hn_go_say, hn_go_come, hn_go_leave, hn_leave_raise, hn_leave_await, hn_leave_begin, hn_leave_work, hn_leave_say, hn_leave_come, hn_leave_go]; exact ⟨_, left, _, er2, hin2, rfl, rfl, hf⟩
            | beg i m => simp_arith [Hd.d, eq_self, hn_raise_await, hn_raise_begin, hn_raise_work, hn_raise_say, hn_raise_come, hn_raise_go, hn_raise_leave, hn_await_raise, hn_await_begin, hn_await_work, hn_await_say, hn_await_come, hn_await_go, hn_await_leave, hn_begin_raise, hn_begin_await, hn_begin_work, hn_begin_say, hn_begin_come, hn_begin_go, hn_begin_leave, hn_work_raise, hn_work_await, hn_work_begin, hn_work_say, hn_work_come, hn_work_go, hn_work_leave, hn_say_raise, hn_say_await, hn_say_begin, hn_say_work, hn_say_come, hn_say_go, hn_say_leave, hn_come_raise, hn_come_await, hn_come_begin, hn_come_work, hn_come_say, hn_come_go, hn_come_leave, hn_go_raise, hn_go_await, hn_go_begin, hn_go_work, hn_go_say, hn_go_come, hn_go_leave, hn_leave_raise, hn_leave_await, hn_leave_begin, hn_leave_work, hn_leave_say, hn_leave_come, hn_leave_go]; exact ⟨_, left, _, er2, hin2, rfl, rfl, hf⟩
            | rai b x => simp_arith [Hd.d, eq_self, hn_raise_await, hn_raise_begin, hn_raise_work, hn_raise_say, hn_raise_come, hn_raise_go, hn_raise_leave, hn_await_raise, hn_await_begin, hn_await_work, hn_await_say, hn_await_come, hn_await_go, hn_await_leave, hn_begin_raise, hn_begin_await, hn_begin_work, hn_begin_say, hn_begin_come, hn_begin_go, hn_begin_leave, hn_work_raise, hn_work_await, hn_work_begin, hn_work_say, hn_work_come, hn_work_go, hn_work_leave, hn_say_raise, hn_say_await, hn_say_begin, hn_say_work, hn_say_come, hn_say_go, hn_say_leave, hn_come_raise, hn_come_await, hn_come_begin, hn_come_work, hn_come_say, hn_come_go, hn_come_leave, hn_go_raise, hn_go_await, hn_go_begin, hn_go_work, hn_go_say, hn_go_come, hn_go_leave, hn_leave_raise, hn_leave_await, hn_leave_begin, hn_leave_work, hn_leave_say, hn_leave_come, hn_leave_go]; exact ⟨_, left, _, er2, hin2, rfl, rfl, hf⟩
            | awa b x => simp_arith [Hd.d, eq_self, hn_raise_await, hn_raise_begin, hn_raise_work, hn_raise_say, hn_raise_come, hn_raise_go, hn_raise_leave, hn_await_raise, hn_await_begin, hn_await_work, hn_await_say, hn_await_come, hn_await_go, hn_await_leave, hn_begin_raise, hn_begin_await, hn_begin_work, hn_begin_say, hn_begin_come, hn_begin_go, hn_begin_leave, hn_work_raise, hn_work_await, hn_work_begin, hn_work_say, hn_work_come, hn_work_go, hn_work_leave, hn_say_raise, hn_say_await, hn_say_begin, hn_say_work, hn_say_come, hn_say_go, hn_say_leave, hn_come_raise, hn_come_await, hn_come_begin, hn_come_work, hn_come_say, hn_come_go, hn_come_leave, hn_go_raise, hn_go_await, hn_go_begin, hn_go_work, hn_go_say, hn_go_come, hn_go_leave, hn_leave_raise, hn_leave_await, hn_leave_begin, hn_leave_work, hn_leave_say, hn_leave_come, hn_leave_go]; exact ⟨_, left, _, er2, hin2, rfl, rfl, hf⟩
            | work x => simp_arith [Hd.d, eq_self, hn_raise_await, hn_raise_begin, hn_raise_work, hn_raise_say, hn_raise_come, hn_raise_go, hn_raise_leave, hn_await_raise, hn_await_begin, hn_await_work, hn_await_say, hn_await_come, hn_await_go, hn_await_leave, hn_begin_raise, hn_begin_await, hn_begin_work, hn_begin_say, hn_begin_come, hn_begin_go, hn_begin_leave, hn_work_raise, hn_work_await, hn_work_begin, hn_work_say, hn_work_come, hn_work_go, hn_work_leave, hn_say_raise, hn_say_await, hn_say_begin, hn_say_work, hn_say_come, hn_say_go, hn_say_leave, hn_come_raise, hn_come_await, hn_come_begin, hn_come_work, hn_come_say, hn_come_go, hn_come_leave, hn_go_raise, hn_go_await, hn_go_begin, hn_go_work, hn_go_say, hn_go_come, hn_go_leave, hn_leave_raise, hn_leave_await, hn_leave_begin, hn_leave_work, hn_leave_say, hn_leave_come, hn_leave_go]; exact ⟨_, left, _, er2, hin2, rfl, rfl, hf⟩
            | say w => simp_arith [Hd.d, eq_self, hn_raise_await, hn_raise_begin, hn_raise_work, hn_raise_say, hn_raise_come, hn_raise_go, hn_raise_leave, hn_await_raise, hn_await_begin, hn_await_work, hn_await_say, hn_await_come, hn_await_go, hn_await_leave, hn_begin_raise, hn_begin_await, hn_begin_work, hn_begin_say, hn_begin_come, hn_begin_go, hn_begin_leave, hn_work_raise, hn_work_await, hn_work_begin, hn_work_say, hn_work_come, hn_work_go, hn_work_leave, hn_say_raise, hn_say_await, hn_say_begin, hn_say_work, hn_say_come, hn_say_go, hn_say_leave, hn_come_raise, hn_come_await, hn_come_begin, hn_come_work, hn_come_say, hn_come_go, hn_come_leave, hn_go_raise, hn_go_await, hn_go_begin, hn_go_work, hn_go_say, hn_go_come, hn_go_leave, hn_leave_raise, hn_leave_await, hn_leave_begin, hn_leave_work, hn_leave_say, hn_leave_come, hn_leave_go]; exact ⟨_, left, _, er2, hin2, rfl, rfl, hf⟩
      · obtain ⟨kvs, left, e5, er, hin, e, eT, hf⟩ := hI
        cases left with
        | cons x left => cases er
        | nil =>
          subst e eT
          rw [hf] at k
          simp_arith
          exact frz_set1 rfl k
end
theorem beg_filter : ∀ s : List Hd, ((s.map Hd.d).filter fun d => match d with | .tup (.str w :: _) => decide (w = "begin") | _ => false).map (fun d => match d with | .tup (_ :: r) => D.tup r | d => d) = (begs s).map callD
  | [] => rfl
  | e :: es => by
    have ih := beg_filter es
    cases e with
    | beg i m => exact congrArg (List.cons (callD (i, m))) ih
    | rai b x => exact ih
    | awa b x => exact ih
    | work x => exact ih
    | say w => exact ih
    | com w => exact ih
    | go w => exact ih
    | lve w => exact ih
theorem hat {A : Type} (f : A → D) {l : List A} {i : Nat} {a : A} (h : l[i]? = some a) : atI (l.map f) (i : Int) = some (f a) := at_nat (Int.natCast_nonneg i) (by rw [Int.toNat_natCast, List.getElem?_map, h]; rfl)
theorem called_wp {h : HH} {A : List Call} {S : Sto} {P : D → Sto → Prop} (ca : Called h A) (k : P (.bl true) S) : Wp (f_are_called_well [.tup (h.fs.map callD), .tup (h.ss.map hsD)] S) P := by
  have hA := ca.len
  unfold f_are_called_well d_are_called_well
  refine wp_frz ?_
  have o1 : oListN S [.tup (h.fs.map callD)] = some (h.fs.map callD) := rfl
  simp_arith [o1]
  unfold sWhile
  refine whGo_wp (fun m env T => ∃ (a : Nat) (e5 e6 : Option D) (cs : List Call), m = A.length - a ∧ a ≤ cs.length ∧ cs = h.fs ++ (A.take a).flatMap (fun c => begs (scriptAt h c)) ∧ env = [some (.tup (h.fs.map callD)), some (.tup (h.ss.map hsD)), some (.ref S.length), some (.int (((A.take a).map fun c => (scriptAt h c).length).sum : Nat)), some (.int (a : Int)), e5, e6] ∧ T = S ++ [.lst (cs.map callD)]) _ A.length _ _ (by unfold turns; omega)
    ⟨0, none, none, h.fs, rfl, Nat.zero_le _, by rw [List.take_zero]; exact (List.append_nil _).symm, rfl, rfl⟩ fun m env T hI => ?_
  obtain ⟨a, e5, e6, cs, em, ha, ec, e, eT⟩ := hI
  subst e eT
  have hcell := app_at S (.lst (cs.map callD))
  have pre : A = cs ++ (A.drop a).flatMap fun c => begs (scriptAt h c) := by
    have e1 : A.flatMap (fun c => begs (scriptAt h c)) = (A.take a).flatMap (fun c => begs (scriptAt h c)) ++ (A.drop a).flatMap (fun c => begs (scriptAt h c)) := by
      rw [← List.flatMap_append, List.take_append_drop]
    have e2 := ca.eq
    rw [e1, ← List.append_assoc, ← ec] at e2
    exact e2
  have hcl : cs.length ≤ A.length := by
    have := congrArg List.length pre
    rw [List.length_append] at this
    omega
  have lenq : oLen (S ++ [.lst (cs.map callD)]) [.ref S.length] = some (.int (cs.length : Int)) := by
    show (listOf _ _).map _ = _
    rw [list_ref hcell, Option.map_some, List.length_map]
  simp_arith [lenq]
  by_cases hlt : a < cs.length
  · obtain ⟨c, hc⟩ : ∃ c, cs[a]? = some c := ⟨_, List.getElem?_eq_getElem hlt⟩
    have hcA : A[a]? = some c := by rw [pre, List.getElem?_append_left hlt]; exact hc
    have haA : a < A.length := (List.getElem?_eq_some_iff.mp hcA).1
    have cin := List.mem_of_getElem? hcA
    obtain ⟨sc, hsc⟩ : ∃ sc, h.ss[c.1]? = some sc := ⟨_, List.getElem?_eq_getElem (ca.lt c cin)⟩
    have esc : scriptAt h c = sc := by unfold scriptAt; rw [hsc]; rfl
    have g1 : oIx (S ++ [.lst (cs.map callD)]) (.ref S.length) (.int (a : Int)) = some (callD c) := (ix_refD hcell).trans (hat callD hc)
    have hsl := ca.sl sc (List.mem_of_getElem? hsc)
    have etake : A.take (a + 1) = A.take a ++ [c] := by rw [List.take_succ, hcA]; rfl
    have esum : ((A.take (a + 1)).map fun c => (scriptAt h c).length).sum = ((A.take a).map fun c => (scriptAt h c).length).sum + sc.length := by
      rw [etake, List.map_append, List.sum_append, List.map_cons, List.map_nil, esc]
      simp
    have hsum : ((A.take (a + 1)).map fun c => (scriptAt h c).length).sum ≤ 1200 := by
      refine Nat.le_trans ?_ ca.sum
      have e1 : (A.map fun c => (scriptAt h c).length).sum = ((A.take (a + 1)).map fun c => (scriptAt h c).length).sum + ((A.drop (a + 1)).map fun c => (scriptAt h c).length).sum := by
        rw [← List.sum_append, ← List.map_append, List.take_append_drop]
      omega
    have hbm : ∀ e ∈ sc, ∀ i m, e = .beg i m → m.length ≤ 10 := fun e he i m q => by
      subst q
      have h1 : (i, m) ∈ begs sc := List.mem_filterMap.mpr ⟨_, he, rfl⟩
      have h2 : (i, m) ∈ A := by
        rw [ca.eq]
        exact List.mem_append_right _ (List.mem_flatMap.mpr ⟨c, cin, by rw [esc]; exact h1⟩)
      exact ca.ml _ h2
    simp_arith [decide_eq_true (show (a : Int) < (cs.length : Int) by omega), g1, callD, hat hsD hsc, hsD, List.length_map]
    have n1 : ¬ ((cs.length : Nat) : Int) > 60 := by omega
    have n2 : ¬ ((((A.take a).map fun c => (scriptAt h c).length).sum : Nat) : Int) + (sc.length : Int) > 1200 := by omega
    simp_arith [lenq, decide_eq_false n1, decide_eq_false n2, g1, callD]
    have hw := scriptfits_wp (S := S ++ [.lst (cs.map callD)]) (s := sc) (ms := c.2) (P := fun d T => d = .bl true ∧ T = S ++ [.lst (cs.map callD)]) hsl (ca.ml c cin) (ca.nd c cin) hbm ⟨by rw [← esc, ca.fit c cin], rfl⟩
    unfold hsD at hw
    refine hw.mono fun d T q => ?_
    obtain ⟨q1, q2⟩ := q
    subst q1 q2
    simp_arith
    refine w_Ext ?_
    simp_arith
    refine ⟨S.length, rfl, ⟨_, hcell⟩, ?_⟩
    simp_arith
    refine compGo_filter (fun d => match d with | .tup (.str w :: _) => decide (w = "begin") | _ => false) (fun d => match d with | .tup (_ :: r) => D.tup r | d => d) (by rw [List.length_map, sizeLine_eq]; omega) (fun d hd => ?_) ?_
    · obtain ⟨e, _, ee⟩ := List.mem_map.mp hd
      subst ee
      refine ⟨_, rfl, ?_, fun _ => ?_⟩
      · cases e <;> simp_arith [Hd.d, eq_self, hn_raise_await, hn_raise_begin, hn_raise_work, hn_raise_say, hn_raise_come, hn_raise_go, hn_raise_leave, hn_await_raise, hn_await_begin, hn_await_work, hn_await_say, hn_await_come, hn_await_go, hn_await_leave, hn_begin_raise, hn_begin_await, hn_begin_work, hn_begin_say, hn_begin_come, hn_begin_go, hn_begin_leave, hn_work_raise, hn_work_await, hn_work_begin, hn_work_say, hn_work_come, hn_work_go, hn_work_leave, hn_say_raise, hn_say_await, hn_say_begin, hn_say_work, hn_say_come, hn_say_go, hn_say_leave, hn_come_raise, hn_come_await, hn_come_begin, hn_come_work, hn_come_say, hn_come_go, hn_come_leave, hn_go_raise, hn_go_await, hn_go_begin, hn_go_work, hn_go_say, hn_go_come, hn_go_leave, hn_leave_raise, hn_leave_await, hn_leave_begin, hn_leave_work, hn_leave_say, hn_leave_come, hn_leave_go]
      · have c1 : ∀ (x : D) (r : List D), r.length ≤ 5 → cutD (x :: r) (some 1) none = r := fun x r hr => by rw [cut_hi _ _ (by decide) (by rw [List.length_cons]; omega)]; rfl
        cases e <;> simp_arith [Hd.d, c1 _ [_, _] (by show 2 ≤ 5; decide), c1 _ [_] (by show 1 ≤ 5; decide)]
    · rw [beg_filter]
      have hlen2 : cs.length + (begs sc).length ≤ 60 := by
        have e3 : A.drop a = c :: A.drop (a + 1) := List.drop_eq_getElem_cons haA |>.trans (by rw [show A[a] = c from Option.some.inj ((List.getElem?_eq_getElem haA).symm.trans hcA)])
        have := congrArg List.length pre
        rw [e3, List.flatMap_cons, List.length_append, List.length_append, esc] at this
        omega
      refine ⟨cs.map callD, (begs sc).map callD, hcell, rfl, by rw [List.length_map, List.length_map, sizeLine_eq]; omega, ?_⟩
      rw [set_last, ← List.map_append]
      refine ⟨A.length - (a + 1), by omega, a + 1, some (.tup (sc.map Hd.d)), e6, cs ++ begs sc, rfl, by rw [List.length_append]; omega, ?_, ?_, rfl⟩
      · rw [ec, etake, List.flatMap_append, List.flatMap_cons, List.flatMap_nil, List.append_nil, esc, List.append_assoc]
      · rw [esum]
        rfl
  · simp_arith [decide_eq_false (show ¬ (a : Int) < (cs.length : Int) by omega)]
    exact frz_set1 rfl k

end G
namespace G
/-! ### good houses -/
def okS (w : Str) : Prop := PyData.strOk w = true ∧ w.length ≤ 1000
def memFn (ms : Mem) : Prop := ∀ p ∈ ms, okS p.2
def Hd.Fn : Hd → Prop
  | .say w => okS w
  | .beg _ ms => memFn ms
  | _ => True
structure HH.Fn (h : HH) : Prop where
  fs : ∀ c ∈ h.fs, memFn c.2
  ss : ∀ s ∈ h.ss, ∀ e ∈ s, e.Fn
def Hd.Vd (b w n a' : Nat) : Hd → Prop
  | .rai k x => k < b ∧ 1 ≤ x ∧ x ≤ 99
  | .awa k x => k < b ∧ 1 ≤ x ∧ x ≤ 9999
  | .beg s ms => a' < s ∧ s < n ∧ membersB w (memD ms) = true
  | .work x => x ≤ 999
  | .say v => wordB (.str v) = true
  | .com k => k < w
  | .go k => k < w
  | .lve k => k < w
structure HH.Vd (h : HH) : Prop where
  b : h.b ≤ 99
  w : h.w ≤ 6
  f1 : 1 ≤ h.fs.length
  f40 : h.fs.length ≤ 40
  s1 : 1 ≤ h.ss.length
  s20 : h.ss.length ≤ 20
  sl : ∀ s ∈ h.ss, s.length ≤ 80
  sd : ∀ (i : Nat) (s : List Hd), h.ss[i]? = some s → ∀ e ∈ s, e.Vd h.b h.w h.ss.length i
  fc : ∀ c ∈ h.fs, c.1 < h.ss.length ∧ membersB h.w (memD c.2) = true
theorem ft_t' {a b i : Int} (h1 : a ≤ i) (h2 : i ≤ b) : fromTo a b (.int i) = true := by
  show (decide (a ≤ i) && decide (i ≤ b)) = true
  rw [decide_eq_true h1, decide_eq_true h2]
  rfl
theorem vd_deedB {b w n a' : Nat} {e : Hd} (v : e.Vd b w n a') : hdeedB b w n a' e.d = true := by
  cases e with
  | rai k x =>
    obtain ⟨v1, v2, v3⟩ := v
    show hthreeB _ _ _ _ "raise" _ _ = true
    unfold hthreeB
    rw [if_pos rfl, ft_t' (by omega) (by omega), ft_t' (by omega) (by omega)]
    rfl
  | awa k x =>
    obtain ⟨v1, v2, v3⟩ := v
    show hthreeB _ _ _ _ "await" _ _ = true
    unfold hthreeB
    rw [if_neg (by decide), if_pos rfl, ft_t' (by omega) (by omega), ft_t' (by omega) (by omega)]
    rfl
  | beg s ms =>
    obtain ⟨v1, v2, v3⟩ := v
    show hthreeB _ _ _ _ "begin" _ _ = true
    unfold hthreeB
    rw [if_neg (by decide), if_neg (by decide), ft_t' (by omega) (by omega), v3]
    rfl
  | work x =>
    have v' : x ≤ 999 := v
    show htwoB _ "work" _ = true
    unfold htwoB
    rw [if_pos rfl, ft_t' (by omega) (by omega)]
  | say u =>
    show htwoB _ "say" _ = true
    unfold htwoB
    rw [if_neg (by decide), if_pos rfl]
    exact v
  | com k =>
    have v' : k < w := v
    show htwoB _ "come" _ = true
    unfold htwoB
    rw [if_neg (by decide), if_neg (by decide), ft_t' (by omega) (by omega)]
    rfl
  | go k =>
    have v' : k < w := v
    show htwoB _ "go" _ = true
    unfold htwoB
    rw [if_neg (by decide), if_neg (by decide), ft_t' (by omega) (by omega)]
    rfl
  | lve k =>
    have v' : k < w := v
    show htwoB _ "leave" _ = true
    unfold htwoB
    rw [if_neg (by decide), if_neg (by decide), ft_t' (by omega) (by omega)]
    rfl
theorem hscripts_all {b w n : Nat} : ∀ {ss : List (List Hd)} {k : Nat}, (∀ s ∈ ss, s.length ≤ 80) → (∀ (i : Nat) (s : List Hd), ss[i]? = some s → ∀ e ∈ s, e.Vd b w n (k + i)) → hscriptsB b w n k (ss.map hsD) = true
  | [], _, _, _ => rfl
  | s :: ss, k, hl, hv => by
    have ih := hscripts_all (ss := ss) (k := k + 1) (fun x hx => hl x (List.mem_cons_of_mem _ hx)) fun i x hx e he => by
      have := hv (i + 1) x hx e he
      rw [show k + (i + 1) = k + 1 + i by omega] at this
      exact this
    show (hscriptB b w n k (.tup (s.map Hd.d)) && hscriptsB b w n (k + 1) (ss.map hsD)) = true
    rw [ih, Bool.and_true]
    show (decide ((s.map Hd.d).length ≤ 80) && (s.map Hd.d).all (hdeedB b w n k)) = true
    rw [List.length_map, decide_eq_true (hl s List.mem_cons_self), Bool.true_and, List.all_map]
    exact List.all_eq_true.mpr fun e he => vd_deedB (hv 0 s rfl e he)
theorem house_pre {h : HH} (v : h.Vd) : preB h.d = true := by
  have := v.b
  have := v.w
  show (decide (0 ≤ (h.b : Int)) && decide ((h.b : Int) ≤ 99) && (decide (0 ≤ (h.w : Int)) && decide ((h.w : Int) ≤ 6)) && (decide (1 ≤ (h.fs.map callD).length) && decide ((h.fs.map callD).length ≤ 40)) && (decide (1 ≤ (h.ss.map hsD).length) && decide ((h.ss.map hsD).length ≤ 20)) && hscriptsB h.b h.w ((h.ss.map hsD).length : Nat) 0 (h.ss.map hsD) && (h.fs.map callD).all (callingB h.w ((h.ss.map hsD).length : Nat))) = true
  rw [List.length_map, List.length_map, decide_eq_true (show 0 ≤ (h.b : Int) by omega), decide_eq_true (show (h.b : Int) ≤ 99 by omega), decide_eq_true (show 0 ≤ (h.w : Int) by omega), decide_eq_true (show (h.w : Int) ≤ 6 by omega), decide_eq_true v.f1, decide_eq_true v.f40, decide_eq_true v.s1, decide_eq_true v.s20,
    hscripts_all v.sl (fun i s hs e he => by rw [Nat.zero_add]; exact v.sd i s hs e he)]
  simp only [Bool.true_and]
  rw [List.all_map]
  refine List.all_eq_true.mpr fun c hc => ?_
  obtain ⟨h1, h2⟩ := v.fc c hc
  show (fromTo 0 ((h.ss.length : Int) - 1) (.int (c.1 : Int)) && membersB h.w (memD c.2)) = true
  rw [ft_t' (by omega) (by omega), h2]
  rfl
/-! ### what houses are made of -/
theorem typedL_of' {S : Sto} : ∀ {ds : List D}, (∀ d ∈ ds, typedD S d = true) → typedL S ds = true
  | [], _ => rfl
  | d :: ds, h => by
    show (typedD S d && typedL S ds) = true
    rw [h d List.mem_cons_self, typedL_of' fun x hx => h x (List.mem_cons_of_mem _ hx)]
    rfl
theorem shortL_of' : ∀ {ds : List D}, (∀ d ∈ ds, shortD d = true) → shortL ds = true
  | [], _ => rfl
  | d :: ds, h => by
    show (shortD d && shortL ds) = true
    rw [h d List.mem_cons_self, shortL_of' fun x hx => h x (List.mem_cons_of_mem _ hx)]
    rfl
theorem ltL_of' {k : Nat} : ∀ {ds : List D}, (∀ d ∈ ds, ltD k d = true) → ltL k ds = true
  | [], _ => rfl
  | d :: ds, h => by
    show (ltD k d && ltL k ds) = true
    rw [h d List.mem_cons_self, ltL_of' fun x hx => h x (List.mem_cons_of_mem _ hx)]
    rfl
/-- a plain tree of a depth, its texts short -/
structure PlT (n : Nat) (d : D) : Prop where
  pl : plD n d = true
  lt : ltD 0 d = true
  ok : ∀ S, okD S d
theorem PlT.tup {n : Nat} {ds : List D} (h : ∀ d ∈ ds, PlT n d) : PlT (n + 1) (.tup ds) :=
  ⟨plL_mem fun d hd => (h d hd).pl, ltL_of' fun d hd => (h d hd).lt, fun S => ⟨typedL_of' fun d hd => ((h d hd).ok S).1, shortL_of' fun d hd => ((h d hd).ok S).2⟩⟩
theorem PlT.int (n : Nat) (i : Int) : PlT n (.int i) := ⟨by cases n <;> rfl, rfl, fun S => ⟨rfl, rfl⟩⟩
theorem PlT.str (n : Nat) {w : Str} (h : okS w) : PlT n (.str w) := ⟨by cases n <;> exact h.1, rfl, fun S => ⟨rfl, decide_eq_true h.2⟩⟩
theorem okS_w {w : Str} (h : (PyData.strOk w && decide (w.length ≤ 1000)) = true) : okS w := by
  rw [Bool.and_eq_true, decide_eq_true_eq] at h
  exact h
theorem plt_mem {n : Nat} {ms : Mem} (h : memFn ms) : PlT (n + 2) (memD ms) := PlT.tup fun d hd => by
  obtain ⟨p, hp, e⟩ := List.mem_map.mp hd
  subst e
  exact PlT.tup (allc (PlT.int _ _) (allc (PlT.str _ (h p hp)) alln))
theorem plt_hd {n : Nat} {e : Hd} (h : e.Fn) : PlT (n + 3) e.d := by
  cases e with
  | rai b x => exact PlT.tup (allc (PlT.str _ (okS_w (by decide +kernel))) (allc (PlT.int _ _) (allc (PlT.int _ _) alln)))
  | awa b x => exact PlT.tup (allc (PlT.str _ (okS_w (by decide +kernel))) (allc (PlT.int _ _) (allc (PlT.int _ _) alln)))
  | beg s ms => exact PlT.tup (allc (PlT.str _ (okS_w (by decide +kernel))) (allc (PlT.int _ _) (allc (plt_mem h) alln)))
  | work x => exact PlT.tup (allc (PlT.str _ (okS_w (by decide +kernel))) (allc (PlT.int _ _) alln))
  | say w => exact PlT.tup (allc (PlT.str _ (okS_w (by decide +kernel))) (allc (PlT.str _ h) alln))
  | com w => exact PlT.tup (allc (PlT.str _ (okS_w (by decide +kernel))) (allc (PlT.int _ _) alln))
  | go w => exact PlT.tup (allc (PlT.str _ (okS_w (by decide +kernel))) (allc (PlT.int _ _) alln))
  | lve w => exact PlT.tup (allc (PlT.str _ (okS_w (by decide +kernel))) (allc (PlT.int _ _) alln))
theorem plt_sc {n : Nat} {s : List Hd} (h : ∀ e ∈ s, e.Fn) : PlT (n + 4) (hsD s) := PlT.tup fun d hd => by
  obtain ⟨e, he, q⟩ := List.mem_map.mp hd
  subst q
  exact plt_hd (h e he)
theorem plt_call {n : Nat} {c : Call} (h : memFn c.2) : PlT (n + 3) (callD c) := PlT.tup (allc (PlT.int _ _) (allc (plt_mem h) alln))
theorem plt_h {n : Nat} {h : HH} (f : h.Fn) : PlT (n + 6) h.d := by
  refine PlT.tup (allc (PlT.int _ _) (allc (PlT.int _ _) (allc (PlT.tup fun d hd => ?_) (allc (PlT.tup fun d hd => ?_) alln))))
  · obtain ⟨c, hc, e⟩ := List.mem_map.mp hd
    subst e
    exact plt_call (n := n + 1) (f.fs c hc)
  · obtain ⟨s, hs, e⟩ := List.mem_map.mp hd
    subst e
    exact plt_sc (f.ss s hs)
theorem house_wp {h : HH} {A : List Call} {S : Sto} {P : D → Sto → Prop} (v : h.Vd) (f : h.Fn) (ca : Called h A) (k : P (.bl true) S) : Wp (f_is_house [h.d] S) P := by
  refine ishouse_wp ((plt_h (n := 0) f).ok S) (fun e => by rw [house_pre v] at e; cases e) fun b w fs ss e _ => ?_
  have e' : h.d = .tup [.int (h.b : Int), .int (h.w : Int), .tup (h.fs.map callD), .tup (h.ss.map hsD)] := rfl
  rw [e'] at e
  injection e with e
  injection e with _ e
  injection e with _ e
  injection e with e1 e
  injection e with e2 _
  injection e1 with e1
  injection e2 with e2
  rw [← e1, ← e2]
  exact called_wp ca k
/-! ### a store that has grown -/
def Own (S T : Sto) : Prop := ∃ l, T = S ++ l
theorem Own.refl (S : Sto) : Own S S := ⟨[], (List.append_nil S).symm⟩
theorem Own.app {S T : Sto} (h : Own S T) (c : Cell) : Own S (T ++ [c]) := by
  obtain ⟨l, e⟩ := h
  exact ⟨l ++ [c], by rw [e, List.append_assoc]⟩
theorem Own.set {S T : Sto} (h : Own S T) {q : Nat} (hq : S.length ≤ q) (c : Cell) : Own S (T.set q c) := by
  obtain ⟨l, e⟩ := h
  exact ⟨l.set (q - S.length) c, by rw [e, List.set_append_right _ _ hq]⟩
theorem Own.trans {S T U : Sto} (h : Own S T) (k : Own T U) : Own S U := by
  obtain ⟨l, e⟩ := h
  obtain ⟨m, e2⟩ := k
  exact ⟨l ++ m, by rw [e2, e, List.append_assoc]⟩
theorem Own.len {S T : Sto} (h : Own S T) : S.length ≤ T.length := by
  obtain ⟨l, e⟩ := h
  rw [e, List.length_append]
  omega
theorem Own.at {S T : Sto} (h : Own S T) {j : Nat} {c : Cell} (e : S[j]? = some c) : T[j]? = some c := by
  obtain ⟨l, q⟩ := h
  rw [q, List.getElem?_append_left (List.getElem?_eq_some_iff.mp e).1]
  exact e
theorem frz_own {S T : Sto} {e : D} {P : D → Sto → Prop} (h : Own S T) (he : ltD 0 e = true) (k : P e S) : (∀ j c, j < S.length → T[j]? = some c → S[j]? = some c ∨ ltC S.length c = true) ∧ ∃ d, mapD (rsv S.length T 64) e = some d ∧ P d (T.take S.length) := by
  obtain ⟨l, q⟩ := h
  refine ⟨fun j c hj e2 => .inl (by rw [q, List.getElem?_append_left hj] at e2; exact e2), e, mapD_id e he, ?_⟩
  rw [q, List.take_left]
  exact k

end G
namespace G
/-! ### drawing what houses are made of -/
def RowIs (n : Nat) (S : Sto) (x : D) (ds : List D) : Prop := x = .lst ds ∨ ∃ q, x = .ref q ∧ q ≠ n ∧ S[q]? = some (.lst ds)
theorem RowIs.list {n : Nat} {S : Sto} {x : D} {ds : List D} (h : RowIs n S x ds) : listOf S x = some ds := by
  rcases h with e | ⟨q, e, _, h⟩
  · subst e; rfl
  · subst e; exact list_ref h
theorem RowIs.kp {n : Nat} {S S' : Sto} {x : D} {ds : List D} (h : RowIs n S x ds) (k : Kp n S S') : RowIs n S' x ds := by
  rcases h with e | ⟨q, e, h1, h2⟩
  · exact .inl e
  · exact .inr ⟨q, e, h1, k q _ h1 h2⟩
theorem RowIs.len {n : Nat} {S : Sto} {x : D} {ds : List D} (h : RowIs n S x ds) : oLen S [x] = some (.int (ds.length : Int)) := by
  rcases h with e | ⟨q, e, h1, h2⟩
  · subst e; rfl
  · subst e
    show (listOf S (.ref q)).map _ = _
    rw [list_ref h2]
    rfl
def memI (p : Nat × Str) : D := .tup [.int (p.1 : Int), .str p.2]
structure MemOk (w : Nat) (ms : Mem) : Prop where
  inc : ms.Pairwise fun p q => p.1 < q.1
  lt : ∀ p ∈ ms, p.1 < w
  md : ∀ p ∈ ms, p.2 ∈ MD
theorem MemOk.nil (w : Nat) : MemOk w [] := ⟨.nil, fun _ h => absurd h List.not_mem_nil, fun _ h => absurd h List.not_mem_nil⟩
theorem MemOk.up {w : Nat} {ms : Mem} (h : MemOk w ms) : MemOk (w + 1) ms := ⟨h.inc, fun p hp => Nat.lt_succ_of_lt (h.lt p hp), h.md⟩
theorem MemOk.snoc {w : Nat} {ms : Mem} {m : Str} (h : MemOk w ms) (hm : m ∈ MD) : MemOk (w + 1) (ms ++ [(w, m)]) := by
  refine ⟨List.pairwise_append.mpr ⟨h.inc, List.pairwise_singleton _ _, fun p hp q hq => ?_⟩, fun p hp => ?_, fun p hp => ?_⟩
  · rw [List.mem_singleton] at hq
    subst hq
    exact h.lt p hp
  · rcases List.mem_append.mp hp with q | q
    · exact Nat.lt_succ_of_lt (h.lt p q)
    · rw [List.mem_singleton] at q; subst q; exact Nat.lt_succ_self _
  · rcases List.mem_append.mp hp with q | q
    · exact h.md p q
    · rw [List.mem_singleton] at q; subst q; exact hm
theorem MemOk.nd {w : Nat} {ms : Mem} (h : MemOk w ms) : (ms.map (·.1)).Nodup := by
  refine List.pairwise_map.mpr (h.inc.imp fun q => ?_)
  omega
theorem memGo {w : Nat} : ∀ {ms : Mem} {last : Int}, ms.Pairwise (fun p q => p.1 < q.1) → (∀ p ∈ ms, p.1 < w) → (∀ p ∈ ms, p.2 ∈ MD) → (∀ p ∈ ms, last < (p.1 : Int)) → membersGo w last (ms.map memI) = true
  | [], _, _, _, _, _ => rfl
  | p :: ms, last, hi, hw, hm, hl => by
    obtain ⟨h1, h2⟩ := List.pairwise_cons.mp hi
    have a := hl p List.mem_cons_self
    have b := hw p List.mem_cons_self
    have c := hm p List.mem_cons_self
    show (memberB w last (memI p) && membersGo w (numOf (memI p)) (ms.map memI)) = true
    rw [memGo (last := numOf (memI p)) h2 (fun q hq => hw q (List.mem_cons_of_mem _ hq)) (fun q hq => hm q (List.mem_cons_of_mem _ hq)) fun q hq => ?_, Bool.and_true]
    · show (fromTo (last + 1) ((w : Int) - 1) (.int (p.1 : Int)) && decide (p.2 ∈ MD)) = true
      rw [ft_t' (by omega) (by omega), decide_eq_true c]
      rfl
    · have := h1 q hq
      show (p.1 : Int) < (q.1 : Int)
      omega
theorem MemOk.b {w : Nat} {ms : Mem} (h : MemOk w ms) : membersB w (memD ms) = true := memGo (last := -1) h.inc h.lt h.md fun p _ => by omega
theorem MemOk.len_le {w : Nat} {ms : Mem} (h : MemOk w ms) : ms.length ≤ w := by
  have h1 : (ms.map (·.1)).length ≤ (List.range w).length := List.Nodup.length_le_of_subset h.nd fun x hx => by
    obtain ⟨p, hp, e⟩ := List.mem_map.mp hx
    rw [List.mem_range, ← e]
    exact h.lt p hp
  rw [List.length_map, List.length_range] at h1
  exact h1
theorem tuple_ref {S : Sto} {n : Nat} {ds : List D} (h : S[n]? = some (.lst ds)) : oTuple S [.ref n] = some (.tup ds) := by
  show (listOf S (.ref n)).map D.tup = _
  rw [list_ref h]
  rfl

end G
namespace G
theorem modeOf_mem {kvs : Mem} {p : Nat × Str} (h : p ∈ kvs) : ∃ m, modeOf kvs p.1 = some m := by
  unfold modeOf
  cases e : kvs.find? fun q => decide (q.1 = p.1) with
  | none =>
    have := List.find?_eq_none.mp e p h
    simp at this
  | some q => exact ⟨q.2, rfl⟩
theorem modeOf_in {kvs : Mem} {w : Nat} {m : Str} (h : modeOf kvs w = some m) : (w, m) ∈ kvs := by
  unfold modeOf at h
  obtain ⟨q, e, em⟩ := Option.map_eq_some_iff.mp h
  have h1 := List.mem_of_find?_eq_some e
  have h2 := of_decide_eq_true (show decide (q.1 = w) = true from List.find?_some (p := fun q : Nat × Str => decide (q.1 = w)) e)
  subst em h2
  exact h1

section
variable {env : Ev} {S : Sto} {P : D → Sto → Prop} {g : DG} {tt : DB} {te : DE} {n j : Nat} {vs : List Nat}
theorem compGoC_filter {ds0 : List D} (p : D → Bool) (f : D → D) (hS : S[n]? = some (.lst ds0)) {P : List D → Sto → Prop} : ∀ {ds acc : List D} (hl : acc.length + ds.length ≤ sizeLine)
    (hs : ∀ d ∈ ds, ∃ env', g env d = some env' ∧ Wp (tt env' S) (fun b S' => S' = S ∧ b = p d) ∧ (p d = true → Wp (te env' S) fun y S' => S' = S ∧ y = f d)) (hf : P (acc ++ (ds.filter p).map f) S), Wp (compGoC n ds0 g env tt te ds acc S) P
  | [], acc, hl, hs, hf => by
    unfold compGoC keepC
    rw [List.filter_nil, List.map_nil, List.append_nil] at hf
    first | exact Wp.of (if_pos hS) hf | (rw [if_pos hS]; exact Wp.of rfl hf)
  | d :: ds, acc, hl, hs, hf => by
    obtain ⟨env', e1, w, w2⟩ := hs d List.mem_cons_self
    have hs' := fun x hx => hs x (List.mem_cons_of_mem d hx)
    rw [List.length_cons] at hl
    unfold compGoC keepC
    rw [if_pos hS, e1]
    dsimp only
    rw [wp_bind, wp_noexc]
    refine w.mono fun b S1 q => ?_
    obtain ⟨eS, eb⟩ := q
    subst eb
    rw [eS]
    cases hp : p d with
    | true =>
      rw [if_pos rfl, wp_bind, wp_noexc]
      refine (w2 hp).mono fun y S2 q => ?_
      obtain ⟨eS, ey⟩ := q
      rw [eS, ey, if_pos (by omega)]
      refine compGoC_filter p f hS (by rw [List.length_append, List.length_singleton]; omega) hs' ?_
      rw [List.filter_cons, if_pos hp, List.map_cons] at hf
      rw [List.append_assoc]
      exact hf
    | false =>
      rw [if_neg Bool.false_ne_true]
      refine compGoC_filter p f hS (by omega) hs' ?_
      rw [List.filter_cons, if_neg (by rw [hp]; exact Bool.false_ne_true)] at hf
      exact hf
/-- a comprehension over a cell, nothing written -/
theorem wp_compC {fe : DE} {ds : List D} (p : D → Bool) (f : D → D) (he : fe env S = .ok (.ref n) S) (hS : S[n]? = some (.lst ds)) (hl : ds.length ≤ sizeLine)
    (hs : ∀ d ∈ ds, ∃ env', g (wipeE env vs) d = some env' ∧ Wp (tt env' S) (fun b S' => S' = S ∧ b = p d) ∧ (p d = true → Wp (te env' S) fun y S' => S' = S ∧ y = f d)) (k : P (.lst ((ds.filter p).map f)) S) : Wp (dCompC fe g vs tt te env S) P := by
  unfold dCompC
  rw [he, Out.bind_ok, lst_ref hS]
  dsimp only
  rw [wp_bind]
  exact compGoC_filter p f hS (by rw [List.length_nil, Nat.zero_add]; exact hl) hs (Wp.of rfl k)
end
/-! ### one deed -/
def SAYS : List Str := ["come", "go", "a", "word", "zzzzzzzz"]
def DOk (b : Nat) (kvs : Mem) (cs : List Call) : Hd → Prop
  | .rai k x => k < b ∧ 1 ≤ x ∧ x ≤ 99
  | .awa k x => k < b ∧ 1 ≤ x ∧ x ≤ 9999
  | .beg s ms => (s, ms) ∈ cs
  | .work x => x ≤ 999
  | .say v => v ∈ SAYS
  | .com w => hasM kvs w ["both", "come"] = true
  | .go w => hasM kvs w ["both", "go"] = true
  | .lve w => (modeOf kvs w).isSome = true
theorem ne_lst_nil {S : Sto} {xs : List D} (h : plL 63 xs = true) : oNe S (.lst xs) (.lst []) = some (.bl (!decide (xs = []))) := by
  rw [ne_pl rfl (show plD 64 (D.lst xs) = true from h) rfl]
  congr 2
  rw [decide_eq_decide.mpr (show D.lst xs = .lst [] ↔ xs = [] from ⟨fun h => by injection h, fun h => by rw [h]⟩)]
theorem ne_strs (S : Sto) (i j : Str) : oNe S (.str i) (.str j) = some (.bl (!decide (i = j))) := by
  show some (D.bl (true ^^ decide (i = j))) = _
  rw [Bool.true_xor]
theorem at_in {ds : List D} {v : Int} (h0 : 0 ≤ v) (h : v < ds.length) : ∃ x ∈ ds, atI ds v = some x :=
  ⟨_, List.getElem_mem (by omega), at_nat h0 (List.getElem?_eq_getElem (by omega))⟩
end G
namespace G
/-! ### what fits -/
theorem in_two {S : Sto} {w a b : Str} : oIn false S (.str w) (.tup [.str a, .str b]) = some (.bl (decide (w ∈ [a, b]))) := (in_strs (ns := [a, b]) false).trans (by rw [Bool.false_xor])
theorem fits_snoc (e : Hd) : ∀ (es : List Hd) (ms : Mem), fits ms (es ++ [e]) = (fits ms es && mayDo (es.foldl afterDo ms) e)
  | [], ms => by
    show (mayDo ms e && fits _ []) = (true && mayDo ms e)
    rw [Bool.true_and]
    exact Bool.and_true _
  | x :: es, ms => by
    show (mayDo ms x && fits (afterDo ms x) (es ++ [e])) = (mayDo ms x && fits (afterDo ms x) es && _)
    rw [fits_snoc e es, Bool.and_assoc]
    rfl
theorem begs_app (a b : List Hd) : begs (a ++ b) = begs a ++ begs b := List.filterMap_append
theorem after_sub (ms : Mem) (e : Hd) : (afterDo ms e).Sublist ms := by
  cases e with
  | lve w => exact List.filter_sublist
  | _ => exact List.Sublist.refl _
theorem afters_sub : ∀ (es : List Hd) (ms : Mem), (es.foldl afterDo ms).Sublist ms
  | [], ms => List.Sublist.refl _
  | e :: es, ms => (afters_sub es (afterDo ms e)).trans (after_sub ms e)
theorem hasM_in {kvs : Mem} {w : Nat} {l : List Str} (h : hasM kvs w l = true) : ∃ m, (w, m) ∈ kvs := by
  unfold hasM at h
  cases hm : modeOf kvs w with
  | none => rw [hm] at h; cases h
  | some m => exact ⟨m, modeOf_in hm⟩
theorem mem_md {w : Nat} {ms : Mem} (h : MemOk w ms) : memFn ms := fun p hp => by
  have := h.md p hp
  unfold MD at this
  rcases List.mem_cons.mp this with q | q
  · rw [q]; exact okS_w (by decide +kernel)
  · rcases List.mem_cons.mp q with q | q
    · rw [q]; exact okS_w (by decide +kernel)
    · rw [List.mem_singleton.mp q]; exact okS_w (by decide +kernel)

/-! ### a script -/
def handB (kvs ms : Mem) : Bool := ms.all fun p => hasM kvs p.1 [p.2, "both"]
def Hd.St (b w : Nat) : Hd → Prop
  | .rai k x => k < b ∧ 1 ≤ x ∧ x ≤ 99
  | .awa k x => k < b ∧ 1 ≤ x ∧ x ≤ 9999
  | .beg _ _ => True
  | .work x => x ≤ 999
  | .say v => v ∈ SAYS
  | .com k => k < w
  | .go k => k < w
  | .lve k => k < w
structure ScOk (b w : Nat) (ms : Mem) (cs : List Call) (most : Nat) (s : List Hd) : Prop where
  len : s.length ≤ most
  fit : fits ms s = true
  beg : ∀ c ∈ begs s, c ∈ cs
  two : (begs s).length ≤ 2
  st : ∀ e ∈ s, e.St b w
theorem dok_may {b : Nat} {kvs : Mem} {cs : List Call} {e : Hd} (h : DOk b kvs cs e) (hc : ∀ c ∈ cs, handB kvs c.2 = true) : mayDo kvs e = true := by
  cases e with
  | beg s ms => exact hc _ h
  | com w => exact h
  | go w => exact h
  | lve w => exact h
  | _ => rfl
theorem dok_st {b w : Nat} {kvs : Mem} {cs : List Call} {e : Hd} (h : DOk b kvs cs e) (hw : ∀ p ∈ kvs, p.1 < w) : e.St b w := by
  cases e with
  | com x => obtain ⟨m, q⟩ := hasM_in h; exact hw _ q
  | go x => obtain ⟨m, q⟩ := hasM_in h; exact hw _ q
  | lve x => obtain ⟨m, q⟩ := Option.isSome_iff_exists.mp h; exact hw _ (modeOf_in q)
  | beg s ms => exact trivial
  | rai k x => exact h
  | awa k x => exact h
  | work x => exact h
  | say x => exact h
theorem Dr.over {ns : List Int} {m q : Nat} {S S' : Sto} (h : Dr ns m S S') (c : Cell) (hm : q ≠ m) (hq : S.length ≤ q) : Dr ns m S (S'.set q c) := h.put c hm hq
end G
namespace G
/-! ### hands by hands -/
def levels {A : Type} (g : A → List A) : Nat → List A → List A
  | 0, _ => []
  | k + 1, l => l ++ levels g k (l.flatMap g)
section
variable {g : Call → List Call} {Q : Call → Prop} {N : Nat}
theorem levels_fm : ∀ (k : Nat) (l : List Call), (levels g k l).flatMap g = levels g k (l.flatMap g)
  | 0, _ => rfl
  | k + 1, l => by
    unfold levels
    rw [List.flatMap_append, levels_fm k]
theorem levels_more (hg : ∀ c, Q c → ∀ d ∈ g c, Q d ∧ c.1 < d.1) (hN : ∀ c, Q c → c.1 < N) : ∀ (k : Nat) (l : List Call), (∀ c ∈ l, Q c ∧ N ≤ c.1 + k) → levels g k l = levels g (k + 1) l
  | 0, [], _ => rfl
  | 0, c :: l, h => by
    obtain ⟨h1, h2⟩ := h c List.mem_cons_self
    have := hN c h1
    omega
  | k + 1, l, h => by
    have ih := levels_more hg hN k (l.flatMap g) fun d hd => by
      obtain ⟨c, hc, hcd⟩ := List.mem_flatMap.mp hd
      obtain ⟨h1, h2⟩ := h c hc
      obtain ⟨h3, h4⟩ := hg c h1 d hcd
      exact ⟨h3, by omega⟩
    show l ++ levels g k (l.flatMap g) = l ++ levels g (k + 1) (l.flatMap g)
    rw [ih]
theorem levels_Q (hg : ∀ c, Q c → ∀ d ∈ g c, Q d) : ∀ (k : Nat) (l : List Call), (∀ c ∈ l, Q c) → ∀ c ∈ levels g k l, Q c
  | 0, _, _, c, hc => absurd hc List.not_mem_nil
  | k + 1, l, h, c, hc => by
    rcases List.mem_append.mp hc with q | q
    · exact h c q
    · refine levels_Q hg k (l.flatMap g) (fun d hd => ?_) c q
      obtain ⟨c, hc, hcd⟩ := List.mem_flatMap.mp hd
      exact hg c (h c hc) d hcd
theorem fm_len (h2 : ∀ c, Q c → (g c).length ≤ 2) : ∀ (l : List Call), (∀ c ∈ l, Q c) → (l.flatMap g).length ≤ 2 * l.length
  | [], _ => Nat.le_refl _
  | c :: l, h => by
    have ih := fm_len h2 l fun x hx => h x (List.mem_cons_of_mem _ hx)
    have := h2 c (h c List.mem_cons_self)
    rw [List.flatMap_cons, List.length_append, List.length_cons]
    omega
theorem levels_len (hg : ∀ c, Q c → ∀ d ∈ g c, Q d) (h2 : ∀ c, Q c → (g c).length ≤ 2) : ∀ (k : Nat) (l : List Call), (∀ c ∈ l, Q c) → (levels g k l).length + l.length ≤ l.length * 2 ^ k
  | 0, l, _ => by
    show 0 + l.length ≤ l.length * 1
    omega
  | k + 1, l, h => by
    have hq : ∀ d ∈ l.flatMap g, Q d := fun d hd => by
      obtain ⟨c, hc, hcd⟩ := List.mem_flatMap.mp hd
      exact hg c (h c hc) d hcd
    have ih := levels_len hg h2 k (l.flatMap g) hq
    have f := fm_len h2 l h
    have m : (l.flatMap g).length * 2 ^ k ≤ 2 * l.length * 2 ^ k := Nat.mul_le_mul_right _ f
    have p : 1 ≤ 2 ^ k := Nat.one_le_two_pow
    have e : l.length * 2 ^ (k + 1) = 2 * l.length * 2 ^ k := by rw [Nat.pow_succ, Nat.mul_comm (2 ^ k) 2, ← Nat.mul_assoc, Nat.mul_comm l.length 2]
    show (l ++ levels g k (l.flatMap g)).length + l.length ≤ _
    rw [List.length_append, e]
    have : (levels g k (l.flatMap g)).length ≤ (l.flatMap g).length * 2 ^ k - (l.flatMap g).length := by omega
    -- (F * 2^k - F) + 2 l ≤ 2 l * 2^k, for F ≤ 2 l
    obtain ⟨q, hq2⟩ : ∃ q, 2 ^ k = q + 1 := ⟨2 ^ k - 1, by omega⟩
    rw [hq2] at this m ⊢
    have m1 : (l.flatMap g).length * (q + 1) = (l.flatMap g).length * q + (l.flatMap g).length := Nat.mul_succ _ _
    have m2 : 2 * l.length * (q + 1) = 2 * l.length * q + 2 * l.length := Nat.mul_succ _ _
    have m3 : (l.flatMap g).length * q ≤ 2 * l.length * q := Nat.mul_le_mul_right _ f
    omega
end
theorem sum_le {A : Type} (f : A → Nat) (m : Nat) : ∀ (l : List A), (∀ a ∈ l, f a ≤ m) → (l.map f).sum ≤ l.length * m
  | [], _ => Nat.zero_le _
  | a :: l, h => by
    have ih := sum_le f m l fun x hx => h x (List.mem_cons_of_mem _ hx)
    have := h a List.mem_cons_self
    rw [List.map_cons, List.sum_cons, List.length_cons, Nat.succ_mul]
    omega

/-! ### a house -/
structure Rows (b w many most : Nat) (cs : List Call) (ss : List (List Hd)) : Prop where
  eq : ss.length = cs.length
  le : cs.length ≤ many
  num : ∀ j c, cs[j]? = some c → c.1 + 1 + j = many
  mo : ∀ c ∈ cs, MemOk w c.2
  sc : ∀ j c s, cs[j]? = some c → ss[j]? = some s → ScOk b w c.2 (cs.take j) most s
theorem get_snoc {A : Type} {l : List A} {a x : A} {j : Nat} (h : (l ++ [a])[j]? = some x) : l[j]? = some x ∨ (j = l.length ∧ x = a) := by
  by_cases c : j < l.length
  · rw [List.getElem?_append_left c] at h
    exact .inl h
  · rw [List.getElem?_append_right (by omega)] at h
    have hj : j - l.length = 0 := by
      have := (List.getElem?_eq_some_iff.mp h).1
      rw [List.length_singleton] at this
      omega
    rw [hj] at h
    exact .inr ⟨by omega, (Option.some.inj h).symm⟩
theorem Rows.snoc {b w many most : Nat} {cs : List Call} {ss : List (List Hd)} {ms : Mem} {s : List Hd} (r : Rows b w many most cs ss) (hlt : cs.length < many) (mo : MemOk w ms) (so : ScOk b w ms cs most s) : Rows b w many most (cs ++ [(many - 1 - cs.length, ms)]) (ss ++ [s]) := by
  refine ⟨by rw [List.length_append, List.length_append, r.eq]; rfl, by rw [List.length_append, List.length_singleton]; omega, fun j c h => ?_, fun c hc => ?_, fun j c x h1 h2 => ?_⟩
  · rcases get_snoc h with q | ⟨q1, q2⟩
    · exact r.num j c q
    · subst q1 q2
      show many - 1 - cs.length + 1 + cs.length = many
      omega
  · rcases List.mem_append.mp hc with q | q
    · exact r.mo c q
    · rw [List.mem_singleton.mp q]; exact mo
  · rcases get_snoc h1 with q | ⟨q1, q2⟩
    · have hj := (List.getElem?_eq_some_iff.mp q).1
      rw [List.getElem?_append_left (by rw [r.eq]; exact hj)] at h2
      rw [List.take_append_of_le_length (by omega)]
      exact r.sc j c x q h2
    · rcases get_snoc h2 with p | ⟨p1, p2⟩
      · have hj := (List.getElem?_eq_some_iff.mp p).1
        rw [r.eq] at hj
        omega
      · subst q1 q2 p2
        rw [List.take_left]
        exact so
/-- a drawn house -/
structure Drawn (firsts most : Nat) (h : HH) : Prop where
  vd : h.Vd
  fn : h.Fn
  ca : ∃ A, Called h A
  b3 : h.b ≤ 99
  w3 : h.w ≤ 3
  s3 : h.ss.length ≤ 3
  f4 : h.fs.length ≤ firsts
  sl : ∀ s ∈ h.ss, s.length ≤ most
theorem says_w {v : Str} (h : v ∈ SAYS) : wordB (.str v) = true ∧ okS v := by
  unfold SAYS at h
  rcases List.mem_cons.mp h with q | q
  · subst q; exact ⟨by decide +kernel, okS_w (by decide +kernel)⟩
  rcases List.mem_cons.mp q with q | q
  · subst q; exact ⟨by decide +kernel, okS_w (by decide +kernel)⟩
  rcases List.mem_cons.mp q with q | q
  · subst q; exact ⟨by decide +kernel, okS_w (by decide +kernel)⟩
  rcases List.mem_cons.mp q with q | q
  · subst q; exact ⟨by decide +kernel, okS_w (by decide +kernel)⟩
  rw [List.mem_singleton.mp q]
  exact ⟨by decide +kernel, okS_w (by decide +kernel)⟩
theorem rows_drawn {b w many firsts most : Nat} {cs : List Call} {ss : List (List Hd)} {fs : List Call} (r : Rows b w many most cs ss) (hl : cs.length = many) (hb : b ≤ 99) (hw : w ≤ 3) (hm : 1 ≤ many) (hm3 : many ≤ 3) (hf : ∀ c ∈ fs, c ∈ cs) (hf1 : 1 ≤ fs.length) (hf4 : fs.length ≤ firsts) (h4 : firsts ≤ 4) (hmo : most ≤ 7) : Drawn firsts most ⟨b, w, fs, ss.reverse⟩ := by
  have hsl : ss.length = many := r.eq.trans hl
  -- the script of a known calling
  have at1 : ∀ (j : Nat) (s : List Hd), ss.reverse[j]? = some s → ∃ i c, i + 1 + j = many ∧ ss[i]? = some s ∧ cs[i]? = some c ∧ c.1 = j := fun j s h => by
    have hj := (List.getElem?_eq_some_iff.mp h).1
    rw [List.length_reverse] at hj
    rw [List.getElem?_reverse hj] at h
    refine ⟨ss.length - 1 - j, cs[ss.length - 1 - j]'(by omega), by omega, h, List.getElem?_eq_getElem _, ?_⟩
    have := r.num (ss.length - 1 - j) _ (List.getElem?_eq_getElem (by omega))
    omega
  have at2 : ∀ (i : Nat) (c : Call), cs[i]? = some c → ∃ s, ss[i]? = some s ∧ ss.reverse[c.1]? = some s ∧ c.1 < many := fun i c h => by
    have hi := (List.getElem?_eq_some_iff.mp h).1
    have := r.num i c h
    refine ⟨ss[i]'(by omega), List.getElem?_eq_getElem _, ?_, by omega⟩
    rw [List.getElem?_reverse (by omega), show ss.length - 1 - c.1 = i by omega]
    exact List.getElem?_eq_getElem _
  have of_take : ∀ (i : Nat) (c : Call), c ∈ cs.take i → ∃ j, j < i ∧ cs[j]? = some c := fun i c h => by
    obtain ⟨j, hj⟩ := List.mem_iff_getElem?.mp h
    rw [List.getElem?_take] at hj
    by_cases q : j < i
    · rw [if_pos q] at hj; exact ⟨j, q, hj⟩
    · rw [if_neg q] at hj; cases hj
  let h : HH := ⟨b, w, fs, ss.reverse⟩
  have sAt : ∀ (i : Nat) (c : Call) (s : List Hd), cs[i]? = some c → ss[i]? = some s → scriptAt h c = s := fun i c s h1 h2 => by
    obtain ⟨s', h3, h4, _⟩ := at2 i c h1
    rw [h2] at h3
    cases h3
    show (ss.reverse[c.1]?).getD [] = s
    rw [h4]
    rfl
  have inCs : ∀ c ∈ cs, ∃ i s, cs[i]? = some c ∧ ss[i]? = some s ∧ scriptAt h c = s ∧ ScOk b w c.2 (cs.take i) most s := fun c hc => by
    obtain ⟨i, hi⟩ := List.mem_iff_getElem?.mp hc
    obtain ⟨s, h1, _, _⟩ := at2 i c hi
    exact ⟨i, s, hi, h1, sAt i c s hi h1, r.sc i c s hi h1⟩
  have stS : ∀ s ∈ ss.reverse, ∃ i c, ss[i]? = some s ∧ cs[i]? = some c ∧ ScOk b w c.2 (cs.take i) most s := fun s hs => by
    obtain ⟨j, hj⟩ := List.mem_iff_getElem?.mp hs
    obtain ⟨i, c, _, h1, h2, _⟩ := at1 j s hj
    exact ⟨i, c, h1, h2, r.sc i c s h2 h1⟩
  have sl6 : ∀ s ∈ ss.reverse, s.length ≤ most := fun s hs => by
    obtain ⟨i, c, _, _, so⟩ := stS s hs
    exact so.len
  refine ⟨⟨by show b ≤ 99; omega, by show w ≤ 6; omega, hf1, by show fs.length ≤ 40; omega, by show 1 ≤ ss.reverse.length; rw [List.length_reverse]; omega, by show ss.reverse.length ≤ 20; rw [List.length_reverse]; omega, fun s hs => by have := sl6 s hs; omega, fun j s hj e he => ?_, fun c hc => ?_⟩, ⟨fun c hc => mem_md (r.mo c (hf c hc)), fun s hs e he => ?_⟩, ⟨levels (fun c => begs (scriptAt h c)) many fs, ?_⟩, hb, hw, by show ss.reverse.length ≤ 3; rw [List.length_reverse]; omega, hf4, sl6⟩
  · obtain ⟨i, c, h1, h2, h3, h4⟩ := at1 j s hj
    have so := r.sc i c s h3 h2
    have st := so.st e he
    cases e with
    | beg s' ms' =>
      have hb1 : (s', ms') ∈ cs.take i := so.beg _ (List.mem_filterMap.mpr ⟨_, he, rfl⟩)
      obtain ⟨i', h5, h6⟩ := of_take i _ hb1
      have n1 := r.num i' _ h6
      have n2 := r.num i _ h3
      refine ⟨?_, ?_, (r.mo _ (List.mem_of_getElem? h6)).b⟩
      · show j < s'
        have : s' + 1 + i' = many := n1
        omega
      · show s' < ss.reverse.length
        rw [List.length_reverse]
        have : s' + 1 + i' = many := n1
        omega
    | rai k x => exact st
    | awa k x => exact st
    | work x => exact st
    | say x => exact (says_w st).1
    | com x => exact st
    | go x => exact st
    | lve x => exact st
  · obtain ⟨i, hi⟩ := List.mem_iff_getElem?.mp (hf c hc)
    obtain ⟨s, _, _, h3⟩ := at2 i c hi
    refine ⟨?_, (r.mo c (hf c hc)).b⟩
    show c.1 < ss.reverse.length
    rw [List.length_reverse]
    omega
  · obtain ⟨i, c, h1, h2, so⟩ := stS s hs
    have st := so.st e he
    cases e with
    | beg s' ms' =>
      have hb1 : (s', ms') ∈ cs.take i := so.beg _ (List.mem_filterMap.mpr ⟨_, he, rfl⟩)
      exact mem_md (r.mo _ (List.mem_of_mem_take hb1))
    | say x => exact (says_w st).2
    | _ => exact trivial
  · have hg : ∀ c, c ∈ cs → ∀ d ∈ begs (scriptAt h c), d ∈ cs ∧ c.1 < d.1 := fun c hc d hd => by
      obtain ⟨i, s, h1, h2, h3, so⟩ := inCs c hc
      rw [h3] at hd
      obtain ⟨i', h5, h6⟩ := of_take i _ (so.beg d hd)
      have n1 := r.num i' _ h6
      have n2 := r.num i _ h1
      exact ⟨List.mem_of_getElem? h6, by omega⟩
    have hN : ∀ c, c ∈ cs → c.1 < many := fun c hc => by
      obtain ⟨i, hi⟩ := List.mem_iff_getElem?.mp hc
      have := r.num i c hi
      omega
    have h2 : ∀ c, c ∈ cs → (begs (scriptAt h c)).length ≤ 2 := fun c hc => by
      obtain ⟨i, s, h1, h2, h3, so⟩ := inCs c hc
      rw [h3]
      exact so.two
    have inA := levels_Q (g := fun c => begs (scriptAt h c)) (Q := fun c => c ∈ cs) (fun c hc d hd => (hg c hc d hd).1) many fs hf
    have lenA := levels_len (g := fun c => begs (scriptAt h c)) (Q := fun c => c ∈ cs) (fun c hc d hd => (hg c hc d hd).1) h2 many fs hf
    have l28 : (levels (fun c => begs (scriptAt h c)) many fs).length ≤ 28 := by
      have p : 2 ^ many ≤ 8 := by
        have : 2 ^ many ≤ 2 ^ 3 := Nat.pow_le_pow_right (by decide) hm3
        exact this
      have : fs.length * 2 ^ many ≤ fs.length * 8 := Nat.mul_le_mul_left _ p
      omega
    have scL : ∀ c ∈ levels (fun c => begs (scriptAt h c)) many fs, (scriptAt h c).length ≤ 7 := fun c hc => by
      obtain ⟨i, s, h1, h2, h3, so⟩ := inCs c (inA c hc)
      have := so.len
      rw [h3]
      omega
    refine ⟨?_, by omega, ?_, fun c hc => ?_, fun c hc => ?_, fun c hc => (r.mo c (inA c hc)).nd, fun c hc => ?_, fun s hs => by have := sl6 s hs; omega⟩
    · have e := levels_more (g := fun c => begs (scriptAt h c)) (Q := fun c => c ∈ cs) (N := many) hg hN many fs fun c hc => ⟨hf c hc, by omega⟩
      rw [levels_fm]
      exact e
    · have := sum_le (fun c => (scriptAt h c).length) 7 _ scL
      refine Nat.le_trans this ?_
      omega
    · show c.1 < ss.reverse.length
      rw [List.length_reverse, hsl]
      exact hN c (inA c hc)
    · obtain ⟨i, s, h1, h2, h3, so⟩ := inCs c (inA c hc)
      rw [show scriptAt _ c = s from h3]
      exact so.fit
    · have := (r.mo c (inA c hc)).len_le
      omega
theorem rng_len (lo : Int) (k : Nat) : (rngL lo k).length = k := by
  unfold rngL
  rw [List.length_map, List.length_range]
end G
namespace G
/-! ### all that are called -/
theorem memGo_ok {w : Nat} : ∀ {ms : Mem} {last : Int}, membersGo w last (ms.map memI) = true → ms.Pairwise (fun p q => p.1 < q.1) ∧ (∀ p ∈ ms, p.1 < w ∧ p.2 ∈ MD ∧ last < (p.1 : Int))
  | [], _, _ => ⟨.nil, fun p hp => absurd hp List.not_mem_nil⟩
  | p :: ms, last, h => by
    have h' : (memberB w last (memI p) && membersGo w (numOf (memI p)) (ms.map memI)) = true := h
    rw [Bool.and_eq_true] at h'
    obtain ⟨h1, h2⟩ := h'
    obtain ⟨i1, i2⟩ := memGo_ok h2
    have h1' : ((decide (last + 1 ≤ (p.1 : Int)) && decide ((p.1 : Int) ≤ (w : Int) - 1)) && decide (p.2 ∈ MD)) = true := h1
    rw [Bool.and_eq_true, Bool.and_eq_true, decide_eq_true_eq, decide_eq_true_eq, decide_eq_true_eq] at h1'
    obtain ⟨⟨a1, a2⟩, a3⟩ := h1'
    have hn : numOf (memI p) = (p.1 : Int) := rfl
    refine ⟨List.pairwise_cons.mpr ⟨fun q hq => by have := (i2 q hq).2.2; omega, i1⟩, fun q hq => ?_⟩
    rcases List.mem_cons.mp hq with e | e
    · rw [e]; exact ⟨by omega, a3, by omega⟩
    · obtain ⟨b1, b2, b3⟩ := i2 q e
      exact ⟨b1, b2, by omega⟩
theorem MemOk.of {w : Nat} {ms : Mem} (h : membersB w (memD ms) = true) : MemOk w ms := by
  obtain ⟨h1, h2⟩ := memGo_ok (last := -1) (show membersGo w (-1) (ms.map memI) = true from h)
  exact ⟨h1, fun p hp => (h2 p hp).1, fun p hp => (h2 p hp).2.1⟩
structure Calls (h : HH) (A : List Call) : Prop where
  eq : A = h.fs ++ A.flatMap fun c => begs (scriptAt h c)
  lt : ∀ c ∈ A, c.1 < h.ss.length
  nd : ∀ c ∈ A, (c.2.map (·.1)).Nodup
  ml : ∀ c ∈ A, c.2.length ≤ 10
  sl : ∀ s ∈ h.ss, s.length ≤ 80
  up : ∀ c ∈ A, ∀ d ∈ begs (scriptAt h c), c.1 < d.1
end G
namespace G
/-! ### drawing a house -/
/-! ### members, what fits, one deed -/
section
variable {S : Sto} {P : D → Sto → Prop} {n : Nat}
/-- what hands may be begun by one with such members -/
def handA (kvs ms : Mem) : Bool := ms.all fun p => hasM kvs p.1 [p.2, "both"]
/-- scripts known by their numbers: where their members stand -/
def ltab (cs : List Call) (f : Nat → D) : List (Key × D) := cs.map fun c => (.inl (c.1 : Int), f c.1)
theorem ltab_val {f : Nat → D} : ∀ {cs : List Call} {c : Call}, c ∈ cs → valD (ltab cs f) (.inl (c.1 : Int)) = some (f c.1)
  | e :: cs, c, h => by
    unfold valD ltab
    rw [List.map_cons, List.find?_cons]
    by_cases q : e.1 = c.1
    · have : decide ((Sum.inl (e.1 : Int) : Key) = .inl (c.1 : Int)) = true := decide_eq_true (by rw [q])
      dsimp only
      rw [this, q]
      rfl
    · have : decide ((Sum.inl (e.1 : Int) : Key) = .inl (c.1 : Int)) = false := decide_eq_false fun z => q (by have := Sum.inl.inj z; omega)
      dsimp only
      rw [this]
      have hc : c ∈ cs := by
        rcases List.mem_cons.mp h with z | z
        · subst z; exact absurd rfl q
        · exact z
      exact ltab_val hc
theorem ltab_get {b : Bool} {q : Nat} {cs : List Call} {f : Nat → D} {c : Call} (h : S[q]? = some (if b = true then .fK (ltab cs f) else .dK (ltab cs f))) (hc : c ∈ cs) : oGetT S (.ref q) (.int (c.1 : Int)) = some (f c.1) := by
  unfold oGetT getT
  cases b with
  | true =>
    rw [if_pos rfl] at h
    dsimp only
    rw [h]
    dsimp only
    show ((keyD (.int (c.1 : Int))).map fun k => valD (ltab cs f) k).bind id = _
    unfold keyD
    rw [Option.map_some, ltab_val hc]
    rfl
  | false =>
    rw [if_neg Bool.false_ne_true] at h
    dsimp only
    rw [h]
    dsimp only
    show ((keyD (.int (c.1 : Int))).map fun k => valD (ltab cs f) k).bind id = _
    unfold keyD
    rw [Option.map_some, ltab_val hc]
    rfl
def Hd.dR (f : Nat → D) : Hd → D
  | .beg s _ => .tup [.str "begin", .int (s : Int), f s]
  | e => e.d
def callR (f : Nat → D) (c : Call) : D := .tup [.int (c.1 : Int), f c.1]
def hsR (f : Nat → D) (s : List Hd) : D := .tup (s.map (Hd.dR f))
theorem sortK_M {q : Nat} {kvs : Mem} (h : S[q]? = some (.dK (tabM kvs))) : oSortK S [.ref q] = some (.lst ((sortI (kvs.map fun p => (p.1 : Int))).map D.int)) := by
  unfold oSortK
  dsimp only
  rw [h]
  dsimp only
  have e : (tabM kvs).map (·.1) = (kvs.map fun p => (p.1 : Int)).map Sum.inl := by
    unfold tabM
    rw [List.map_map, List.map_map]
    rfl
  rw [e, keysN1_map]
  rfl
theorem walls_in {kvs : Mem} {d : D} (h : d ∈ (sortI (kvs.map fun p => (p.1 : Int))).map D.int) : ∃ (w : Nat) (m : Str), d = .int (w : Int) ∧ modeOf kvs w = some m := by
  obtain ⟨i, hi, e⟩ := List.mem_map.mp h
  obtain ⟨p, hp, e2⟩ := List.mem_map.mp ((sortI_perm _).mem_iff.mp hi)
  obtain ⟨m, hm⟩ := modeOf_mem hp
  exact ⟨p.1, m, by rw [← e, ← e2], hm⟩
def fitP (kvs : Mem) (cs : List Call) : D → Bool
  | .int i => match cs.find? fun c => decide ((c.1 : Int) = i) with
    | some c => handA kvs c.2
    | none => false
  | _ => false
theorem fitP_c {kvs : Mem} {cs : List Call} (nd : (cs.map (·.1)).Nodup) {c : Call} (hc : c ∈ cs) : fitP kvs cs (.int (c.1 : Int)) = handA kvs c.2 := by
  unfold fitP
  dsimp only
  have : (cs.find? fun x => decide ((x.1 : Int) = (c.1 : Int))) = some c := by
    induction cs with
    | nil => cases hc
    | cons e cs ih =>
      rw [List.map_cons, List.nodup_cons] at nd
      rw [List.find?_cons]
      rcases List.mem_cons.mp hc with z | z
      · subst z
        rw [decide_eq_true rfl]
      · have ne : ¬ (e.1 : Int) = (c.1 : Int) := fun q => nd.1 (List.mem_map.mpr ⟨c, z, by omega⟩)
        rw [decide_eq_false ne]
        exact ih nd.2 z
  rw [this]
end

/-! ### a script -/
section
variable {S : Sto} {P : D → Sto → Prop} {n : Nat}
theorem pairsD_M : ∀ ms : Mem, pairsD (ms.map memI) = some (tabM ms)
  | [] => rfl
  | p :: ms => by
    show pairsD (memI p :: ms.map memI) = _
    unfold pairsD
    rw [pairsD_M ms]
    rfl
theorem mergeD_M : ∀ (ms : Mem) (done : Mem), ((done ++ ms).map (·.1)).Nodup → mergeD (tabM done) (tabM ms) = tabM (done ++ ms)
  | [], done, _ => by rw [List.append_nil]; rfl
  | p :: ms, done, nd => by
    have hn : p.1 ∉ done.map (·.1) := fun q => by
      rw [List.map_append, List.map_cons] at nd
      exact (List.nodup_append.mp nd).2.2 p.1 q p.1 List.mem_cons_self rfl
    show mergeD (putD (tabM done) (.inl (p.1 : Int)) (.str p.2)) (tabM ms) = _
    rw [tabM_put hn, mergeD_M ms (done ++ [(p.1, p.2)]) (by rw [List.append_assoc]; exact nd), List.append_assoc]
    rfl
end

def HH.dR (f : Nat → D) (h : HH) : D := .tup [.int (h.b : Int), .int (h.w : Int), .tup (h.fs.map (callR f)), .tup (h.ss.map (hsR f))]
/-! ### a drawn house taken as plain -/
section
theorem mapL_map {R : Nat → Option D} {A : Type} (g g' : A → D) : ∀ (l : List A), (∀ x ∈ l, mapD R (g x) = some (g' x)) → mapL R (l.map g) = some (l.map g')
  | [], _ => rfl
  | x :: l, h => by
    have h1 := h x List.mem_cons_self
    have h2 := mapL_map g g' l fun y hy => h y (List.mem_cons_of_mem _ hy)
    rw [List.map_cons, List.map_cons]
    unfold mapL
    rw [h1, h2]
theorem ltD_memI (p : Nat × Str) : ltD 0 (memI p) = true := rfl
theorem unl_mem {N : Nat} {T : Sto} {n : Nat} {ms : Mem} (hn : N ≤ n) (hT : T[n]? = some (.tC (ms.map memI))) : mapD (rsvU N T 64) (.ref n) = some (memD ms) := by
  show rsvU N T 64 n = _
  unfold rsvU
  rw [if_neg (by omega), hT]
  dsimp only
  rw [mapL_map (R := rsvU N T 63) memI memI ms fun x _ => mapD_id _ (ltD_memI x)]
  rfl
theorem unl_house {h : HH} {N : Nat} {T : Sto} {f : Nat → D} {qf : Nat → Nat} (hc : ∀ c : Call, (c ∈ h.fs ∨ ∃ s ∈ h.ss, c ∈ begs s) → f c.1 = .ref (qf c.1) ∧ N ≤ qf c.1 ∧ T[qf c.1]? = some (.tC (c.2.map memI))) : mapD (rsvU N T 64) (h.dR f) = some h.d := by
  have call : ∀ c : Call, (c ∈ h.fs ∨ ∃ s ∈ h.ss, c ∈ begs s) → mapD (rsvU N T 64) (f c.1) = some (memD c.2) := fun c hc' => by
    obtain ⟨h1, h2, h3⟩ := hc c hc'
    rw [h1]
    exact unl_mem h2 h3
  have e1 : mapL (rsvU N T 64) (h.fs.map (callR f)) = some (h.fs.map callD) := mapL_map _ _ _ fun c hc' => by
    have := call c (.inl hc')
    show (mapL (rsvU N T 64) [.int (c.1 : Int), f c.1]).map D.tup = _
    unfold mapL mapL mapL
    rw [this]
    rfl
  have e2 : mapL (rsvU N T 64) (h.ss.map (hsR f)) = some (h.ss.map hsD) := mapL_map _ _ _ fun s hs => by
    show (mapL (rsvU N T 64) (s.map (Hd.dR f))).map D.tup = _
    rw [mapL_map (Hd.dR f) Hd.d s fun d hd => ?_]
    · rfl
    · cases d with
      | beg i ms =>
        have hb : (i, ms) ∈ begs s := List.mem_filterMap.mpr ⟨_, hd, rfl⟩
        have := call (i, ms) (.inr ⟨s, hs, hb⟩)
        show (mapL (rsvU N T 64) [.str "begin", .int (i : Int), f i]).map D.tup = _
        unfold mapL mapL mapL mapL
        rw [this]
        rfl
      | _ => exact mapD_id _ rfl
  show (mapL (rsvU N T 64) [.int (h.b : Int), .int (h.w : Int), .tup (h.fs.map (callR f)), .tup (h.ss.map (hsR f))]).map D.tup = _
  have e3 : mapD (rsvU N T 64) (.tup (h.fs.map (callR f))) = some (.tup (h.fs.map callD)) := by
    show (mapL _ _).map D.tup = _
    rw [e1]
    rfl
  have e4 : mapD (rsvU N T 64) (.tup (h.ss.map (hsR f))) = some (.tup (h.ss.map hsD)) := by
    show (mapL _ _).map D.tup = _
    rw [e2]
    rfl
  unfold mapL mapL mapL mapL mapL
  rw [e3, e4]
  rfl

end
section
variable {S : Sto} {P : D → Sto → Prop} {n : Nat} {ns : List Int}
theorem kbAnd_mid {env : Ev} {S : Sto} {tb : DB} {K : Bool → Sto → Prop} {c : Bool} (R : Bool → Sto → Prop) (h1 : c = true → Wp (tb env S) R) (h2 : c = false → R false S) (hK : ∀ b S', R b S' → K b S') : kbAnd tb env K c S := by
  refine k_bAndc (fun h => (h1 h).mono fun b S' q => hK b S' q) fun h => hK _ _ (h2 h)
theorem inT_Mn {q : Nat} {kvs : Mem} (h : S[q]? = some (.dK (tabM kvs))) (w : Nat) : oInT true S (.int (w : Int)) (.ref q) = some (.bl (!(modeOf kvs w).isSome)) := by
  unfold oInT
  rw [getT_M h, Option.map_some]
  cases modeOf kvs w <;> rfl
theorem emay_wp {q r : Nat} {kvs ms : Mem} (h : S[q]? = some (.dK (tabM kvs))) (hr : S[r]? = some (.tC (ms.map memI))) (k : P (.bl (handA kvs ms)) S) : Wp (f__law_e_may_call [.ref q, .ref r] S) P := by
  unfold f__law_e_may_call d__law_e_may_call
  simp_arith
  refine w_ForT ?_
  simp_arith
  refine ⟨r, _, rfl, hr, ?_⟩
  refine forGoT_all (fun rest env T => ∃ (done left : Mem) (e2 e3 : Option D), ms = done ++ left ∧ rest = left.map memI ∧ env = [some (.ref q), some (.ref r), e2, e3] ∧ T = S ∧ handA kvs done = true) _ _ _
    ⟨[], ms, _, _, rfl, rfl, rfl, rfl, rfl⟩ (fun rest env T hI => by obtain ⟨_, _, _, _, _, _, _, eT, _⟩ := hI; rw [eT]; exact hr) (fun d rest env T hI => ?_) fun env T hI => ?_
  · obtain ⟨done, left, e2, e3, em, er, e, eT, hd⟩ := hI
    cases left with
    | nil => cases er
    | cons p left =>
    obtain ⟨ed, er2⟩ := List.cons.inj er
    subst ed e eT
    refine ⟨_, rfl, ?_⟩
    have no : hasM kvs p.1 [p.2, "both"] = false → handA kvs ms = false := fun hh => by
      unfold handA
      rw [em, List.all_append, List.all_cons, hh, Bool.false_and, Bool.and_false]
    have yes : hasM kvs p.1 [p.2, "both"] = true → handA kvs (done ++ [p]) = true := fun hh => by
      unfold handA at hd ⊢
      rw [List.all_append, hd, List.all_cons, hh]
      rfl
    cases hm : modeOf kvs p.1 with
    | none =>
      have := no (by unfold hasM; rw [hm])
      rw [this] at k
      simp_arith [inT_Mn h, hm, Option.isSome_none]
      exact k
    | some m =>
      have hg : oGetT T (.ref q) (.int (p.1 : Int)) = some (.str m) := by
        unfold oGetT
        rw [getT_M h, hm]
        rfl
      have hi : oIn true T (.str m) (.tup [.str p.2, .str "both"]) = some (.bl (!hasM kvs p.1 [p.2, "both"])) := by
        refine (in_strs (ns := [p.2, "both"]) true).trans ?_
        unfold hasM
        rw [hm, Bool.true_xor]
      simp_arith [inT_Mn h, hm, Option.isSome_some, hg, hi]
      cases hh : hasM kvs p.1 [p.2, "both"] with
      | false =>
        rw [no hh] at k
        simp_arith
        exact k
      | true =>
        simp_arith
        exact ⟨done ++ [p], left, _, _, by rw [em, List.append_assoc]; rfl, er2, rfl, yes hh⟩
  · obtain ⟨done, left, e2, e3, em, er, e, eT, hd⟩ := hI
    cases left with
    | cons p left => cases er
    | nil =>
    rw [List.append_nil] at em
    subst em e eT
    simp_arith
    rw [hd] at k
    exact k
theorem sortK_L {l : Nat} {cs : List Call} {f : Nat → D} (h : S[l]? = some (.dK (ltab cs f))) : oSortK S [.ref l] = some (.lst ((sortI (cs.map fun c => (c.1 : Int))).map D.int)) := by
  unfold oSortK
  dsimp only
  rw [h]
  dsimp only
  have e : (ltab cs f).map (·.1) = (cs.map fun c => (c.1 : Int)).map Sum.inl := by
    unfold ltab
    rw [List.map_map, List.map_map]
    rfl
  rw [e, keysN1_map]
  rfl
theorem edeed_wp {q l b : Nat} {kvs : Mem} {cs : List Call} {f : Nat → D} {qf : Nat → Nat} (h : DK ns n S) (hv : S[q]? = some (.dK (tabM kvs))) (hq : q ≠ n) (hl : S[l]? = some (.dK (ltab cs f))) (hln : l ≠ n) (hf : ∀ c ∈ cs, f c.1 = .ref (qf c.1) ∧ qf c.1 ≠ n ∧ S[qf c.1]? = some (.tC (c.2.map memI)))
    (nd : (cs.map (·.1)).Nodup) (hmd : ∀ p ∈ kvs, p.2 ∈ MD) (hkl : kvs.length ≤ 100) (hb : b ≤ 100) (hcl : cs.length ≤ 100)
    (k : ∀ e S', DOk b kvs (cs.filter fun c => handA kvs c.2) e → Dr ns n S S' → P (e.dR f) S') : Wp (f__law_e_house_deed [.ref n, .int (b : Int), .ref q, .ref l] S) P := by
  unfold f__law_e_house_deed d__law_e_house_deed
  simp_arith
  refine pick_dr h (by decide) (by decide) fun v S1 h1 h2 dr1 => ?_
  have hv1 := dr1.kp q _ hq hv
  have hl1 := dr1.kp l _ hln hl
  have wl : ((sortI (kvs.map fun p => (p.1 : Int))).map D.int).length = kvs.length := by rw [List.length_map, (sortI_perm _).length_eq, List.length_map]
  have pw : plL 63 ((sortI (kvs.map fun p => (p.1 : Int))).map D.int) = true := plL_ints 63 _
  have n1 : (("both" : Str) = "go") = False := eq_false (by decide)
  have n2 : (("both" : Str) = "come") = False := eq_false (by decide)
  have n3 : (("come" : Str) = "go") = False := eq_false (by decide)
  have n4 : (("go" : Str) = "come") = False := eq_false (by decide)
  have inMD : ∀ {w : Nat} {m : Str}, modeOf kvs w = some m → m = "both" ∨ m = "come" ∨ m = "go" := fun {w m} hm => by
    have := hmd _ (modeOf_in hm)
    unfold MD at this
    simpa using this
  simp_arith [sortK_M hv1]
  refine kbAnd_mid (fun x T => S1 = T ∧ (x = true → 0 < b)) (fun c => ?_) (fun c => ⟨rfl, fun z => by cases z⟩) fun x T hR => ?_
  · simp_arith
    exact fun z => by have := of_decide_eq_true z; omega
  obtain ⟨eT, hR⟩ := hR
  subst eT
  cases x with
  | true =>
    have hb0 := hR rfl
    simp_arith
    refine pick_dr dr1.dk (by omega) (by omega) fun u T2 u1 u2 dr2 => ?_
    simp_arith
    refine pick_dr dr2.dk (by decide) (by decide) fun y T3 y1 y2 dr3 => ?_
    obtain ⟨x, hx, e⟩ : ∃ x : Nat, (1 ≤ x ∧ x ≤ 99) ∧ atI [D.int 1, .int 1, .int 2, .int 99] y = some (.int (x : Int)) := by
      have : y = 0 ∨ y = 1 ∨ y = 2 ∨ y = 3 := by omega
      rcases this with q | q | q | q <;> subst q
      · exact ⟨1, by decide, rfl⟩
      · exact ⟨1, by decide, rfl⟩
      · exact ⟨2, by decide, rfl⟩
      · exact ⟨99, by decide, rfl⟩
    simp_arith [e]
    have := k (.rai u.toNat x) T3 ⟨by omega, hx⟩ ((dr1.trans dr2).trans dr3)
    dsimp only [Hd.dR, Hd.d] at this
    rw [Int.toNat_of_nonneg u1] at this
    exact this
  | false =>
  simp_arith
  refine kbAnd_mid (fun x T => S1 = T ∧ (x = true → 0 < b)) (fun c => ?_) (fun c => ⟨rfl, fun z => by cases z⟩) fun x T hR => ?_
  · simp_arith
    exact fun z => by have := of_decide_eq_true z; omega
  obtain ⟨eT, hR⟩ := hR
  subst eT
  cases x with
  | true =>
    have hb0 := hR rfl
    simp_arith
    refine pick_dr dr1.dk (by omega) (by omega) fun u T2 u1 u2 dr2 => ?_
    simp_arith
    refine pick_dr dr2.dk (by decide) (by decide) fun y T3 y1 y2 dr3 => ?_
    obtain ⟨x, hx, e⟩ : ∃ x : Nat, (1 ≤ x ∧ x ≤ 9999) ∧ atI [D.int 1, .int 1, .int 2, .int 3, .int 99, .int 9999] y = some (.int (x : Int)) := by
      have : y = 0 ∨ y = 1 ∨ y = 2 ∨ y = 3 ∨ y = 4 ∨ y = 5 := by omega
      rcases this with q | q | q | q | q | q <;> subst q
      · exact ⟨1, by decide, rfl⟩
      · exact ⟨1, by decide, rfl⟩
      · exact ⟨2, by decide, rfl⟩
      · exact ⟨3, by decide, rfl⟩
      · exact ⟨99, by decide, rfl⟩
      · exact ⟨9999, by decide, rfl⟩
    simp_arith [e]
    have := k (.awa u.toNat x) T3 ⟨by omega, hx⟩ ((dr1.trans dr2).trans dr3)
    dsimp only [Hd.dR, Hd.d] at this
    rw [Int.toNat_of_nonneg u1] at this
    exact this
  | false =>
  simp_arith
  refine kbAnd_mid (fun x T => S1 = T ∧ (x = true → (sortI (kvs.map fun p => (p.1 : Int))).map D.int ≠ [])) (fun c => ?_) (fun c => ⟨rfl, fun z => by cases z⟩) fun x T hR => ?_
  · simp_arith [ne_lst_nil pw]
    exact fun z => by simpa using z
  obtain ⟨eT, hR⟩ := hR
  subst eT
  cases x with
  | true =>
    have h0 := hR rfl
    have lp := List.length_pos_iff.mpr h0
    simp_arith
    refine pick_dr dr1.dk (by omega) (by omega) fun u T2 u1 u2 dr2 => ?_
    obtain ⟨d, hd, ed⟩ := at_in u1 u2
    obtain ⟨w, m, e, hm⟩ := walls_in hd
    subst e
    have hv2 := dr2.kp q _ hq hv1
    have dr12 := dr1.trans dr2
    have hg : oGetT T2 (.ref q) (.int (w : Int)) = some (.str m) := by
      unfold oGetT
      rw [getT_M hv2, hm]
      rfl
    have lv : DOk b kvs (cs.filter fun c => handA kvs c.2) (.lve w) := show (modeOf kvs w).isSome = true by rw [hm]; rfl
    simp_arith [ed, hg, ne_strs]
    rcases inMD hm with z | z | z
    · subst z
      have hmb : hasM kvs w ["both", "come"] = true ∧ hasM kvs w ["both", "go"] = true := by
        unfold hasM
        rw [hm]
        exact ⟨rfl, rfl⟩
      simp_arith [hg, ne_strs, n1, n2]
      refine pick_dr (many := 5) dr2.dk (by decide) (by decide) fun y T3 y1 y2 dr3 => ?_
      have drf := dr12.trans dr3
      have : y = 0 ∨ y = 1 ∨ y = 2 ∨ y = 3 ∨ y = 4 := by omega
      rcases this with q | q | q | q | q <;> subst q
      · simp_arith
        exact k (.lve w) T3 lv drf
      · simp_arith
        exact k (.com w) T3 hmb.1 drf
      · simp_arith
        exact k (.com w) T3 hmb.1 drf
      · simp_arith
        exact k (.go w) T3 hmb.2 drf
      · have e4 : atI [D.str "leave", .str "come", .str "come", .str "go", .str "go"] 4 = some (.str "go") := rfl
        simp_arith [e4]
        exact k (.go w) T3 hmb.2 drf
    · subst z
      have hmb : hasM kvs w ["both", "come"] = true := by
        unfold hasM
        rw [hm]
        rfl
      simp_arith [hg, ne_strs, n3]
      refine pick_dr (many := 3) dr2.dk (by decide) (by decide) fun y T3 y1 y2 dr3 => ?_
      have drf := dr12.trans dr3
      have : y = 0 ∨ y = 1 ∨ y = 2 := by omega
      rcases this with q | q | q <;> subst q
      · simp_arith
        exact k (.lve w) T3 lv drf
      · simp_arith
        exact k (.com w) T3 hmb drf
      · simp_arith
        exact k (.com w) T3 hmb drf
    · subst z
      have hmb : hasM kvs w ["both", "go"] = true := by
        unfold hasM
        rw [hm]
        rfl
      simp_arith [hg, ne_strs, n4]
      refine pick_dr (many := 3) dr2.dk (by decide) (by decide) fun y T3 y1 y2 dr3 => ?_
      have drf := dr12.trans dr3
      have : y = 0 ∨ y = 1 ∨ y = 2 := by omega
      rcases this with q | q | q <;> subst q
      · simp_arith
        exact k (.lve w) T3 lv drf
      · simp_arith
        exact k (.go w) T3 hmb drf
      · simp_arith
        exact k (.go w) T3 hmb drf
  | false =>
  simp_arith [sortK_L hl1]
  have cl : ((sortI (cs.map fun c => (c.1 : Int))).map D.int).length = cs.length := by rw [List.length_map, (sortI_perm _).length_eq, List.length_map]
  have inC : ∀ d ∈ (sortI (cs.map fun c => (c.1 : Int))).map D.int, ∃ c ∈ cs, d = .int (c.1 : Int) := fun d hd => by
    obtain ⟨i, hi, e⟩ := List.mem_map.mp hd
    obtain ⟨c, hc, e2⟩ := List.mem_map.mp ((sortI_perm _).mem_iff.mp hi)
    exact ⟨c, hc, by rw [← e, ← e2]⟩
  refine compGo_filter (fitP kvs cs) id (by rw [cl, sizeLine_eq]; omega) (fun d hd => ?_) ?_
  · obtain ⟨c, hc, e⟩ := inC d hd
    subst e
    have g1 : oGetT S1 (.ref l) (.int (c.1 : Int)) = some (f c.1) := ltab_get (b := false) (by rw [if_neg Bool.false_ne_true]; exact hl1) hc
    obtain ⟨e1, e2, e4⟩ := hf c hc
    refine ⟨_, rfl, ?_, fun _ => ?_⟩
    · simp_arith [g1, e1]
      refine emay_wp hv1 (dr1.kp _ _ e2 e4) ?_
      simp_arith
      exact (fitP_c nd hc).symm
    · simp_arith
      rfl
  rw [List.map_id]
  have hin : ∀ d ∈ ((sortI (cs.map fun c => (c.1 : Int))).map D.int).filter (fitP kvs cs), ∃ c ∈ cs.filter (fun c => handA kvs c.2), d = .int (c.1 : Int) := fun d hd => by
    obtain ⟨h1, h2⟩ := List.mem_filter.mp hd
    obtain ⟨c, hc, e⟩ := inC d h1
    subst e
    rw [fitP_c nd hc] at h2
    exact ⟨c, List.mem_filter.mpr ⟨hc, h2⟩, rfl⟩
  have pf : plL 63 (((sortI (cs.map fun c => (c.1 : Int))).map D.int).filter (fitP kvs cs)) = true := plL_mem fun d hd => by
    obtain ⟨c, _, e⟩ := hin d hd
    subst e
    rfl
  have lf : (((sortI (cs.map fun c => (c.1 : Int))).map D.int).filter (fitP kvs cs)).length ≤ 100 := Nat.le_trans (List.length_filter_le _ _) (by rw [cl]; exact hcl)
  simp_arith
  refine kbAnd_mid (fun x T => S1 = T ∧ (x = true → ((sortI (cs.map fun c => (c.1 : Int))).map D.int).filter (fitP kvs cs) ≠ [])) (fun c => ?_) (fun c => ⟨rfl, fun z => by cases z⟩) fun x T hR => ?_
  · simp_arith [ne_lst_nil pf]
    exact fun z => by simpa using z
  obtain ⟨eT, hR⟩ := hR
  subst eT
  cases x with
  | true =>
    have h0 := hR rfl
    have lp := List.length_pos_iff.mpr h0
    simp_arith
    refine pick_dr dr1.dk (by omega) (by omega) fun u T2 u1 u2 dr2 => ?_
    obtain ⟨d, hd, ed⟩ := at_in u1 u2
    obtain ⟨c, hc, e⟩ := hin d hd
    subst e
    have g1 : oGetT T2 (.ref l) (.int (c.1 : Int)) = some (f c.1) := ltab_get (b := false) (by rw [if_neg Bool.false_ne_true]; exact dr2.kp l _ hln hl1) (List.mem_filter.mp hc).1
    simp_arith [ed, g1]
    exact k (.beg c.1 c.2) T2 hc (dr1.trans dr2)
  | false =>
  simp_arith
  refine k_Ifd (fun c => ?_) fun c => ?_
  · simp_arith
    refine pick_dr dr1.dk (by decide) (by decide) fun y T3 y1 y2 dr3 => ?_
    obtain ⟨x, hx, e⟩ : ∃ x : Str, (x ∈ SAYS) ∧ atI [D.str "a", .str "come", .str "go", .str "zzzzzzzz"] y = some (.str x) := by
      have : y = 0 ∨ y = 1 ∨ y = 2 ∨ y = 3 := by omega
      rcases this with q | q | q | q <;> subst q
      · exact ⟨"a", by decide, rfl⟩
      · exact ⟨"come", by decide, rfl⟩
      · exact ⟨"go", by decide, rfl⟩
      · exact ⟨"zzzzzzzz", by decide, rfl⟩
    simp_arith [e]
    exact k (.say x) T3 hx (dr1.trans dr3)
  · simp_arith
    refine pick_dr dr1.dk (by decide) (by decide) fun y T3 y1 y2 dr3 => ?_
    obtain ⟨x, hx, e⟩ : ∃ x : Nat, (x ≤ 999) ∧ atI [D.int 0, .int 1, .int 7, .int 999] y = some (.int (x : Int)) := by
      have : y = 0 ∨ y = 1 ∨ y = 2 ∨ y = 3 := by omega
      rcases this with q | q | q | q <;> subst q
      · exact ⟨0, by decide, rfl⟩
      · exact ⟨1, by decide, rfl⟩
      · exact ⟨7, by decide, rfl⟩
      · exact ⟨999, by decide, rfl⟩
    simp_arith [e]
    exact k (.work x) T3 hx (dr1.trans dr3)
end

end G
namespace G
/-! ### a house -/
section
variable {S : Sto} {P : D → Sto → Prop} {n : Nat} {ns : List Int}
theorem app_get {S : Sto} {c d : Cell} {j : Nat} (h : S[j]? = some c) : (S ++ [d])[j]? = some c := by
  rw [List.getElem?_append_left (List.getElem?_eq_some_iff.mp h).1]
  exact h
def fA (as : List Nat) (i : Nat) : D := .ref (as.getD i 0)
theorem getD_at {as : List Nat} {i a : Nat} (h : as[i]? = some a) : as.getD i 0 = a := by
  rw [List.getD_eq_getElem?_getD, h]
  rfl
/-- what is called, where its members stand -/
structure CS (n w : Nat) (N : Nat) (T : Sto) (cs : List Call) (as : List Nat) : Prop where
  len : as.length = cs.length
  num : ∀ (j : Nat) (c : Call), cs[j]? = some c → c.1 = j
  mo : ∀ c ∈ cs, MemOk w c.2
  ge : ∀ a ∈ as, N ≤ a
  cell : ∀ (j : Nat) (c : Call) (a : Nat), cs[j]? = some c → as[j]? = some a → T[a]? = some (.tC (c.2.map memI))
theorem CS.kp {w N : Nat} {T U : Sto} {cs : List Call} {as : List Nat} (h : CS n w N T cs as) (d : Kp n T U) (hN : n < N) : CS n w N U cs as :=
  ⟨h.len, h.num, h.mo, h.ge, fun j c a h1 h2 => d a _ (by have := h.ge a (List.mem_of_getElem? h2); omega) (h.cell j c a h1 h2)⟩
theorem CS.snoc {w N : Nat} {T : Sto} {cs : List Call} {as : List Nat} {ms : Mem} {a : Nat} (h : CS n w N T cs as) (mo : MemOk w ms) (ha : N ≤ a) (hT : T[a]? = some (.tC (ms.map memI))) : CS n w N T (cs ++ [(cs.length, ms)]) (as ++ [a]) := by
  refine ⟨by rw [List.length_append, List.length_append, h.len] <;> rfl, fun j c hj => ?_, fun c hc => ?_, fun x hx => ?_, fun j c x hj hx => ?_⟩
  · rcases get_snoc hj with q | ⟨q1, q2⟩
    · exact h.num j c q
    · rw [q2, q1]
  · rcases List.mem_append.mp hc with q | q
    · exact h.mo c q
    · rw [List.mem_singleton.mp q]; exact mo
  · rcases List.mem_append.mp hx with q | q
    · exact h.ge x q
    · rw [List.mem_singleton.mp q]; exact ha
  · rcases get_snoc hj with q | ⟨q1, q2⟩
    · have hl := (List.getElem?_eq_some_iff.mp q).1
      rw [List.getElem?_append_left (by rw [h.len]; exact hl)] at hx
      exact h.cell j c x q hx
    · rw [q1, ← h.len, List.getElem?_append_right (Nat.le_refl _), Nat.sub_self] at hx
      cases hx
      rw [q2]
      exact hT
theorem CS.nd {w N : Nat} {T : Sto} {cs : List Call} {as : List Nat} (h : CS n w N T cs as) : (cs.map (·.1)).Nodup := by
  refine List.pairwise_iff_getElem.mpr fun i j hi hj hij e => ?_
  rw [List.length_map] at hi hj
  rw [List.getElem_map, List.getElem_map] at e
  have h1 := h.num i _ (List.getElem?_eq_getElem (by omega))
  have h2 := h.num j _ (List.getElem?_eq_getElem hj)
  have e2 : cs[i].1 = cs[j].1 := e
  omega
theorem CS.at {w N : Nat} {T : Sto} {cs : List Call} {as : List Nat} (h : CS n w N T cs as) (hN : n < N) {c : Call} (hc : c ∈ cs) : fA as c.1 = .ref (as.getD c.1 0) ∧ N ≤ as.getD c.1 0 ∧ T[as.getD c.1 0]? = some (.tC (c.2.map memI)) := by
  obtain ⟨j, hj⟩ := List.mem_iff_getElem?.mp hc
  have ej := h.num j c hj
  have hl := (List.getElem?_eq_some_iff.mp hj).1
  have ha := List.getElem?_eq_getElem (show j < as.length by rw [h.len]; exact hl)
  subst ej
  rw [getD_at ha]
  exact ⟨by unfold fA; rw [getD_at ha], h.ge _ (List.mem_of_getElem? ha), h.cell _ c _ hj ha⟩
theorem memI_rows : ∀ {l : List Nat} {ys : List D}, All2 (fun (d y : D) => ∃ (i : Nat) (m : Str), d = .int (i : Int) ∧ y = memI (i, m) ∧ m ∈ MD) (l.map fun i : Nat => D.int (i : Int)) ys → ∃ ms : Mem, ys = ms.map memI ∧ ms.map (·.1) = l ∧ ∀ p ∈ ms, p.2 ∈ MD
  | [], ys, a => by cases a; exact ⟨[], rfl, rfl, fun p hp => absurd hp List.not_mem_nil⟩
  | i :: l, ys, a => by
    cases a with
    | cons r a =>
      obtain ⟨i', m, e1, e2, e3⟩ := r
      have e1 := D.int.inj e1
      have e1 : i = i' := by omega
      subst e1
      obtain ⟨ms, h1, h2, h3⟩ := memI_rows a
      refine ⟨(i, m) :: ms, by rw [e2, h1]; rfl, by rw [List.map_cons, h2], fun p hp => ?_⟩
      rcases List.mem_cons.mp hp with q | q
      · rw [q]; exact e3
      · exact h3 p q
theorem putD_new {κ : Type} [DecidableEq κ] {kvs : List (κ × D)} {k : κ} {v : D} (h : k ∉ kvs.map (·.1)) : putD kvs k v = kvs ++ [(k, v)] := by
  unfold putD
  rw [if_neg]
  intro q
  obtain ⟨p, hp, e⟩ := List.any_eq_true.mp q
  exact h (List.mem_map.mpr ⟨p, hp, of_decide_eq_true e⟩)
theorem putK_new {T : Sto} {n : Nat} {kvs : List (Key × D)} {i : Int} {d : D} (h : T[n]? = some (.dK kvs)) (hl : kvs.length < sizeLine) (hn : (Sum.inl i : Key) ∉ kvs.map (·.1)) : putT T (.ref n) (.int i) d = some (T.set n (.dK (kvs ++ [(.inl i, d)]))) := by
  unfold putT
  dsimp only
  rw [h]
  dsimp only
  rw [if_pos hl]
  show (keyD (.int i)).map _ = _
  unfold keyD
  rw [Option.map_some, putD_new hn]
theorem rng2_n {a c : Nat} (h : a ≤ c) (hc : c < 2 ^ 20) : rng2 [.int (a : Int), .int (c : Int)] = some (rngL (a : Int) (c - a)) := by
  unfold rng2
  dsimp only
  rw [if_pos]
  · rw [show ((c : Int) - (a : Int)).toNat = c - a by omega]
  · have f : ∀ z : Nat, z < 2 ^ 20 → in62 (z : Int) = true := fun z hz => by
      unfold in62
      rw [Bool.and_eq_true, decide_eq_true_eq, decide_eq_true_eq]
      omega
    rw [f a (by omega), f c hc]
    rfl
/-- the rows the other way about -/
theorem rows_rev {b w many : Nat} {cs : List Call} {ss : List (List Hd)} (hl : cs.length = many) (hs : ss.length = many) (num : ∀ (j : Nat) (c : Call), cs[j]? = some c → c.1 = j) (mo : ∀ c ∈ cs, MemOk w c.2)
    (sc : ∀ j c s, cs[j]? = some c → ss[j]? = some s → ScOk b w c.2 (cs.drop (j + 1)) 6 s) : Rows b w many 6 cs.reverse ss.reverse := by
  have rev : ∀ {A : Type} {l : List A} {j : Nat} {x : A}, l.length = many → l.reverse[j]? = some x → j < many ∧ l[many - 1 - j]? = some x := fun {A l j x} h e => by
    have hj := (List.getElem?_eq_some_iff.mp e).1
    rw [List.length_reverse, h] at hj
    rw [List.getElem?_reverse (by omega), h] at e
    exact ⟨hj, e⟩
  refine ⟨by rw [List.length_reverse, List.length_reverse, hl, hs], by rw [List.length_reverse, hl]; exact Nat.le_refl _, fun j c h => ?_, fun c h => mo c (List.mem_reverse.mp h), fun j c s h1 h2 => ?_⟩
  · obtain ⟨h1, h2⟩ := rev hl h
    have := num _ c h2
    omega
  · obtain ⟨a1, a2⟩ := rev hl h1
    obtain ⟨_, a4⟩ := rev hs h2
    have so := sc _ c s a2 a4
    have e : cs.reverse.take j = (cs.drop (many - 1 - j + 1)).reverse := by
      rw [List.take_reverse, hl, show many - j = many - 1 - j + 1 by omega]
    exact ⟨so.len, so.fit, fun x hx => by rw [e]; exact List.mem_reverse.mpr (so.beg x hx), so.two, so.st⟩
set_option maxHeartbeats 4000000 in
theorem ehouse_wp (h : DK ns n S) (k : ∀ (hh : HH) (f : Nat → D) (qf : Nat → Nat) (T : Sto), Drawn 3 6 hh → (∀ c : Call, (c ∈ hh.fs ∨ ∃ s ∈ hh.ss, c ∈ begs s) → f c.1 = .ref (qf c.1) ∧ S.length ≤ qf c.1 ∧ T[qf c.1]? = some (.tC (c.2.map memI))) → Dr ns n S T → P (hh.dR f) T) : Wp (f__law_e_house [.ref n] S) P := by
  have hn := h.lt
  unfold f__law_e_house d__law_e_house
  simp_arith
  refine pick_dr h (by decide) (by decide) fun v S1 v1 v2 dr1 => ?_
  obtain ⟨b, hb, eb⟩ : ∃ b : Nat, b ≤ 99 ∧ atI [D.int 0, .int 1, .int 2, .int 3, .int 99] v = some (.int (b : Int)) := by
    have : v = 0 ∨ v = 1 ∨ v = 2 ∨ v = 3 ∨ v = 4 := by omega
    rcases this with q | q | q | q | q <;> subst q
    · exact ⟨0, by decide, rfl⟩
    · exact ⟨1, by decide, rfl⟩
    · exact ⟨2, by decide, rfl⟩
    · exact ⟨3, by decide, rfl⟩
    · exact ⟨99, by decide, rfl⟩
  simp_arith [eb]
  refine pick_dr dr1.dk (by decide) (by decide) fun w S2 w1 w2 dr2 => ?_
  obtain ⟨w, rfl⟩ : ∃ b' : Nat, w = (b' : Int) := ⟨w.toNat, by omega⟩
  simp_arith
  refine pick_dr dr2.dk (by decide) (by decide) fun y S3 y1 y2 dr3 => ?_
  obtain ⟨many, hmany⟩ : ∃ b' : Nat, 1 + y = (b' : Int) := ⟨(1 + y).toNat, by omega⟩
  have dr0 : Dr ns n S S3 := (dr1.trans dr2).trans dr3
  have hS3 : S.length ≤ S3.length := dr0.len
  simp_arith [hmany, rng1_int (show (0 : Int) ≤ (many : Int) by omega) (by omega), Int.toNat_natCast]
  -- what is called
  refine forGo_wp (fun rest env T => ∃ (cs : List Call) (as : List Nat) (e5 e6 : Option D), rest = rngL (cs.length : Int) (many - cs.length) ∧ cs.length ≤ many ∧ env = [some (.ref n), some (.int (b : Int)), some (.int (w : Int)), some (.int (many : Int)), some (.ref S3.length), e5, e6, none, none, none, none, none, none, none, none, none] ∧
      T[S3.length]? = some (.lst (as.map D.ref)) ∧ CS n w (S3.length + 1) T cs as ∧ Dr ns n S T ∧ S3.length + 1 ≤ T.length) _ _ _
    ⟨[], [], none, none, rfl, Nat.zero_le _, rfl, app_at _ _, ⟨rfl, fun j c h => by simp at h, fun c hc => absurd hc List.not_mem_nil, fun c hc => absurd hc List.not_mem_nil, fun j c a h => by simp at h⟩, dr0.app _, by rw [List.length_append]; exact Nat.le_refl _⟩ (fun d rest env T hI => ?_) fun env T hI => ?_
  · obtain ⟨cs, as, e5, e6, er, hcl, e, hT, C, dr, hTl⟩ := hI
    have hlt : cs.length < many := by
      refine Nat.lt_of_not_le fun q => ?_
      rw [show many - cs.length = 0 by omega] at er
      cases er
    rw [show many - cs.length = (many - (cs.length + 1)) + 1 by omega, rng_succ] at er
    obtain ⟨ed, er2⟩ := List.cons.inj er
    subst e ed
    refine ⟨_, rfl, ?_⟩
    simp_arith [rng1_int (show (0 : Int) ≤ (w : Int) by omega) (by omega), Int.toNat_natCast]
    refine compGo_wp (fun rest acc U => ∃ (a : Nat) (l : List Nat), a ≤ w ∧ rest = rngL (a : Int) (w - a) ∧ acc = l.map (fun i : Nat => D.int (i : Int)) ∧ l.Pairwise (· < ·) ∧ (∀ i ∈ l, i < a) ∧ l.length ≤ a ∧ Dr ns n T U) _ _ _
      ⟨0, [], Nat.zero_le _, rfl, rfl, .nil, fun i hi => absurd hi List.not_mem_nil, Nat.le_refl _, Dr.refl dr.dk⟩ (fun d rest acc U hI => ?_) fun acc U hI => ?_
    · obtain ⟨a, l, ha, er, eacc, lp, ll, ln, drU⟩ := hI
      have hlt : a < w := by
        refine Nat.lt_of_not_le fun q => ?_
        rw [show w - a = 0 by omega] at er
        cases er
      rw [show w - a = (w - (a + 1)) + 1 by omega, rng_succ] at er
      obtain ⟨ed, er2⟩ := List.cons.inj er
      subst ed
      refine ⟨_, rfl, ?_⟩
      simp_arith
      refine pick_dr drU.dk (by decide) (by decide) fun x U2 x1 x2 drU2 => ?_
      simp_arith
      by_cases q : 0 < x
      · rw [if_pos (decide_eq_true q)]
        refine ⟨by rw [eacc, List.length_map, sizeLine_eq]; omega, a + 1, l ++ [a], hlt, er2, by rw [eacc, List.map_append]; rfl, List.pairwise_append.mpr ⟨lp, List.pairwise_singleton _ _, fun i hi j hj => by rw [List.mem_singleton.mp hj]; exact ll i hi⟩, fun i hi => ?_, by rw [List.length_append, List.length_singleton]; omega, drU.trans drU2⟩
        rcases List.mem_append.mp hi with z | z
        · exact Nat.lt_succ_of_lt (ll i z)
        · rw [List.mem_singleton.mp z]; exact Nat.lt_succ_self _
      · rw [if_neg (by rw [decide_eq_false q]; exact Bool.false_ne_true)]
        exact ⟨a + 1, l, hlt, er2, eacc, lp, fun i hi => Nat.lt_succ_of_lt (ll i hi), by omega, drU.trans drU2⟩
    · obtain ⟨a, l, ha, er, eacc, lp, ll, ln, drU⟩ := hI
      subst eacc
      have hTU := drU.kp _ _ (by omega) hT
      simp_arith
      refine w_App ?_
      simp_arith
      refine k_App hTU ?_
      simp_arith
      refine compGo_each (fun U2 => Dr ns n U U2) (fun (d y : D) => ∃ (i : Nat) (m : Str), d = .int (i : Int) ∧ y = memI (i, m) ∧ m ∈ MD) (Dr.refl drU.dk) (by rw [List.length_map, sizeLine_eq]; omega) (fun d hd U2 drU2 => ?_) fun ys U2 al drU2 => ?_
      · obtain ⟨i, _, ei⟩ := List.mem_map.mp hd
        subst ei
        refine ⟨_, rfl, ?_⟩
        simp_arith
        refine pick_dr drU2.dk (by decide) (by decide) fun x U3 x1 x2 drU3 => ?_
        obtain ⟨m, hm, em⟩ : ∃ m ∈ MD, atI [D.str "both", .str "both", .str "come", .str "go"] x = some (.str m) := by
          have : x = 0 ∨ x = 1 ∨ x = 2 ∨ x = 3 := by omega
          rcases this with q | q | q | q <;> subst q
          · exact ⟨"both", by decide, rfl⟩
          · exact ⟨"both", by decide, rfl⟩
          · exact ⟨"come", by decide, rfl⟩
          · exact ⟨"go", by decide, rfl⟩
        simp_arith [em]
        exact ⟨drU2.trans drU3, i, m, rfl, rfl, hm⟩
      · obtain ⟨ms, ey, el, hm⟩ := memI_rows al
        subst ey
        have hT2 := drU2.kp _ _ (by omega) hTU
        have ll1 : oListT1 U2 [.lst (ms.map memI)] = some (ms.map memI) := rfl
        have mo : MemOk w ms := by
          refine ⟨?_, fun p hp => ?_, hm⟩
          · rw [← el] at lp
            exact List.pairwise_map.mp lp
          · have := ll p.1 (by rw [← el]; exact List.mem_map.mpr ⟨p, hp, rfl⟩)
            omega
        simp_arith [ll1]
        have hT3 : (U2 ++ [Cell.tC (ms.map memI)])[S3.length]? = some (.lst (as.map D.ref)) := app_get hT2
        have len2 : T.length ≤ U2.length := Nat.le_trans drU.len drU2.len
        have C2 : CS n w (S3.length + 1) (U2 ++ [Cell.tC (ms.map memI)]) cs as := C.kp ((drU.kp.trans drU2.kp).trans (Kp.app _ _ _)) (by omega)
        refine ⟨_, hT3, by rw [List.length_map, C.len, sizeLine_eq]; omega, ?_⟩
        have C3 := C2.snoc mo (show S3.length + 1 ≤ U2.length by omega) (app_at _ _)
        have C4 : CS n w (S3.length + 1) ((U2 ++ [Cell.tC (ms.map memI)]).set S3.length (.lst (as.map D.ref ++ [.ref U2.length]))) (cs ++ [(cs.length, ms)]) (as ++ [U2.length]) :=
          ⟨C3.len, C3.num, C3.mo, C3.ge, fun j c a h1 h2 => by rw [List.getElem?_set_ne (by have := C3.ge a (List.mem_of_getElem? h2); omega)]; exact C3.cell j c a h1 h2⟩
        refine ⟨cs ++ [(cs.length, ms)], as ++ [U2.length], _, _, ?_, by rw [List.length_append, List.length_singleton]; omega, rfl, ?_, C4, (((dr.trans drU).trans drU2).app _).put _ (by omega) hS3, by rw [List.length_set, List.length_append]; omega⟩
        · rw [List.length_append, List.length_singleton]
          exact er2
        · rw [set_get hT3, List.map_append] <;> rfl
  obtain ⟨cs, as, e5, e6, er, hcl, e, hT, C, dr, hTl⟩ := hI
  have hcm : cs.length = many := by
    refine Nat.le_antisymm hcl (Nat.le_of_not_lt fun q => ?_)
    rw [show many - cs.length = (many - (cs.length + 1)) + 1 by omega, rng_succ] at er
    cases er
  subst e
  have drT : Dr ns n T (T ++ [.lst []]) := (Dr.refl dr.dk).app _
  simp_arith [rng1_int (show (0 : Int) ≤ (many : Int) by omega) (by omega), Int.toNat_natCast]
  -- the scripts
  refine forGo_wp (fun rest env U => ∃ (ss : List (List Hd)) (e5 e8 e9 e10 e11 e12 e13 : Option D), rest = rngL (ss.length : Int) (many - ss.length) ∧ ss.length ≤ many ∧ env = [some (.ref n), some (.int (b : Int)), some (.int (w : Int)), some (.int (many : Int)), some (.ref S3.length), e5, e6, some (.ref T.length), e8, e9, e10, e11, e12, e13, none, none] ∧
      U[T.length]? = some (.lst (ss.map (hsR (fA as)))) ∧ (∀ j c s, cs[j]? = some c → ss[j]? = some s → ScOk b w c.2 (cs.drop (j + 1)) 6 s) ∧ Dr ns n T U) _ _ _
    ⟨[], _, _, _, _, _, _, _, rfl, Nat.zero_le _, rfl, app_at _ _, fun j c s _ h => by simp at h, drT⟩ (fun d rest env U hI => ?_) fun env U hI => ?_
  · obtain ⟨ss, e5', e8, e9, e10, e11, e12, e13, er, hsl, e, hU, sc, drU⟩ := hI
    have hlt : ss.length < many := by
      refine Nat.lt_of_not_le fun q => ?_
      rw [show many - ss.length = 0 by omega] at er
      cases er
    rw [show many - ss.length = (many - (ss.length + 1)) + 1 by omega, rng_succ] at er
    obtain ⟨ed, er2⟩ := List.cons.inj er
    subst e ed
    obtain ⟨c, hc⟩ : ∃ c, cs[ss.length]? = some c := ⟨_, List.getElem?_eq_getElem (by omega)⟩
    obtain ⟨ad, had⟩ : ∃ ad, as[ss.length]? = some ad := ⟨_, List.getElem?_eq_getElem (by rw [C.len]; omega)⟩
    have CU := C.kp drU.kp (by omega)
    have hTU : U[S3.length]? = some (.lst (as.map D.ref)) := drU.kp _ _ (by omega) hT
    have mo := C.mo c (List.mem_of_getElem? hc)
    have mll := mo.len_le
    have hcellU := CU.cell _ c ad hc had
    have g1 : ∀ {V : Sto} {j a : Nat}, V[S3.length]? = some (.lst (as.map D.ref)) → as[j]? = some a → oIx V (.ref S3.length) (.int (j : Int)) = some (.ref a) := fun {V j a} hV ha => by
      rw [ix_refD hV]
      exact hat D.ref ha
    have op : oPairs U [.ref ad] = some (tabM c.2) := by
      unfold oPairs
      dsimp only
      rw [hcellU]
      exact pairsD_M c.2
    have mg : mergeD [] (tabM c.2) = tabM c.2 := mergeD_M c.2 [] mo.nd
    refine ⟨_, rfl, ?_⟩
    simp_arith
    refine w_DictC ?_
    simp_arith [g1 hTU had]
    refine ⟨_, op, ?_⟩
    rw [mg]
    have hL1 : (U ++ [Cell.dK (tabM c.2)]).length = U.length + 1 := by rw [List.length_append]; rfl
    have en : (ss.length : Int) + 1 = ((ss.length + 1 : Nat) : Int) := by omega
    have UT : T.length < U.length := (List.getElem?_eq_some_iff.mp hU).1
    simp_arith [hL1, en, rng2_n (show ss.length + 1 ≤ many by omega) (by omega)]
    refine forGo_wp (fun rest env V => ∃ (done left : List Call) (e10 : Option D), cs.drop (ss.length + 1) = done ++ left ∧ rest = rngL ((ss.length + 1 + done.length : Nat) : Int) left.length ∧ env = [some (.ref n), some (.int (b : Int)), some (.int (w : Int)), some (.int (many : Int)), some (.ref S3.length), some (.int (ss.length : Int)), e6, some (.ref T.length), some (.ref U.length), some (.ref (U.length + 1)), e10, e11, e12, e13, none, none] ∧ V = U ++ [Cell.dK (tabM c.2)] ++ [Cell.dK (ltab done (fA as))]) _ _ _
      ⟨[], cs.drop (ss.length + 1), _, rfl, by rw [List.length_drop, hcm]; rfl, rfl, rfl⟩ (fun d rest env V hI => ?_) fun env V hI => ?_
    · obtain ⟨done, left, e10', ea, er, e, eV⟩ := hI
      cases left with
      | nil => cases er
      | cons x left =>
      rw [List.length_cons, rng_succ] at er
      obtain ⟨ed, er2⟩ := List.cons.inj er
      subst ed e eV
      refine ⟨_, rfl, ?_⟩
      have hx : cs[ss.length + 1 + done.length]? = some x := by
        rw [← List.getElem?_drop, ea, List.getElem?_append_right (Nat.le_refl _), Nat.sub_self] <;> rfl
      have xl := (List.getElem?_eq_some_iff.mp hx).1
      have ex := C.num _ x hx
      obtain ⟨ax, hax⟩ : ∃ ax, as[ss.length + 1 + done.length]? = some ax := ⟨_, List.getElem?_eq_getElem (by rw [C.len]; exact xl)⟩
      have hTV : (U ++ [Cell.dK (tabM c.2)] ++ [Cell.dK (ltab done (fA as))])[S3.length]? = some (.lst (as.map D.ref)) := app_get (app_get hTU)
      have hlV : (U ++ [Cell.dK (tabM c.2)] ++ [Cell.dK (ltab done (fA as))])[U.length + 1]? = some (.dK (ltab done (fA as))) := by rw [← hL1]; exact app_at _ _
      have klt : (Sum.inl ((ss.length + 1 + done.length : Nat) : Int) : Key) ∉ (ltab done (fA as)).map (·.1) := fun z => by
        obtain ⟨p, hp, e⟩ := List.mem_map.mp z
        obtain ⟨q, hq, e2⟩ := List.mem_map.mp hp
        subst e2
        have e : (Sum.inl (q.1 : Int) : Key) = .inl ((ss.length + 1 + done.length : Nat) : Int) := e
        have e3 := Sum.inl.inj e
        have nd := C.nd
        obtain ⟨i, hi⟩ := List.mem_iff_getElem?.mp hq
        have hil := (List.getElem?_eq_some_iff.mp hi).1
        have hi2 : cs[ss.length + 1 + i]? = some q := by
          rw [← List.getElem?_drop, ea, List.getElem?_append_left hil]
          exact hi
        have := C.num _ q hi2
        omega
      simp_arith
      refine w_PutT ?_
      simp_arith [g1 hTV hax]
      refine ⟨_, putK_new hlV (by unfold ltab; rw [List.length_map, sizeLine_eq]; have := congrArg List.length ea; rw [List.length_append, List.length_drop] at this; omega) klt, ?_⟩
      refine ⟨done ++ [x], left, _, by rw [ea, List.append_assoc]; rfl, ?_, rfl, ?_⟩
      · rw [er2, List.length_append] <;> rfl
      · rw [← hL1, set_last]
        unfold ltab
        rw [List.map_append]
        have e1 : fA as x.1 = .ref ax := by
          unfold fA
          rw [ex, getD_at hax]
        show _ = U ++ [Cell.dK (tabM c.2)] ++ [Cell.dK (List.map (fun c => (Sum.inl ((c.1 : Nat) : Int), fA as c.1)) done ++ [(Sum.inl ((x.1 : Nat) : Int), fA as x.1)])]
        rw [e1, ex]
    obtain ⟨L, left, e10', ea, er, e, eV⟩ := hI
    have hl0 : left = [] := by
      cases left with
      | nil => rfl
      | cons x left =>
        rw [List.length_cons, rng_succ] at er
        cases er
    subst hl0
    rw [List.append_nil] at ea
    subst e eV
    have hL2 : (U ++ [Cell.dK (tabM c.2)] ++ [Cell.dK (ltab L (fA as))]).length = U.length + 2 := by rw [List.length_append, hL1]; rfl
    have dr3' : Dr ns n U (U ++ [Cell.dK (tabM c.2)] ++ [Cell.dK (ltab L (fA as))] ++ [.lst []]) := (((Dr.refl drU.dk).app _).app _).app _
    have Ll : L.length ≤ 3 := by rw [← ea, List.length_drop]; omega
    have Lc : ∀ x ∈ L, x ∈ cs := fun x hx => by rw [← ea] at hx; exact (List.drop_sublist _ _).subset hx
    simp_arith [hL2]
    refine pick_dr dr3'.dk (by decide) (by decide) fun v V v1 v2 drv => ?_
    have hm0 : V[U.length]? = some (.dK (tabM c.2)) := drv.kp _ _ (by omega) (app_get (app_get (app_at _ _)))
    have hl0 : V[U.length + 1]? = some (.dK (ltab L (fA as))) := drv.kp _ _ (by omega) (app_get (by rw [← hL1]; exact app_at _ _))
    have hd0 : V[U.length + 2]? = some (.lst []) := drv.kp _ _ (by omega) (by rw [← hL2]; exact app_at _ _)
    simp_arith [rng1_int v1 (by omega)]
    refine forGo_wp (fun rest env V => ∃ (i : Nat) (es : List Hd) (e12 e13 : Option D), i ≤ v.toNat ∧ rest = rngL (i : Int) (v.toNat - i) ∧ env = [some (.ref n), some (.int (b : Int)), some (.int (w : Int)), some (.int (many : Int)), some (.ref S3.length), some (.int (ss.length : Int)), e6, some (.ref T.length), some (.ref U.length), some (.ref (U.length + 1)), e10', some (.ref (U.length + 2)), e12, e13, none, none] ∧
        es.length = i ∧ V[U.length]? = some (.dK (tabM (es.foldl afterDo c.2))) ∧ V[U.length + 1]? = some (.dK (ltab (if begs es = [] then L else []) (fA as))) ∧ V[U.length + 2]? = some (.lst (es.map (Hd.dR (fA as)))) ∧ ScOk b w c.2 L 6 es ∧ (begs es).length ≤ 1 ∧ Dr ns n U V) _ _ _
      ⟨0, [], _, _, Nat.zero_le _, rfl, rfl, rfl, hm0, hl0, hd0, ⟨Nat.zero_le _, rfl, fun c hc => absurd hc List.not_mem_nil, Nat.zero_le _, fun c hc => absurd hc List.not_mem_nil⟩, Nat.zero_le _, dr3'.trans drv⟩ (fun d rest env V hI => ?_) fun env V hI => ?_
    · obtain ⟨i, es, e12', e13', hi, er, e, hel, hVm, hVl, hVd, so, one, drV⟩ := hI
      have hlt' : i < v.toNat := by
        refine Nat.lt_of_not_le fun q => ?_
        rw [show v.toNat - i = 0 by omega] at er
        cases er
      rw [show v.toNat - i = (v.toNat - (i + 1)) + 1 by omega, rng_succ] at er
      obtain ⟨ed, er2'⟩ := List.cons.inj er
      subst e ed
      refine ⟨_, rfl, ?_⟩
      have sub := afters_sub es c.2
      have subl := sub.length_le
      have Lq : ∀ x ∈ (if begs es = [] then L else []), x ∈ L := fun x hx => by
        split at hx
        · exact hx
        · cases hx
      have Lnd : ((if begs es = [] then L else []).map (·.1)).Nodup := by
        split
        · rw [← ea]
          exact C.nd.sublist ((List.drop_sublist _ _).map _)
        · exact .nil
      simp_arith
      refine edeed_wp (f := fA as) (qf := fun i => as.getD i 0) drV.dk hVm (by omega) hVl (by omega) (fun x hx => ?_) Lnd (fun p hp => mo.md p (sub.subset hp)) (by omega) (by omega) (by split <;> (try rw [List.length_nil]) <;> omega) fun e V2 dok dr2 => ?_
      · obtain ⟨q1, q2, q3⟩ := CU.at (by omega) (Lc x (Lq x hx))
        exact ⟨q1, by omega, drV.kp _ _ (by omega) q3⟩
      have hVm2 := dr2.kp _ _ (by omega) hVm
      have hVl2 := dr2.kp _ _ (by omega) hVl
      have hVd2 := dr2.kp _ _ (by omega) hVd
      have hmay : mayDo (es.foldl afterDo c.2) e = true := dok_may dok fun x hx => (List.mem_filter.mp hx).2
      have hst : e.St b w := dok_st dok fun p hp => mo.lt p (sub.subset hp)
      have hbeg : ∀ s m, e = .beg s m → begs es = [] ∧ (s, m) ∈ L := fun s m ee => by
        subst ee
        have h1 := (List.mem_filter.mp (show (s, m) ∈ _ from dok)).1
        split at h1
        · rename_i q
          exact ⟨q, h1⟩
        · cases h1
      have one2 : (begs (es ++ [e])).length ≤ 1 := by
        rw [begs_app, List.length_append]
        cases e with
        | beg s m =>
          rw [(hbeg s m rfl).1]
          exact Nat.le_refl _
        | _ => exact one
      have so2 : ScOk b w c.2 L 6 (es ++ [e]) := by
        refine ⟨by rw [List.length_append, List.length_singleton]; omega, by rw [fits_snoc, so.fit, hmay]; rfl, fun x hx => ?_, by omega, fun y hy => ?_⟩
        · rw [begs_app] at hx
          rcases List.mem_append.mp hx with q | q
          · exact so.beg x q
          · cases e with
            | beg s m =>
              rw [List.mem_singleton.mp q]
              exact (hbeg s m rfl).2
            | _ => cases q
        · rcases List.mem_append.mp hy with q | q
          · exact so.st y q
          · rw [List.mem_singleton.mp q]
            exact hst
      have efold : (es ++ [e]).foldl afterDo c.2 = afterDo (es.foldl afterDo c.2) e := by rw [List.foldl_append]; rfl
      have emap : (es ++ [e]).map (Hd.dR (fA as)) = es.map (Hd.dR (fA as)) ++ [e.dR (fA as)] := by rw [List.map_append]; rfl
      have el2 : (es ++ [e]).length = i + 1 := by rw [List.length_append, List.length_singleton]; omega
      have hdl : (es.map (Hd.dR (fA as))).length < sizeLine := by rw [List.length_map, sizeLine_eq]; omega
      have drf := drV.trans dr2
      have same : begOf e = none → (if begs (es ++ [e]) = [] then L else []) = if begs es = [] then L else [] := fun q => by
        rw [begs_app, show begs [e] = [] by unfold begs; rw [List.filterMap_cons, q] <;> rfl, List.append_nil]
      have hVd3 : (V2.set (U.length + 2) (.lst (es.map (Hd.dR (fA as)) ++ [e.dR (fA as)])))[U.length + 2]? = some (.lst ((es ++ [e]).map (Hd.dR (fA as)))) := by rw [emap]; exact set_get hVd2
      have hVm3 : (V2.set (U.length + 2) (.lst (es.map (Hd.dR (fA as)) ++ [e.dR (fA as)])))[U.length]? = some (.dK (tabM (es.foldl afterDo c.2))) := by rw [List.getElem?_set_ne (by omega)]; exact hVm2
      have hVl3 : (V2.set (U.length + 2) (.lst (es.map (Hd.dR (fA as)) ++ [e.dR (fA as)])))[U.length + 1]? = some (.dK (ltab (if begs es = [] then L else []) (fA as))) := by rw [List.getElem?_set_ne (by omega)]; exact hVl2
      have dr4 : Dr ns n U (V2.set (U.length + 2) (.lst (es.map (Hd.dR (fA as)) ++ [e.dR (fA as)]))) := drf.put _ (by omega) (by omega)
      simp_arith
      refine w_App ?_
      simp_arith
      refine k_App hVd2 ?_
      simp_arith
      refine ⟨_, hVd2, hdl, ?_⟩
      generalize V2.set (U.length + 2) (.lst (es.map (Hd.dR (fA as)) ++ [e.dR (fA as)])) = V3 at hVd3 hVm3 hVl3 dr4
      cases e with
      | lve x =>
        have hVm4 := set_get (d := Cell.dK (tabM ((es.foldl afterDo c.2).filter fun p => decide (p.1 ≠ x)))) hVm3
        simp_arith [Hd.dR, Hd.d, ne_strs, eq_self, hn_raise_await, hn_raise_begin, hn_raise_work, hn_raise_say, hn_raise_come, hn_raise_go, hn_raise_leave, hn_await_raise, hn_await_begin, hn_await_work, hn_await_say, hn_await_come, hn_await_go, hn_await_leave, hn_begin_raise, hn_begin_await, hn_begin_work, hn_begin_say, hn_begin_come, hn_begin_go, hn_begin_leave, hn_work_raise, hn_work_await, hn_work_begin, hn_work_say, hn_work_come, hn_work_go, hn_work_leave, hn_say_raise, hn_say_await, hn_say_begin, hn_say_work, hn_say_come, hn_say_go, hn_say_leave, hn_come_raise, hn_come_await, hn_come_begin, hn_come_work, hn_come_say, hn_come_go, hn_come_leave, hn_go_raise, hn_go_await, hn_go_begin, hn_go_work, hn_go_say, hn_go_come, hn_go_leave, hn_leave_raise, hn_leave_await, hn_leave_begin, hn_leave_work, hn_leave_say, hn_leave_come, hn_leave_go]
        refine w_PopK ?_
        simp_arith
        obtain ⟨m, hmo⟩ := Option.isSome_iff_exists.mp (show (modeOf (es.foldl afterDo c.2) x).isSome = true from hmay)
        refine ⟨U.length, rfl, ⟨_, hVm3⟩, ?_⟩
        simp_arith
        refine ⟨_, .inl (x : Int), .str m, hVm3, rfl, by rw [tabM_val, hmo]; rfl, ?_⟩
        rw [tabM_drop]
        simp_arith [ne_strs, eq_self, hn_raise_await, hn_raise_begin, hn_raise_work, hn_raise_say, hn_raise_come, hn_raise_go, hn_raise_leave, hn_await_raise, hn_await_begin, hn_await_work, hn_await_say, hn_await_come, hn_await_go, hn_await_leave, hn_begin_raise, hn_begin_await, hn_begin_work, hn_begin_say, hn_begin_come, hn_begin_go, hn_begin_leave, hn_work_raise, hn_work_await, hn_work_begin, hn_work_say, hn_work_come, hn_work_go, hn_work_leave, hn_say_raise, hn_say_await, hn_say_begin, hn_say_work, hn_say_come, hn_say_go, hn_say_leave, hn_come_raise, hn_come_await, hn_come_begin, hn_come_work, hn_come_say, hn_come_go, hn_come_leave, hn_go_raise, hn_go_await, hn_go_begin, hn_go_work, hn_go_say, hn_go_come, hn_go_leave, hn_leave_raise, hn_leave_await, hn_leave_begin, hn_leave_work, hn_leave_say, hn_leave_come, hn_leave_go]
        refine ⟨i + 1, es ++ [.lve x], _, _, hlt', er2', rfl, el2, ?_, ?_, ?_, so2, one2, dr4.put _ (by omega) (Nat.le_refl _)⟩
        · rw [efold]; exact set_get hVm3
        · rw [same rfl, List.getElem?_set_ne (by omega)]; exact hVl3
        · rw [List.getElem?_set_ne (by omega)]; exact hVd3
      | beg s m =>
        simp_arith [Hd.dR, ne_strs, eq_self, hn_raise_await, hn_raise_begin, hn_raise_work, hn_raise_say, hn_raise_come, hn_raise_go, hn_raise_leave, hn_await_raise, hn_await_begin, hn_await_work, hn_await_say, hn_await_come, hn_await_go, hn_await_leave, hn_begin_raise, hn_begin_await, hn_begin_work, hn_begin_say, hn_begin_come, hn_begin_go, hn_begin_leave, hn_work_raise, hn_work_await, hn_work_begin, hn_work_say, hn_work_come, hn_work_go, hn_work_leave, hn_say_raise, hn_say_await, hn_say_begin, hn_say_work, hn_say_come, hn_say_go, hn_say_leave, hn_come_raise, hn_come_await, hn_come_begin, hn_come_work, hn_come_say, hn_come_go, hn_come_leave, hn_go_raise, hn_go_await, hn_go_begin, hn_go_work, hn_go_say, hn_go_come, hn_go_leave, hn_leave_raise, hn_leave_await, hn_leave_begin, hn_leave_work, hn_leave_say, hn_leave_come, hn_leave_go]
        refine w_Clear ?_
        simp_arith
        refine ⟨U.length + 1, rfl, .inl ⟨_, hVl3, ?_⟩⟩
        simp_arith
        refine ⟨i + 1, es ++ [.beg s m], _, _, hlt', er2', rfl, el2, ?_, ?_, ?_, so2, one2, dr4.put _ (by omega) (by omega)⟩
        · rw [efold, List.getElem?_set_ne (by omega)]; exact hVm3
        · rw [if_neg (by rw [begs_app]; intro z; have := congrArg List.length z; rw [List.length_append] at this; have : (begs es).length + 1 = 0 := this; omega)]
          exact set_get hVl3
        · rw [List.getElem?_set_ne (by omega)]; exact hVd3
      | _ =>
        simp_arith [Hd.dR, Hd.d, ne_strs, eq_self, hn_raise_await, hn_raise_begin, hn_raise_work, hn_raise_say, hn_raise_come, hn_raise_go, hn_raise_leave, hn_await_raise, hn_await_begin, hn_await_work, hn_await_say, hn_await_come, hn_await_go, hn_await_leave, hn_begin_raise, hn_begin_await, hn_begin_work, hn_begin_say, hn_begin_come, hn_begin_go, hn_begin_leave, hn_work_raise, hn_work_await, hn_work_begin, hn_work_say, hn_work_come, hn_work_go, hn_work_leave, hn_say_raise, hn_say_await, hn_say_begin, hn_say_work, hn_say_come, hn_say_go, hn_say_leave, hn_come_raise, hn_come_await, hn_come_begin, hn_come_work, hn_come_say, hn_come_go, hn_come_leave, hn_go_raise, hn_go_await, hn_go_begin, hn_go_work, hn_go_say, hn_go_come, hn_go_leave, hn_leave_raise, hn_leave_await, hn_leave_begin, hn_leave_work, hn_leave_say, hn_leave_come, hn_leave_go]
        refine ⟨i + 1, es ++ [_], _, _, hlt', er2', rfl, el2, ?_, ?_, hVd3, so2, one2, dr4⟩
        · rw [efold]; exact hVm3
        · rw [same rfl]; exact hVl3
    obtain ⟨i, es, e12', e13', hi, er, e, hel, hVm, hVl, hVd, so, one, drV⟩ := hI
    subst e
    have drTV := drU.trans drV
    have hUV := drV.kp _ _ (by omega) hU
    simp_arith
    refine w_App ?_
    simp_arith
    refine k_App hUV ?_
    simp_arith [tuple_ref hVd]
    refine ⟨_, hUV, by rw [List.length_map, sizeLine_eq]; omega, ?_⟩
    refine ⟨ss ++ [es], _, _, _, _, _, _, _, ?_, by rw [List.length_append, List.length_singleton]; omega, rfl, ?_, fun j c' s h1 h2 => ?_, drTV.put _ (by omega) (Nat.le_refl _)⟩
    · rw [List.length_append, List.length_singleton]
      exact er2
    · rw [set_get hUV, List.map_append] <;> rfl
    · rcases get_snoc h2 with q | ⟨q1, q2⟩
      · exact sc j c' s h1 q
      · subst q1 q2
        rw [hc] at h1
        cases h1
        rw [ea]
        exact so
  obtain ⟨ss, e5', e8, e9, e10, e11, e12, e13, er, hsl, e, hU, sc, drU⟩ := hI
  have hsm : ss.length = many := by
    refine Nat.le_antisymm hsl (Nat.le_of_not_lt fun q => ?_)
    rw [show many - ss.length = (many - (ss.length + 1)) + 1 by omega, rng_succ] at er
    cases er
  subst e
  simp_arith
  refine pick_dr drU.dk (by decide) (by decide) fun x U1 x1 x2 drU1 => ?_
  obtain ⟨m, hm⟩ : ∃ b' : Nat, 1 + x = (b' : Int) := ⟨(1 + x).toNat, by omega⟩
  simp_arith [hm, rng1_int (show (0 : Int) ≤ (m : Int) by omega) (by omega), Int.toNat_natCast]
  refine compGo_each (fun U2 => Dr ns n U1 U2) (fun (_ : D) (y : D) => ∃ i : Nat, i < many ∧ y = .int (i : Int)) (Dr.refl drU1.dk) (by rw [rng_len, sizeLine_eq]; omega) (fun d hd U2 drU2 => ?_) fun ys U2 al drU2 => ?_
  · refine ⟨_, rfl, ?_⟩
    simp_arith
    refine pick_dr drU2.dk (by omega) (by omega) fun y U3 y1 y2 drU3 => ?_
    exact ⟨drU2.trans drU3, y.toNat, by omega, by rw [Int.toNat_of_nonneg y1]⟩
  obtain ⟨is, ey, il, hi⟩ : ∃ is : List Nat, ys = is.map (fun i : Nat => D.int (i : Int)) ∧ is.length = m ∧ ∀ i ∈ is, i < many := by
    have key : ∀ {xs ys : List D}, All2 (fun (_ : D) (y : D) => ∃ i : Nat, i < many ∧ y = .int (i : Int)) xs ys → ∃ is : List Nat, ys = is.map (fun i : Nat => D.int (i : Int)) ∧ is.length = xs.length ∧ ∀ i ∈ is, i < many := fun {xs ys} a => by
      induction a with
      | nil => exact ⟨[], rfl, rfl, fun i hi => absurd hi List.not_mem_nil⟩
      | cons r _ ih =>
        obtain ⟨i, h1, e⟩ := r
        obtain ⟨is, e2, e3, e4⟩ := ih
        refine ⟨i :: is, by rw [e, e2]; rfl, by rw [List.length_cons, List.length_cons, e3], fun x hx => ?_⟩
        rcases List.mem_cons.mp hx with q | q
        · rw [q]; exact h1
        · exact e4 x q
    obtain ⟨is, h1, h2, h3⟩ := key al
    rw [rng_len] at h2
    exact ⟨is, h1, h2, h3⟩
  subst ey
  have drT2 := (drU.trans drU1).trans drU2
  have hT2 : U2[S3.length]? = some (.lst (as.map D.ref)) := drT2.kp _ _ (by omega) hT
  have hU2 : U2[T.length]? = some (.lst (ss.map (hsR (fA as)))) := (drU1.trans drU2).kp _ _ (by omega) hU
  have C2 := C.kp drT2.kp (by omega)
  simp_arith
  refine compGo_pure (fun d => match d with | .int i => D.tup [.int i, fA as i.toNat] | d => d) (by rw [List.length_map, sizeLine_eq]; omega) (fun d hd => ?_) ?_
  · obtain ⟨i, hi', ei⟩ := List.mem_map.mp hd
    subst ei
    have hil := hi i hi'
    have ha := List.getElem?_eq_getElem (show i < as.length by rw [C.len]; omega)
    have e1 : oIx U2 (.ref S3.length) (.int (i : Int)) = some (fA as i) := by
      rw [ix_refD hT2]
      unfold fA
      rw [getD_at ha]
      exact hat D.ref ha
    refine ⟨_, rfl, ?_⟩
    simp_arith [e1, Int.toNat_natCast]
  have call : ∀ i, i < many → ∃ c ∈ cs, c.1 = i := fun i hi => by
    have hj := List.getElem?_eq_getElem (show i < cs.length by omega)
    exact ⟨_, List.mem_of_getElem? hj, C.num _ _ hj⟩
  obtain ⟨fs, ef, hf, fl⟩ : ∃ fs : List Call, (is.map fun i : Nat => D.int (i : Int)).map (fun d => match d with | .int i => D.tup [.int i, fA as i.toNat] | d => d) = fs.map (callR (fA as)) ∧ (∀ c ∈ fs, c ∈ cs) ∧ fs.length = is.length := by
    have key : ∀ is : List Nat, (∀ i ∈ is, i < many) → ∃ fs : List Call, (is.map fun i : Nat => D.int (i : Int)).map (fun d => match d with | .int i => D.tup [.int i, fA as i.toNat] | d => d) = fs.map (callR (fA as)) ∧ (∀ c ∈ fs, c ∈ cs) ∧ fs.length = is.length := fun is => by
      induction is with
      | nil => exact fun _ => ⟨[], rfl, fun c hc => absurd hc List.not_mem_nil, rfl⟩
      | cons i is ih =>
        intro h
        obtain ⟨fs, h1, h2, h3⟩ := ih fun x hx => h x (List.mem_cons_of_mem _ hx)
        obtain ⟨c, hc, ec⟩ := call i (h i List.mem_cons_self)
        refine ⟨c :: fs, ?_, fun x hx => ?_, by rw [List.length_cons, List.length_cons, h3]⟩
        · rw [List.map_cons, List.map_cons, h1, List.map_cons]
          refine congrArg (· :: _) ?_
          show D.tup [.int (i : Int), fA as (i : Int).toNat] = .tup [.int (c.1 : Int), fA as c.1]
          rw [Int.toNat_natCast, ec]
        · rcases List.mem_cons.mp hx with q | q
          · rw [q]; exact hc
          · exact h2 x q
    exact key is hi
  rw [ef]
  have tup7 : oTuple U2 [.ref T.length] = some (.tup (ss.map (hsR (fA as)))) := tuple_ref hU2
  simp_arith [tup7]
  have r := rows_rev hcm hsm C.num C.mo sc
  have dd := rows_drawn (firsts := 3) (fs := fs) r (by rw [List.length_reverse, hcm]) (by omega) (by omega) (by omega) (by omega) (fun c hc => List.mem_reverse.mpr (hf c hc)) (by omega) (by omega) (by omega) (by omega)
  rw [List.reverse_reverse] at dd
  refine k ⟨b, w, fs, ss⟩ (fA as) (fun i => as.getD i 0) U2 dd (fun c hc => ?_) (dr.trans drT2)
  have hc2 : c ∈ cs := by
    rcases hc with q | ⟨s, hs, q⟩
    · exact hf c q
    · obtain ⟨j, hj⟩ := List.mem_iff_getElem?.mp hs
      have hjl : j < ss.length := (List.getElem?_eq_some_iff.mp hj).1
      have := (sc j _ s (List.getElem?_eq_getElem (by omega)) hj).beg c q
      exact (List.drop_sublist _ _).subset this
  obtain ⟨q1, q2, q3⟩ := C2.at (by omega) hc2
  exact ⟨q1, by omega, q3⟩
end

end G
namespace G
/-! ### exceptions out of a loop -/
section
variable {c : Str} {Q : Sto → Prop} {g b f : DS} {gg : DG} {it : DI} {fe : DE} {env : Ev} {S : Sto} {i : Nat}
theorem ex_asg {g : DG} (h : Ex (fe env S) c Q) : Ex (sAsg fe g env S) c Q := h.bind1
theorem ex_for (h : Wp (it env S) fun ds S1 => Ex (forGo gg b ds env S1) c Q) : Ex (sFor it gg b env S) c Q := Ex.bind2 h
theorem ex_forGo (I : List D → Ev → Sto → Prop) : ∀ (ds : List D) (env : Ev) (S : Sto), I ds env S →
    (∀ d rest env S, I (d :: rest) env S → ∃ env1, gg env d = some env1 ∧ (Ex (b env1 S) c Q ∨ Wp (b env1 S) fun p S' => p.1 = .nx ∧ I rest p.2 S')) →
    (∀ env S, I [] env S → False) → Ex (forGo gg b ds env S) c Q
  | [], env, S, h, _, hf => (hf env S h).elim
  | d :: ds, env, S, h, hs, hf => by
    obtain ⟨env1, e1, w⟩ := hs d ds env S h
    unfold forGo
    rw [e1]
    dsimp only
    rcases w with w | w
    · exact w.bind1
    · refine Ex.bind2 (w.mono fun p S' q => ?_)
      obtain ⟨fl, env2⟩ := p
      obtain ⟨q1, q2⟩ := q
      cases q1
      exact ex_forGo I ds env2 S' q2 hs hf
end

/-! ### texts -/
abbrev tx (l : List Nat) : Str := ⟨l.toArray⟩
abbrev cd (x : Str) : List Nat := x.cps.toList
theorem tx_cd (x : Str) : tx (cd x) = x := SX.S_tl x
theorem tx_len (a : List Nat) : (tx a).length = a.length := SX.S_len a
theorem tx_app (a b : List Nat) : tx a ++ tx b = tx (a ++ b) := SX.S_cat a b
section
variable {T : Sto}
theorem add_tx {a b : List Nat} (h : a.length + b.length ≤ 100000) : oAdd T (.str (tx a)) (.str (tx b)) = some (.str (tx (a ++ b))) := by
  refine (orO_none rfl).trans ((orO_none rfl).trans ((orO_none rfl).trans ?_))
  show (if (tx a).length + (tx b).length ≤ sizeLine then some (D.str (tx a ++ tx b)) else none) = _
  rw [if_pos (by rw [tx_len, tx_len, sizeLine_eq]; omega), tx_app]
theorem str_n (k : Nat) (h : k < 10 ^ 30) : oStrC T [.int (k : Int)] = some (.str (tx (TL.numL k))) := by
  show (if (k : Int).natAbs < 2 ^ 1919 then some (D.str (Str.ofString (toString (k : Int)))) else none) = _
  have h1 : (2 : Nat) ^ 100 ≤ 2 ^ 1919 := Nat.pow_le_pow_right (by decide) (by decide)
  have h2 : (10 : Nat) ^ 30 ≤ 2 ^ 100 := by decide
  rw [if_pos (show (k : Int).natAbs < 2 ^ 1919 from Nat.lt_of_lt_of_le (show k < 10 ^ 30 from h) (Nat.le_trans h2 h1)), SX.num_S]
theorem num_len {k : Nat} (h : k < 10 ^ 30) : (TL.numL k).length ≤ 30 := TL.numL_len (by decide) h
theorem txsOf_tx (ys : List (List Nat)) : txsOf (ys.map fun l => D.str (tx l)) = some (ys.map tx) := by
  have := txsOf_map (ys.map tx)
  rw [List.map_map] at this
  exact this
theorem join_tx {x : D} {sep : List Nat} {ys : List (List Nat)} (hx : listOf T x = some (ys.map fun l => D.str (tx l))) (h : (ys.map List.length).sum + ys.length * sep.length ≤ 100000) : oJoin T (.str (tx sep)) x = some (.str (tx (TL.joinL sep ys))) := by
  unfold oJoin
  rw [hx, Option.bind_some, txsOf_tx]
  dsimp only
  have e : ((ys.map tx).map (·.length)) = ys.map List.length := SX.lens ys
  rw [if_pos (by rw [e, List.length_map, tx_len]; omega), SX.join_S]
end
theorem join_cons (s : List Nat) : ∀ (ys : List (List Nat)) (x : List Nat), TL.joinL s (x :: ys) = x ++ (ys.map (s ++ ·)).flatten
  | [], x => by show x = x ++ []; rw [List.append_nil]
  | y :: ys, x => by
    show x ++ (s ++ TL.joinL s (y :: ys)) = _
    rw [join_cons s ys y, List.map_cons, List.flatten_cons, List.append_assoc]
theorem join_nil : ∀ ys : List (List Nat), TL.joinL [] ys = ys.flatten
  | [] => rfl
  | x :: ys => by
    rw [join_cons, List.flatten_cons]
    refine congrArg (x ++ ·) (congrArg List.flatten ?_)
    exact (List.map_congr_left fun y _ => rfl).trans (List.map_id ys)
/-- a member, a deed, a house, written -/
def mt (p : Nat × Str) : List Nat := TL.numL p.1 ++ 58 :: cd p.2
def memL (ms : Mem) : List Nat := (ms.map fun p => 32 :: mt p).flatten
def deedW : Hd → List (List Nat)
  | .rai b x => [cd "raise", TL.numL b, TL.numL x]
  | .awa b x => [cd "await", TL.numL b, TL.numL x]
  | .beg i ms => cd "begin" :: TL.numL i :: ms.map mt
  | .work x => [cd "work", TL.numL x]
  | .say v => [cd "say", cd v]
  | .com w => [cd "come", TL.numL w]
  | .go w => [cd "go", TL.numL w]
  | .lve w => [cd "leave", TL.numL w]
def deedL (d : Hd) : List Nat := TL.joinL [32] (deedW d)
def firstW (c : Call) : List (List Nat) := cd "FIRST" :: TL.numL c.1 :: c.2.map mt
def firstL (c : Call) : List Nat := TL.joinL [32] (firstW c)
def headW (b w : Nat) : List (List Nat) := [cd "BOXES", TL.numL b, cd "WALLS", TL.numL w]
def scrL (s : List Hd) : List (List Nat) := cd "SCRIPT" :: s.map deedL
def linesL (h : HH) : List (List Nat) := TL.joinL [32] (headW h.b h.w) :: (h.ss.flatMap scrL ++ h.fs.map firstL)
def textL (h : HH) : List Nat := TL.joinL [10] (linesL h)
theorem mem_words (x y : List Nat) (ms : Mem) : TL.joinL [32] (x :: y :: ms.map mt) = x ++ [32] ++ y ++ memL ms := by
  rw [join_cons, List.map_cons, List.flatten_cons, List.map_map]
  unfold memL
  show x ++ ([32] ++ y ++ _) = _
  rw [List.append_assoc, List.append_assoc, List.append_assoc]
  rfl
/-- what can be written -/
def MT (ms : Mem) : Prop := ms.length ≤ 10 ∧ ∀ p ∈ ms, p.1 < 10 ^ 30 ∧ p.2 ∈ MD
def DT : Hd → Prop
  | .rai b x => b < 10 ^ 30 ∧ x < 10 ^ 30
  | .awa b x => b < 10 ^ 30 ∧ x < 10 ^ 30
  | .beg i ms => i < 10 ^ 30 ∧ MT ms
  | .work x => x < 10 ^ 30
  | .say v => 1 ≤ v.length ∧ v.length ≤ 100 ∧ ∀ c ∈ cd v, c ∈ cd LETS
  | .com w => w < 10 ^ 30
  | .go w => w < 10 ^ 30
  | .lve w => w < 10 ^ 30
structure HT' (h : HH) : Prop where
  b : h.b < 10 ^ 30
  w : h.w < 10 ^ 30
  ss : h.ss.length ≤ 3
  fs : h.fs.length ≤ 4
  sl : ∀ s ∈ h.ss, s.length ≤ 7
  sd : ∀ s ∈ h.ss, ∀ d ∈ s, DT d
  fc : ∀ c ∈ h.fs, c.1 < 10 ^ 30 ∧ MT c.2
theorem md_len {m : Str} (h : m ∈ MD) : (cd m).length ≤ 4 := by
  unfold MD at h
  rcases List.mem_cons.mp h with q | q
  · rw [q]; decide
  rcases List.mem_cons.mp q with q | q
  · rw [q]; decide
  rw [List.mem_singleton.mp q]; decide
theorem mt_len {p : Nat × Str} (h : p.1 < 10 ^ 30 ∧ p.2 ∈ MD) : (mt p).length ≤ 40 := by
  have h1 := num_len h.1
  have h2 := md_len h.2
  unfold mt
  rw [List.length_append, List.length_cons]
  omega
theorem flat_le {A : Type} (f : A → List Nat) (m : Nat) : ∀ l : List A, (∀ x ∈ l, (f x).length ≤ m) → ((l.map f).map List.length).sum ≤ l.length * m
  | [], _ => Nat.zero_le _
  | x :: l, h => by
    have h1 := h x List.mem_cons_self
    have ih := flat_le f m l fun y hy => h y (List.mem_cons_of_mem _ hy)
    rw [List.map_cons, List.map_cons, List.sum_cons, List.length_cons, Nat.succ_mul]
    omega
theorem memL_len {ms : Mem} (h : MT ms) : (memL ms).length ≤ 420 := by
  unfold memL
  rw [List.length_flatten]
  have := flat_le (fun p : Nat × Str => 32 :: mt p) 41 ms fun p hp => by have := mt_len (h.2 p hp); rw [List.length_cons]; omega
  have := h.1
  omega
theorem say_len {v : Str} (h : DT (.say v)) : 1 ≤ v.length ∧ v.length ≤ 100 ∧ ∀ c ∈ cd v, c ∈ cd LETS := h
theorem cd_len (v : Str) : (cd v).length = v.length := by
  rw [← tx_len, tx_cd]
theorem deedL_len {d : Hd} (h : DT d) : (deedL d).length ≤ 500 := by
  unfold deedL
  cases d with
  | beg i ms =>
    have h1 := num_len h.1
    have h2 := memL_len h.2
    show (TL.joinL [32] (cd "begin" :: TL.numL i :: ms.map mt)).length ≤ 500
    rw [mem_words, List.length_append, List.length_append, List.length_append]
    have : (cd "begin").length = 5 := by decide
    have : [32].length = 1 := rfl
    omega
  | rai b x =>
    have h1 := num_len h.1
    have h2 := num_len h.2
    show (cd "raise" ++ ([32] ++ (TL.numL b ++ ([32] ++ TL.numL x)))).length ≤ 500
    rw [List.length_append, List.length_append, List.length_append, List.length_append]
    have : (cd "raise").length = 5 := by decide
    have : [32].length = 1 := rfl
    omega
  | awa b x =>
    have h1 := num_len h.1
    have h2 := num_len h.2
    show (cd "await" ++ ([32] ++ (TL.numL b ++ ([32] ++ TL.numL x)))).length ≤ 500
    rw [List.length_append, List.length_append, List.length_append, List.length_append]
    have : (cd "await").length = 5 := by decide
    have : [32].length = 1 := rfl
    omega
  | work x =>
    have h1 := num_len (show x < 10 ^ 30 from h)
    show (cd "work" ++ ([32] ++ TL.numL x)).length ≤ 500
    rw [List.length_append, List.length_append]
    have : (cd "work").length = 4 := by decide
    have : [32].length = 1 := rfl
    omega
  | say v =>
    have h1 := (say_len h).2.1
    show (cd "say" ++ ([32] ++ cd v)).length ≤ 500
    rw [List.length_append, List.length_append, cd_len v]
    have : (cd "say").length = 3 := by decide
    have : [32].length = 1 := rfl
    omega
  | com x =>
    have h1 := num_len (show x < 10 ^ 30 from h)
    show (cd "come" ++ ([32] ++ TL.numL x)).length ≤ 500
    rw [List.length_append, List.length_append]
    have : (cd "come").length = 4 := by decide
    have : [32].length = 1 := rfl
    omega
  | go x =>
    have h1 := num_len (show x < 10 ^ 30 from h)
    show (cd "go" ++ ([32] ++ TL.numL x)).length ≤ 500
    rw [List.length_append, List.length_append]
    have : (cd "go").length = 2 := by decide
    have : [32].length = 1 := rfl
    omega
  | lve x =>
    have h1 := num_len (show x < 10 ^ 30 from h)
    show (cd "leave" ++ ([32] ++ TL.numL x)).length ≤ 500
    rw [List.length_append, List.length_append]
    have : (cd "leave").length = 5 := by decide
    have : [32].length = 1 := rfl
    omega
theorem firstL_len {c : Call} (h : c.1 < 10 ^ 30 ∧ MT c.2) : (firstL c).length ≤ 500 := by
  have h1 := num_len h.1
  have h2 := memL_len h.2
  unfold firstL firstW
  rw [mem_words, List.length_append, List.length_append, List.length_append]
  have : (cd "FIRST").length = 5 := by decide
  have : [32].length = 1 := rfl
  omega
theorem head_eq (b w : Nat) : TL.joinL [32] (headW b w) = cd "BOXES " ++ TL.numL b ++ cd " WALLS " ++ TL.numL w := by
  show cd "BOXES" ++ ([32] ++ (TL.numL b ++ ([32] ++ (cd "WALLS" ++ ([32] ++ TL.numL w))))) = _
  have e1 : cd "BOXES " = cd "BOXES" ++ [32] := by decide
  have e2 : cd " WALLS " = [32] ++ (cd "WALLS" ++ [32]) := by decide
  rw [e1, e2]
  simp only [List.append_assoc]
theorem lines_small {h : HH} (t : HT' h) : (∀ l ∈ linesL h, l.length ≤ 600) ∧ (linesL h).length ≤ 40 := by
  have hs : ∀ s ∈ h.ss, (∀ l ∈ scrL s, l.length ≤ 600) ∧ (scrL s).length ≤ 8 := fun s hs => by
    refine ⟨fun l hl => ?_, ?_⟩
    · rcases List.mem_cons.mp hl with q | q
      · rw [q]; decide
      · obtain ⟨d, hd, e⟩ := List.mem_map.mp q
        have := deedL_len (t.sd s hs d hd)
        rw [← e]
        omega
    · unfold scrL
      rw [List.length_cons, List.length_map]
      have := t.sl s hs
      omega
  refine ⟨fun l hl => ?_, ?_⟩
  · rcases List.mem_cons.mp hl with q | q
    · have h1 := num_len t.b
      have h2 := num_len t.w
      rw [q, head_eq, List.length_append, List.length_append, List.length_append]
      have : (cd "BOXES ").length = 6 := by decide
      have : (cd " WALLS ").length = 7 := by decide
      omega
    · rcases List.mem_append.mp q with q | q
      · obtain ⟨s, h1, h2⟩ := List.mem_flatMap.mp q
        exact (hs s h1).1 l h2
      · obtain ⟨c, hc, e⟩ := List.mem_map.mp q
        have := firstL_len (t.fc c hc)
        rw [← e]
        omega
  · unfold linesL
    rw [List.length_cons, List.length_append, List.length_map, List.length_flatMap]
    have h1 := sum_le (fun s => (scrL s).length) 8 h.ss fun s q => (hs s q).2
    have := t.ss
    have := t.fs
    omega
theorem text_small {h : HH} (t : HT' h) : ((linesL h).map List.length).sum + (linesL h).length * [10].length ≤ 100000 := by
  obtain ⟨h1, h2⟩ := lines_small t
  have := flat_le (fun l : List Nat => l) 600 (linesL h) h1
  rw [List.map_id'] at this
  rw [show [10].length = 1 from rfl, Nat.mul_one]
  omega
/-! ### showing -/
section
variable {T : Sto} {P : D → Sto → Prop}
def mtD : D → D
  | .tup [.int i, .str m] => .str (tx (32 :: mt (i.toNat, m)))
  | d => d
theorem lit1 : (" " : Str) = tx [32] := by decide
theorem lit2 : (":" : Str) = tx [58] := by decide
theorem lit3 : ("" : Str) = tx [] := by decide
theorem lit4 : ("begin " : Str) = tx (cd "begin" ++ [32]) := by decide
theorem lit5 : ("say " : Str) = tx (cd "say" ++ [32]) := by decide
theorem lit6 : ("\n" : Str) = tx [10] := by decide
theorem lit7 : ("FIRST " : Str) = tx (cd "FIRST" ++ [32]) := by decide
theorem mem_rows (ms : Mem) : (ms.map memI).map mtD = (ms.map fun p => 32 :: mt p).map fun l => D.str (tx l) := by
  rw [List.map_map, List.map_map]
  refine List.map_congr_left fun p _ => ?_
  show D.str (tx (32 :: mt ((p.1 : Int).toNat, p.2))) = _
  rw [Int.toNat_natCast]
  rfl
theorem mem_join {ms : Mem} (h : MT ms) : oJoin T (.str "") (.lst ((ms.map fun p => 32 :: mt p).map fun l => D.str (tx l))) = some (.str (tx (memL ms))) := by
  rw [lit3, join_tx (ys := ms.map fun p => 32 :: mt p) rfl]
  · rw [join_nil]
    rfl
  · have := flat_le (fun p : Nat × Str => 32 :: mt p) 41 ms fun p hp => by have := mt_len (h.2 p hp); rw [List.length_cons]; omega
    have := h.1
    rw [List.length_nil]
    omega
theorem mem_word {p : Nat × Str} (h : p.1 < 10 ^ 30 ∧ p.2 ∈ MD) : (oAdd T (.str " ") (.str (tx (TL.numL p.1))) = some (.str (tx (32 :: TL.numL p.1))) ∧ oAdd T (.str (tx (32 :: TL.numL p.1))) (.str ":") = some (.str (tx (32 :: (TL.numL p.1 ++ [58])))) ∧ oAdd T (.str (tx (32 :: (TL.numL p.1 ++ [58])))) (.str p.2) = some (.str (tx (32 :: mt p)))) := by
  have h1 := num_len h.1
  have h2 := md_len h.2
  have e2 : [58].length = 1 := rfl
  have e3 : (32 :: TL.numL p.1).length = (TL.numL p.1).length + 1 := rfl
  have e4 : (32 :: (TL.numL p.1 ++ [58])).length = (TL.numL p.1).length + 1 + 1 := by rw [List.length_cons, List.length_append] <;> rfl
  refine ⟨by rw [lit1, add_tx (by show 1 + _ ≤ _; omega)] <;> rfl, by rw [lit2, add_tx (by omega)] <;> rfl, ?_⟩
  have := add_tx (T := T) (a := 32 :: (TL.numL p.1 ++ [58])) (b := cd p.2) (by omega)
  rw [tx_cd] at this
  rw [this]
  unfold mt
  simp only [List.append_assoc, List.cons_append, List.nil_append]
theorem lawmem_wp {ms : Mem} (h : MT ms) (k : P (.str (tx (memL ms))) T) : Wp (f__law_e_members_text [memD ms] T) P := by
  unfold f__law_e_members_text d__law_e_members_text
  have hl := h.1
  have e0 : memD ms = .tup (ms.map memI) := rfl
  simp_arith [e0]
  refine compGo_pure mtD (by rw [List.length_map, sizeLine_eq]; omega) (fun d hd => ?_) ?_
  · obtain ⟨p, hp, e⟩ := List.mem_map.mp hd
    subst e
    obtain ⟨a1, a2, a3⟩ := mem_word (T := T) (h.2 p hp)
    refine ⟨_, rfl, ?_⟩
    simp_arith [str_n p.1 (h.2 p hp).1, a1, a2, a3]
    show D.str (tx (32 :: mt p)) = D.str (tx (32 :: mt ((p.1 : Int).toNat, p.2)))
    rw [Int.toNat_natCast]
  · rw [mem_rows]
    simp_arith [mem_join h]
    exact k
theorem beg_words {ms : Mem} {x : Str} {i : Nat} (hi : i < 10 ^ 30) (h : MT ms) (hx : (cd x).length ≤ 5) : oAdd T (.str (tx (cd x ++ [32]))) (.str (tx (TL.numL i))) = some (.str (tx (cd x ++ [32] ++ TL.numL i))) ∧ oAdd T (.str (tx (cd x ++ [32] ++ TL.numL i))) (.str (tx (memL ms))) = some (.str (tx (TL.joinL [32] (cd x :: TL.numL i :: ms.map mt)))) := by
  have h1 := num_len hi
  have h2 := memL_len h
  have e1 : [32].length = 1 := rfl
  exact ⟨add_tx (by rw [List.length_append]; omega), by rw [add_tx (by rw [List.length_append, List.length_append]; omega), mem_words]⟩
theorem say_word {v : Str} (h : DT (.say v)) : oAdd T (.str (tx (cd "say" ++ [32]))) (.str v) = some (.str (tx (TL.joinL [32] [cd "say", cd v]))) := by
  have h1 := (say_len h).2.1
  have e1 : ("say" : Str).length = 3 := by decide
  have e2 : [32].length = 1 := rfl
  have := add_tx (T := T) (a := cd "say" ++ [32]) (b := cd v) (by rw [List.length_append, cd_len, cd_len]; omega)
  rw [tx_cd] at this
  rw [this]
  show some (D.str (tx (cd "say" ++ [32] ++ cd v))) = some (D.str (tx (cd "say" ++ ([32] ++ cd v))))
  rw [List.append_assoc]
theorem lawdeed_wp {d : Hd} (h : DT d) (k : P (.str (tx (deedL d))) T) : Wp (f__law_e_deed_text [d.d] T) P := by
  have w3 : ∀ {x : Str} {a c : Nat}, (cd x).length ≤ 10 → a < 10 ^ 30 → c < 10 ^ 30 → oAdd T (.str x) (.str " ") = some (.str (tx (cd x ++ [32]))) ∧ oAdd T (.str (tx (cd x ++ [32]))) (.str (tx (TL.numL a))) = some (.str (tx (cd x ++ [32] ++ TL.numL a))) ∧ oAdd T (.str (tx (cd x ++ [32] ++ TL.numL a))) (.str " ") = some (.str (tx (cd x ++ [32] ++ TL.numL a ++ [32]))) ∧ oAdd T (.str (tx (cd x ++ [32] ++ TL.numL a ++ [32]))) (.str (tx (TL.numL c))) = some (.str (tx (TL.joinL [32] [cd x, TL.numL a, TL.numL c]))) := fun {x a c} hx ha hc => by
    have h1 := num_len ha
    have h2 := num_len hc
    have e1 : [32].length = 1 := rfl
    have t := add_tx (T := T) (a := cd x) (b := [32]) (by omega)
    rw [tx_cd] at t
    refine ⟨by rw [lit1]; exact t, add_tx (by rw [List.length_append]; omega), by rw [lit1]; exact add_tx (by rw [List.length_append, List.length_append]; omega), ?_⟩
    rw [add_tx (by rw [List.length_append, List.length_append, List.length_append]; omega)]
    show _ = some (D.str (tx (cd x ++ ([32] ++ (TL.numL a ++ ([32] ++ TL.numL c))))))
    simp only [List.append_assoc]
  have w2 : ∀ {x : Str} {a : Nat}, (cd x).length ≤ 10 → a < 10 ^ 30 → oAdd T (.str x) (.str " ") = some (.str (tx (cd x ++ [32]))) ∧ oAdd T (.str (tx (cd x ++ [32]))) (.str (tx (TL.numL a))) = some (.str (tx (TL.joinL [32] [cd x, TL.numL a]))) := fun {x a} hx ha => by
    obtain ⟨a1, a2, _⟩ := w3 (x := x) (a := a) (c := a) hx ha ha
    refine ⟨a1, ?_⟩
    rw [a2]
    show _ = some (D.str (tx (cd x ++ ([32] ++ TL.numL a))))
    rw [List.append_assoc]
  unfold f__law_e_deed_text d__law_e_deed_text
  cases d with
  | rai b x =>
    obtain ⟨a1, a2, a3, a4⟩ := w3 (x := "raise") (by decide) h.1 h.2
    simp_arith [Hd.d, eq_self, hn_raise_await, hn_raise_begin, hn_raise_work, hn_raise_say, hn_raise_come, hn_raise_go, hn_raise_leave, hn_await_raise, hn_await_begin, hn_await_work, hn_await_say, hn_await_come, hn_await_go, hn_await_leave, hn_begin_raise, hn_begin_await, hn_begin_work, hn_begin_say, hn_begin_come, hn_begin_go, hn_begin_leave, hn_work_raise, hn_work_await, hn_work_begin, hn_work_say, hn_work_come, hn_work_go, hn_work_leave, hn_say_raise, hn_say_await, hn_say_begin, hn_say_work, hn_say_come, hn_say_go, hn_say_leave, hn_come_raise, hn_come_await, hn_come_begin, hn_come_work, hn_come_say, hn_come_go, hn_come_leave, hn_go_raise, hn_go_await, hn_go_begin, hn_go_work, hn_go_say, hn_go_come, hn_go_leave, hn_leave_raise, hn_leave_await, hn_leave_begin, hn_leave_work, hn_leave_say, hn_leave_come, hn_leave_go, str_n b h.1, str_n x h.2, a1, a2, a3, a4]
    exact k
  | awa b x =>
    obtain ⟨a1, a2, a3, a4⟩ := w3 (x := "await") (by decide) h.1 h.2
    simp_arith [Hd.d, eq_self, hn_raise_await, hn_raise_begin, hn_raise_work, hn_raise_say, hn_raise_come, hn_raise_go, hn_raise_leave, hn_await_raise, hn_await_begin, hn_await_work, hn_await_say, hn_await_come, hn_await_go, hn_await_leave, hn_begin_raise, hn_begin_await, hn_begin_work, hn_begin_say, hn_begin_come, hn_begin_go, hn_begin_leave, hn_work_raise, hn_work_await, hn_work_begin, hn_work_say, hn_work_come, hn_work_go, hn_work_leave, hn_say_raise, hn_say_await, hn_say_begin, hn_say_work, hn_say_come, hn_say_go, hn_say_leave, hn_come_raise, hn_come_await, hn_come_begin, hn_come_work, hn_come_say, hn_come_go, hn_come_leave, hn_go_raise, hn_go_await, hn_go_begin, hn_go_work, hn_go_say, hn_go_come, hn_go_leave, hn_leave_raise, hn_leave_await, hn_leave_begin, hn_leave_work, hn_leave_say, hn_leave_come, hn_leave_go, str_n b h.1, str_n x h.2, a1, a2, a3, a4]
    exact k
  | work x =>
    obtain ⟨a1, a2⟩ := w2 (x := "work") (by decide) (show x < 10 ^ 30 from h)
    simp_arith [Hd.d, eq_self, hn_raise_await, hn_raise_begin, hn_raise_work, hn_raise_say, hn_raise_come, hn_raise_go, hn_raise_leave, hn_await_raise, hn_await_begin, hn_await_work, hn_await_say, hn_await_come, hn_await_go, hn_await_leave, hn_begin_raise, hn_begin_await, hn_begin_work, hn_begin_say, hn_begin_come, hn_begin_go, hn_begin_leave, hn_work_raise, hn_work_await, hn_work_begin, hn_work_say, hn_work_come, hn_work_go, hn_work_leave, hn_say_raise, hn_say_await, hn_say_begin, hn_say_work, hn_say_come, hn_say_go, hn_say_leave, hn_come_raise, hn_come_await, hn_come_begin, hn_come_work, hn_come_say, hn_come_go, hn_come_leave, hn_go_raise, hn_go_await, hn_go_begin, hn_go_work, hn_go_say, hn_go_come, hn_go_leave, hn_leave_raise, hn_leave_await, hn_leave_begin, hn_leave_work, hn_leave_say, hn_leave_come, hn_leave_go, str_n x h, a1, a2]
    exact k
  | com x =>
    obtain ⟨a1, a2⟩ := w2 (x := "come") (by decide) (show x < 10 ^ 30 from h)
    simp_arith [Hd.d, eq_self, hn_raise_await, hn_raise_begin, hn_raise_work, hn_raise_say, hn_raise_come, hn_raise_go, hn_raise_leave, hn_await_raise, hn_await_begin, hn_await_work, hn_await_say, hn_await_come, hn_await_go, hn_await_leave, hn_begin_raise, hn_begin_await, hn_begin_work, hn_begin_say, hn_begin_come, hn_begin_go, hn_begin_leave, hn_work_raise, hn_work_await, hn_work_begin, hn_work_say, hn_work_come, hn_work_go, hn_work_leave, hn_say_raise, hn_say_await, hn_say_begin, hn_say_work, hn_say_come, hn_say_go, hn_say_leave, hn_come_raise, hn_come_await, hn_come_begin, hn_come_work, hn_come_say, hn_come_go, hn_come_leave, hn_go_raise, hn_go_await, hn_go_begin, hn_go_work, hn_go_say, hn_go_come, hn_go_leave, hn_leave_raise, hn_leave_await, hn_leave_begin, hn_leave_work, hn_leave_say, hn_leave_come, hn_leave_go, str_n x h, a1, a2]
    exact k
  | go x =>
    obtain ⟨a1, a2⟩ := w2 (x := "go") (by decide) (show x < 10 ^ 30 from h)
    simp_arith [Hd.d, eq_self, hn_raise_await, hn_raise_begin, hn_raise_work, hn_raise_say, hn_raise_come, hn_raise_go, hn_raise_leave, hn_await_raise, hn_await_begin, hn_await_work, hn_await_say, hn_await_come, hn_await_go, hn_await_leave, hn_begin_raise, hn_begin_await, hn_begin_work, hn_begin_say, hn_begin_come, hn_begin_go, hn_begin_leave, hn_work_raise, hn_work_await, hn_work_begin, hn_work_say, hn_work_come, hn_work_go, hn_work_leave, hn_say_raise, hn_say_await, hn_say_begin, hn_say_work, hn_say_come, hn_say_go, hn_say_leave, hn_come_raise, hn_come_await, hn_come_begin, hn_come_work, hn_come_say, hn_come_go, hn_come_leave, hn_go_raise, hn_go_await, hn_go_begin, hn_go_work, hn_go_say, hn_go_come, hn_go_leave, hn_leave_raise, hn_leave_await, hn_leave_begin, hn_leave_work, hn_leave_say, hn_leave_come, hn_leave_go, str_n x h, a1, a2]
    exact k
  | lve x =>
    obtain ⟨a1, a2⟩ := w2 (x := "leave") (by decide) (show x < 10 ^ 30 from h)
    simp_arith [Hd.d, eq_self, hn_raise_await, hn_raise_begin, hn_raise_work, hn_raise_say, hn_raise_come, hn_raise_go, hn_raise_leave, hn_await_raise, hn_await_begin, hn_await_work, hn_await_say, hn_await_come, hn_await_go, hn_await_leave, hn_begin_raise, hn_begin_await, hn_begin_work, hn_begin_say, hn_begin_come, hn_begin_go, hn_begin_leave, hn_work_raise, hn_work_await, hn_work_begin, hn_work_say, hn_work_come, hn_work_go, hn_work_leave, hn_say_raise, hn_say_await, hn_say_begin, hn_say_work, hn_say_come, hn_say_go, hn_say_leave, hn_come_raise, hn_come_await, hn_come_begin, hn_come_work, hn_come_say, hn_come_go, hn_come_leave, hn_go_raise, hn_go_await, hn_go_begin, hn_go_work, hn_go_say, hn_go_come, hn_go_leave, hn_leave_raise, hn_leave_await, hn_leave_begin, hn_leave_work, hn_leave_say, hn_leave_come, hn_leave_go, str_n x h, a1, a2]
    exact k
  | say v =>
    simp_arith [Hd.d, eq_self, hn_raise_await, hn_raise_begin, hn_raise_work, hn_raise_say, hn_raise_come, hn_raise_go, hn_raise_leave, hn_await_raise, hn_await_begin, hn_await_work, hn_await_say, hn_await_come, hn_await_go, hn_await_leave, hn_begin_raise, hn_begin_await, hn_begin_work, hn_begin_say, hn_begin_come, hn_begin_go, hn_begin_leave, hn_work_raise, hn_work_await, hn_work_begin, hn_work_say, hn_work_come, hn_work_go, hn_work_leave, hn_say_raise, hn_say_await, hn_say_begin, hn_say_work, hn_say_come, hn_say_go, hn_say_leave, hn_come_raise, hn_come_await, hn_come_begin, hn_come_work, hn_come_say, hn_come_go, hn_come_leave, hn_go_raise, hn_go_await, hn_go_begin, hn_go_work, hn_go_say, hn_go_come, hn_go_leave, hn_leave_raise, hn_leave_await, hn_leave_begin, hn_leave_work, hn_leave_say, hn_leave_come, hn_leave_go, lit5, say_word h]
    exact k
  | beg i ms =>
    obtain ⟨a1, a2⟩ := beg_words (T := T) (x := "begin") h.1 h.2 (by decide)
    simp_arith [Hd.d, eq_self, hn_raise_await, hn_raise_begin, hn_raise_work, hn_raise_say, hn_raise_come, hn_raise_go, hn_raise_leave, hn_await_raise, hn_await_begin, hn_await_work, hn_await_say, hn_await_come, hn_await_go, hn_await_leave, hn_begin_raise, hn_begin_await, hn_begin_work, hn_begin_say, hn_begin_come, hn_begin_go, hn_begin_leave, hn_work_raise, hn_work_await, hn_work_begin, hn_work_say, hn_work_come, hn_work_go, hn_work_leave, hn_say_raise, hn_say_await, hn_say_begin, hn_say_work, hn_say_come, hn_say_go, hn_say_leave, hn_come_raise, hn_come_await, hn_come_begin, hn_come_work, hn_come_say, hn_come_go, hn_come_leave, hn_go_raise, hn_go_await, hn_go_begin, hn_go_work, hn_go_say, hn_go_come, hn_go_leave, hn_leave_raise, hn_leave_await, hn_leave_begin, hn_leave_work, hn_leave_say, hn_leave_come, hn_leave_go, lit4, str_n i h.1, a1]
    refine lawmem_wp h.2 ?_
    simp_arith [a2]
    exact k
end

end G
namespace G
/-! ### a house shown -/
section
variable {T : Sto} {P : D → Sto → Prop}
def lnsD (ls : List (List Nat)) : List D := ls.map fun l => D.str (tx l)
theorem lns_app (a b : List (List Nat)) : lnsD (a ++ b) = lnsD a ++ lnsD b := List.map_append
theorem lns_len (a : List (List Nat)) : (lnsD a).length = a.length := List.length_map _
theorem lit8 : ("BOXES " : Str) = tx (cd "BOXES ") := (tx_cd _).symm
theorem lit9 : (" WALLS " : Str) = tx (cd " WALLS ") := (tx_cd _).symm
theorem head_words {b w : Nat} (hb : b < 10 ^ 30) (hw : w < 10 ^ 30) : oAdd T (.str "BOXES ") (.str (tx (TL.numL b))) = some (.str (tx (cd "BOXES " ++ TL.numL b))) ∧ oAdd T (.str (tx (cd "BOXES " ++ TL.numL b))) (.str " WALLS ") = some (.str (tx (cd "BOXES " ++ TL.numL b ++ cd " WALLS "))) ∧ oAdd T (.str (tx (cd "BOXES " ++ TL.numL b ++ cd " WALLS "))) (.str (tx (TL.numL w))) = some (.str (tx (TL.joinL [32] (headW b w)))) := by
  have h1 := num_len hb
  have h2 := num_len hw
  have e1 : (cd "BOXES ").length = 6 := by decide
  have e2 : (cd " WALLS ").length = 7 := by decide
  refine ⟨?_, ?_, ?_⟩
  · rw [lit8]; exact add_tx (by omega)
  · rw [lit9]; exact add_tx (by rw [List.length_append]; omega)
  · rw [add_tx (by rw [List.length_append, List.length_append]; omega), head_eq]
theorem first_words {c : Call} (h : c.1 < 10 ^ 30 ∧ MT c.2) : oAdd T (.str "FIRST ") (.str (tx (TL.numL c.1))) = some (.str (tx (cd "FIRST" ++ [32] ++ TL.numL c.1))) ∧ oAdd T (.str (tx (cd "FIRST" ++ [32] ++ TL.numL c.1))) (.str (tx (memL c.2))) = some (.str (tx (firstL c))) := by
  have := beg_words (T := T) (x := "FIRST") h.1 h.2 (by decide)
  rw [lit7]
  exact this
theorem text_join {h : HH} (t : HT' h) {x : D} (hx : listOf T x = some (lnsD (linesL h))) : oJoin T (.str "\n") x = some (.str (tx (textL h))) := by
  rw [lit6, join_tx hx (text_small t)]
  rfl
/-- what has been written so far -/
theorem lines_upto {h : HH} (t : HT' h) {ds : List (List Nat)} {more : List (List Nat)} (e : linesL h = ds ++ more) : ds.length ≤ 40 := by
  have := (lines_small t).2
  rw [e, List.length_append] at this
  omega
end

end G
namespace G
/-! ### the law's own text -/
section
variable {T : Sto} {P : D → Sto → Prop}
theorem lawtext_wp {h : HH} (t : HT' h) (k : P (.str (tx (textL h))) T) : Wp (f__law_e_text [h.d] T) P := by
  unfold f__law_e_text d__law_e_text
  refine wp_frz ?_
  have hd : h.d = .tup [.int (h.b : Int), .int (h.w : Int), .tup (h.fs.map callD), .tup (h.ss.map hsD)] := rfl
  obtain ⟨a1, a2, a3⟩ := head_words (T := T) t.b t.w
  rw [hd]
  simp_arith [str_n h.b t.b, str_n h.w t.w, a1, a2, a3]
  refine forGo_wp (fun rest env U => ∃ (done left : List (List Hd)) (e2 e3 : Option D), h.ss = done ++ left ∧ rest = left.map hsD ∧ env = [some (.tup [.int (h.b : Int), .int (h.w : Int), .tup (h.fs.map callD), .tup (h.ss.map hsD)]), some (.ref T.length), e2, e3, none, none] ∧ U = T ++ [.lst (lnsD (TL.joinL [32] (headW h.b h.w) :: done.flatMap scrL))]) _ _ _
    ⟨[], h.ss, _, _, rfl, rfl, rfl, rfl⟩ (fun d rest env U hI => ?_) fun env U hI => ?_
  · obtain ⟨done, left, e2, e3, ea, er, e, eU⟩ := hI
    cases left with
    | nil => cases er
    | cons s left =>
    obtain ⟨ed, er2⟩ := List.cons.inj er
    subst ed e eU
    have hs : s ∈ h.ss := by rw [ea]; exact List.mem_append_right _ List.mem_cons_self
    have sm : (TL.joinL [32] (headW h.b h.w) :: (done ++ [s]).flatMap scrL).length ≤ 40 := lines_upto t (more := left.flatMap scrL ++ h.fs.map firstL) (by
      unfold linesL
      rw [ea, show done ++ s :: left = (done ++ [s]) ++ left by simp, List.flatMap_append (xs := done ++ [s])]
      simp only [List.cons_append, List.append_assoc])
    have es : (done ++ [s]).flatMap scrL = done.flatMap scrL ++ (cd "SCRIPT" :: s.map deedL) := by
      rw [List.flatMap_append]
      refine congrArg (done.flatMap scrL ++ ·) ?_
      show scrL s ++ [] = _
      rw [List.append_nil]
      rfl
    have sm0 : (TL.joinL [32] (headW h.b h.w) :: done.flatMap scrL).length ≤ 40 := by
      rw [List.length_cons, List.flatMap_append, List.length_append] at sm
      rw [List.length_cons]
      omega
    refine ⟨_, rfl, ?_⟩
    simp_arith [hsD]
    refine w_App ?_
    simp_arith
    refine k_App (app_at _ _) ?_
    simp_arith
    refine ⟨_, app_at _ _, by rw [lns_len, sizeLine_eq]; omega, ?_⟩
    rw [set_last]
    simp_arith
    have sl := t.sl s hs
    refine forGo_wp (fun rest env V => ∃ (u v : List Hd) (e3 : Option D), s = u ++ v ∧ rest = v.map Hd.d ∧ env = [some (.tup [.int (h.b : Int), .int (h.w : Int), .tup (h.fs.map callD), .tup (h.ss.map hsD)]), some (.ref T.length), some (.tup (s.map Hd.d)), e3, none, none] ∧ V = T ++ [.lst (lnsD (TL.joinL [32] (headW h.b h.w) :: done.flatMap scrL) ++ [.str "SCRIPT"] ++ lnsD (u.map deedL))]) _ _ _
      ⟨[], s, _, rfl, rfl, rfl, by show _ = T ++ [Cell.lst (_ ++ [])]; rw [List.append_nil]⟩ (fun d rest env V hI => ?_) fun env V hI => ?_
    · obtain ⟨u, v, e3', eu, er, e, eV⟩ := hI
      cases v with
      | nil => cases er
      | cons x v =>
      obtain ⟨ed, er3⟩ := List.cons.inj er
      subst ed eV e
      have hx : x ∈ s := by rw [eu]; exact List.mem_append_right _ List.mem_cons_self
      have ul : u.length ≤ 7 := by
        have := congrArg List.length eu
        rw [List.length_append] at this
        omega
      refine ⟨_, rfl, ?_⟩
      simp_arith
      refine w_App ?_
      simp_arith
      refine k_App (app_at _ _) ?_
      simp_arith
      refine lawdeed_wp (t.sd s hs x hx) ?_
      refine ⟨_, app_at _ _, ?_, ?_⟩
      · rw [List.length_append, List.length_append, lns_len, lns_len, List.length_map, sizeLine_eq]
        show _ + 1 + _ < _
        omega
      rw [set_last]
      refine ⟨u ++ [x], v, _, by rw [eu, List.append_assoc]; rfl, er3, rfl, ?_⟩
      rw [List.map_append, lns_app, ← List.append_assoc] <;> rfl
    · obtain ⟨u, v, e3', eu, er, e, eV⟩ := hI
      cases v with
      | cons x v => cases er
      | nil =>
      rw [List.append_nil] at eu
      subst e eV
      rw [← eu]
      refine ⟨done ++ [s], left, _, _, by rw [ea, List.append_assoc]; rfl, er2, rfl, ?_⟩
      rw [es]
      refine congrArg (fun l => T ++ [Cell.lst l]) ?_
      show (lnsD (TL.joinL [32] (headW h.b h.w) :: done.flatMap scrL) ++ [D.str "SCRIPT"]) ++ lnsD (s.map deedL) = lnsD ((TL.joinL [32] (headW h.b h.w) :: done.flatMap scrL) ++ (cd "SCRIPT" :: s.map deedL))
      rw [lns_app, List.append_assoc]
      refine congrArg (lnsD _ ++ ·) ?_
      show D.str "SCRIPT" :: lnsD (s.map deedL) = D.str (tx (cd "SCRIPT")) :: lnsD (s.map deedL)
      rw [tx_cd]
  obtain ⟨done, left, e2, e3, ea, er, e, eU⟩ := hI
  cases left with
  | cons s left => cases er
  | nil =>
  rw [List.append_nil] at ea
  subst e eU
  rw [← ea]
  simp_arith
  refine forGo_wp (fun rest env U => ∃ (done left : List Call) (e4 e5 : Option D), h.fs = done ++ left ∧ rest = left.map callD ∧ env = [some (.tup [.int (h.b : Int), .int (h.w : Int), .tup (h.fs.map callD), .tup (h.ss.map hsD)]), some (.ref T.length), e2, e3, e4, e5] ∧ U = T ++ [.lst (lnsD (TL.joinL [32] (headW h.b h.w) :: (h.ss.flatMap scrL ++ done.map firstL)))]) _ _ _
    ⟨[], h.fs, _, _, rfl, rfl, rfl, by rw [List.map_nil, List.append_nil]⟩ (fun d rest env U hI => ?_) fun env U hI => ?_
  · obtain ⟨done, left, e4, e5, ea, er, e, eU⟩ := hI
    cases left with
    | nil => cases er
    | cons c left =>
    obtain ⟨ed, er2⟩ := List.cons.inj er
    subst ed e eU
    have hc : c ∈ h.fs := by rw [ea]; exact List.mem_append_right _ List.mem_cons_self
    obtain ⟨b1, b2⟩ := first_words (T := T ++ [.lst (lnsD (TL.joinL [32] (headW h.b h.w) :: (h.ss.flatMap scrL ++ done.map firstL)))]) (t.fc c hc)
    have sm : (TL.joinL [32] (headW h.b h.w) :: (h.ss.flatMap scrL ++ done.map firstL)).length ≤ 40 := lines_upto t (more := (c :: left).map firstL) (by
      unfold linesL
      rw [ea, List.map_append]
      simp only [List.cons_append, List.append_assoc])
    refine ⟨_, rfl, ?_⟩
    simp_arith [callD]
    refine w_App ?_
    simp_arith
    refine k_App (app_at _ _) ?_
    simp_arith [str_n c.1 (t.fc c hc).1, b1]
    refine lawmem_wp (t.fc c hc).2 ?_
    simp_arith [b2]
    refine ⟨_, app_at _ _, by rw [lns_len, sizeLine_eq]; omega, ?_⟩
    rw [set_last]
    refine ⟨done ++ [c], left, _, _, by rw [ea, List.append_assoc]; rfl, er2, rfl, ?_⟩
    refine congrArg (fun l => T ++ [Cell.lst l]) ?_
    rw [List.map_append, ← List.append_assoc]
    show lnsD (TL.joinL [32] (headW h.b h.w) :: (h.ss.flatMap scrL ++ done.map firstL)) ++ [D.str (tx (firstL c))] = lnsD ((TL.joinL [32] (headW h.b h.w) :: (h.ss.flatMap scrL ++ done.map firstL)) ++ [firstL c])
    rw [lns_app] <;> rfl
  obtain ⟨done, left, e4, e5, ea, er, e, eU⟩ := hI
  cases left with
  | cons s left => cases er
  | nil =>
  rw [List.append_nil] at ea
  subst e eU
  rw [← ea]
  have tj := text_join (T := T ++ [.lst (lnsD (linesL h))]) (x := .ref T.length) t (list_ref (app_at _ _))
  show Wp _ _
  simp_arith
  unfold linesL at tj
  simp_arith [tj]
  exact ⟨fun j c hj e2 => .inl (by rw [List.getElem?_append_left hj] at e2; exact e2), _, rfl, by rw [List.take_left]; exact k⟩
end
/-! ### reading: numbers -/
theorem numL_head : ∀ (k : Nat), k ≠ 0 → ∀ c r, TL.numL k = c :: r → c ≠ 48 := fun k => by
  induction k using Nat.strongRecOn with
  | ind k ih =>
    intro hk c r e
    by_cases h : k < 10
    · rw [TL.numL_lt h] at e
      have := (List.cons.inj e).1
      omega
    · rw [TL.numL_step (by omega)] at e
      cases e2 : TL.numL (k / 10) with
      | nil => exact absurd e2 (TL.numL_ne _)
      | cons d s =>
        rw [e2] at e
        have := (List.cons.inj e).1
        rw [← this]
        exact ih (k / 10) (by omega) (by omega) d s e2
section
variable {T : Sto} {P : D → Sto → Prop}
theorem figs_wp {n : Nat} (hn : n < 10 ^ 30) (k : P (.bl true) T) : Wp (f_is_figures [.str (tx (TL.numL n))] T) P := by
  unfold f_is_figures d_is_figures
  have hl := num_len hn
  have hne := List.length_pos_iff.mpr (TL.numL_ne n)
  have hz : (tx (TL.numL n)).length ≤ sizeLine := by rw [tx_len, sizeLine_eq]; omega
  have l1 : (1 : Int) ≤ ((tx (TL.numL n)).length : Int) := by rw [tx_len]; omega
  have l2 : ((tx (TL.numL n)).length : Int) ≤ 30 := by rw [tx_len]; omega
  obtain ⟨c, r, e⟩ : ∃ c r, TL.numL n = c :: r := List.exists_cons_of_ne_nil (TL.numL_ne n)
  have ix0 : oIx T (.str (tx (TL.numL n))) (.int 0) = some (.str (tx [c])) := by
    refine (orO_none rfl).trans ((orO_none rfl).trans ?_)
    show (if (tx (TL.numL n)).length ≤ sizeLine then (atI (TL.numL n) 0).map fun c => D.str ⟨#[c]⟩ else none) = _
    rw [if_pos hz, e, show atI (c :: r) 0 = some c from atI_nat (xs := c :: r) (j := 0) rfl]
    rfl
  simp_arith [len_str hz, decide_eq_true l1, decide_eq_true l2]
  refine compGo_pure (fun _ => .bl true) ?_ (fun d hd => ?_) ?_
  · unfold signs
    rw [List.length_map]
    exact hz
  · unfold signs at hd
    obtain ⟨c, hc, e⟩ := List.mem_map.mp hd
    subst e
    refine ⟨_, rfl, ?_⟩
    have dg := TL.numL_digits n c hc
    have hin : c ∈ ("0123456789" : Str).cps.toList := by
      have : c = 48 ∨ c = 49 ∨ c = 50 ∨ c = 51 ∨ c = 52 ∨ c = 53 ∨ c = 54 ∨ c = 55 ∨ c = 56 ∨ c = 57 := by omega
      rcases this with q | q | q | q | q | q | q | q | q | q <;> subst q <;> decide
    have e1 : oIn false T (.str ⟨#[c]⟩) (.str "0123456789") = some (.bl true) := by
      refine (orO_none rfl).trans ((orO_none rfl).trans ?_)
      show some (D.bl (false ^^ decide (c ∈ ("0123456789" : Str).cps.toList))) = _
      rw [Bool.false_xor, decide_eq_true hin]
    simp_arith [e1]
  · have e3 : oAll T [.lst ((signs (tx (TL.numL n))).map fun _ => D.bl true)] = some (.bl true) := by
      refine (all_lst T (fun _ : D => true) (signs (tx (TL.numL n)))).trans ?_
      exact congrArg (fun b => some (D.bl b)) (List.all_eq_true.mpr fun _ _ => rfl)
    simp_arith [e3, ix0]
    by_cases q : n = 0
    · subst q
      have e4 : c = 48 := by
        rw [TL.numL_lt (by decide)] at e
        exact (List.cons.inj e).1.symm
      have e5 : TL.numL 0 = [48] := TL.numL_lt (by decide)
      have e6 : (tx [c] = ("0" : Str)) = True := eq_true (by rw [e4]; decide)
      have e7 : (tx (TL.numL 0) = ("0" : Str)) = True := eq_true (by rw [e5]; decide)
      simp_arith [e6, e7]

      exact k
    · have c48 := numL_head n q c r e
      have e6 : (tx [c] = ("0" : Str)) = False := eq_false fun z => c48 (by
        have := congrArg cd z
        have this : [c] = [48] := this
        exact (List.cons.inj this).1)
      simp_arith [e6]

      exact k
theorem numby_wp {n : Nat} (hn : n < 10 ^ 30) (k : P (.int (n : Int)) T) : Wp (f_number_by [.str (tx (TL.numL n))] T) P := by
  unfold f_number_by d_number_by
  have hl := num_len hn
  have e : oIntS T [.str (tx (TL.numL n))] = some (.int (n : Int)) := by
    show (if (tx (TL.numL n)).length ≤ 640 then (PySem.intText? (tx (TL.numL n))).map D.int else none) = _
    rw [if_pos (by rw [tx_len]; omega), show tx (TL.numL n) = Str.ofString (toString ((n : Nat) : Int)) from (SX.num_S n).symm, TL.int_num (by omega)]
    rfl
  simp_arith
  refine figs_wp hn ?_
  simp_arith [e]
  exact k
end
/-! ### reading: words -/
theorem join_len (s : List Nat) : ∀ ys : List (List Nat), (TL.joinL s ys).length ≤ (ys.map List.length).sum + ys.length * s.length
  | [] => Nat.zero_le _
  | x :: ys => by
    rw [join_cons, List.length_append, List.length_flatten, List.map_cons, List.sum_cons, List.length_cons, Nat.succ_mul]
    have : ((ys.map (s ++ ·)).map List.length).sum = (ys.map List.length).sum + ys.length * s.length := by
      induction ys with
      | nil => simp
      | cons y ys ih =>
        rw [List.map_cons, List.map_cons, List.sum_cons, ih, List.map_cons, List.sum_cons, List.length_cons, Nat.succ_mul, List.length_append]
        omega
    omega
theorem join_mem {c : Nat} {s : List Nat} : ∀ {ys : List (List Nat)}, c ∈ TL.joinL s ys → c ∈ s ∨ ∃ y ∈ ys, c ∈ y
  | [], h => by cases h
  | x :: ys, h => by
    rw [join_cons] at h
    rcases List.mem_append.mp h with q | q
    · exact .inr ⟨x, List.mem_cons_self, q⟩
    · obtain ⟨l, hl, hc⟩ := List.mem_flatten.mp q
      obtain ⟨y, hy, e⟩ := List.mem_map.mp hl
      subst e
      rcases List.mem_append.mp hc with z | z
      · exact .inl z
      · exact .inr ⟨y, List.mem_cons_of_mem _ hy, z⟩
theorem split_tx {T : Sto} {c : Nat} {parts : List (List Nat)} (hc : c < 256) (hne : parts ≠ []) (h : ∀ p ∈ parts, c ∉ p) (hl : (parts.map List.length).sum + parts.length * 1 ≤ 100000) : oSplit T (.str (tx (TL.joinL [c] parts))) (.str (tx [c])) = some (.lst (lnsD parts)) := by
  have e := join_len [c] parts
  have e1 : [c].length = 1 := rfl
  rw [e1] at e
  show (if ((tx [c]).length == 0) = false ∧ (tx (TL.joinL [c] parts)).length + 2 ≤ sizeLine then some (D.lst ((Txt.split (tx (TL.joinL [c] parts)) (tx [c])).map D.str)) else none) = _
  rw [if_pos ⟨rfl, by rw [tx_len, sizeLine_eq]; omega⟩, SX.split_S (by simp) (by rw [List.all_cons]; simp [hc]), SX.spl_join hne h, List.map_map]
  rfl
theorem md_free {m : Str} (h : m ∈ MD) : ∀ c ∈ cd m, 97 ≤ c := by
  unfold MD at h
  rcases List.mem_cons.mp h with q | q
  · rw [q]; decide
  rcases List.mem_cons.mp q with q | q
  · rw [q]; decide
  rw [List.mem_singleton.mp q]; decide
theorem mt_free {p : Nat × Str} (h : p.2 ∈ MD) {c : Nat} (hc : c < 48) : c ∉ mt p := fun z => by
  unfold mt at z
  rcases List.mem_append.mp z with q | q
  · exact TL.numL_free (.inl hc) q
  · rcases List.mem_cons.mp q with q | q
    · omega
    · have := md_free h c q
      omega
theorem deedW_free {d : Hd} (h : DT d) {c : Nat} (hc : c < 48) : ∀ y ∈ deedW d, c ∉ y := fun y hy z => by
  have num : ∀ k, c ∉ TL.numL k := fun k => TL.numL_free (.inl hc)
  have low : ∀ x : Str, (∀ a ∈ cd x, 97 ≤ a) → c ∉ cd x := fun x hx q => by have := hx c q; omega
  cases d with
  | beg i ms =>
    rcases List.mem_cons.mp hy with q | q
    · subst q; exact low "begin" (by decide) z
    rcases List.mem_cons.mp q with q | q
    · subst q; exact num i z
    obtain ⟨p, hp, e⟩ := List.mem_map.mp q
    subst e
    exact mt_free (h.2.2 p hp).2 hc z
  | rai b x =>
    rcases List.mem_cons.mp hy with q | q
    · subst q; exact low "raise" (by decide) z
    rcases List.mem_cons.mp q with q | q
    · subst q; exact num b z
    rw [List.mem_singleton.mp q] at z; exact num x z
  | awa b x =>
    rcases List.mem_cons.mp hy with q | q
    · subst q; exact low "await" (by decide) z
    rcases List.mem_cons.mp q with q | q
    · subst q; exact num b z
    rw [List.mem_singleton.mp q] at z; exact num x z
  | work x =>
    rcases List.mem_cons.mp hy with q | q
    · subst q; exact low "work" (by decide) z
    rw [List.mem_singleton.mp q] at z; exact num x z
  | com x =>
    rcases List.mem_cons.mp hy with q | q
    · subst q; exact low "come" (by decide) z
    rw [List.mem_singleton.mp q] at z; exact num x z
  | go x =>
    rcases List.mem_cons.mp hy with q | q
    · subst q; exact low "go" (by decide) z
    rw [List.mem_singleton.mp q] at z; exact num x z
  | lve x =>
    rcases List.mem_cons.mp hy with q | q
    · subst q; exact low "leave" (by decide) z
    rw [List.mem_singleton.mp q] at z; exact num x z
  | say v =>
    rcases List.mem_cons.mp hy with q | q
    · subst q; exact low "say" (by decide) z
    rw [List.mem_singleton.mp q] at z
    have := (say_len h).2.2 c z
    have k : ∀ a ∈ cd LETS, 97 ≤ a := by decide
    have := k c this
    omega
theorem firstW_free {c : Call} (h : c.1 < 10 ^ 30 ∧ MT c.2) {a : Nat} (hc : a < 48) : ∀ y ∈ firstW c, a ∉ y := fun y hy z => by
  rcases List.mem_cons.mp hy with q | q
  · subst q
    have k : ∀ b ∈ cd "FIRST", 65 ≤ b := by decide
    have := k a z
    omega
  rcases List.mem_cons.mp q with q | q
  · subst q; exact TL.numL_free (.inl hc) z
  obtain ⟨p, hp, e⟩ := List.mem_map.mp q
  subst e
  exact mt_free (h.2.2 p hp).2 hc z
theorem headW_free {b w a : Nat} (hc : a < 48) : ∀ y ∈ headW b w, a ∉ y := fun y hy z => by
  have up : ∀ x : Str, (∀ b ∈ cd x, 65 ≤ b) → a ∉ cd x := fun x hx q => by have := hx a q; omega
  rcases List.mem_cons.mp hy with q | q
  · subst q; exact up "BOXES" (by decide) z
  rcases List.mem_cons.mp q with q | q
  · subst q; exact TL.numL_free (.inl hc) z
  rcases List.mem_cons.mp q with q | q
  · subst q; exact up "WALLS" (by decide) z
  rw [List.mem_singleton.mp q] at z; exact TL.numL_free (.inl hc) z
theorem lines_free {h : HH} (t : HT' h) : ∀ l ∈ linesL h, 10 ∉ l := fun l hl z => by
  have sub : ∀ {W : List (List Nat)}, (∀ y ∈ W, 10 ∉ y) → 10 ∉ TL.joinL [32] W := fun {W} hW q => by
    rcases join_mem q with x | ⟨y, hy, x⟩
    · have := List.mem_singleton.mp x
      omega
    · exact hW y hy x
  rcases List.mem_cons.mp hl with q | q
  · subst q; exact sub (headW_free (by decide)) z
  rcases List.mem_append.mp q with q | q
  · obtain ⟨s, h1, h2⟩ := List.mem_flatMap.mp q
    rcases List.mem_cons.mp h2 with q | q
    · subst q; revert z; decide
    · obtain ⟨d, hd, e⟩ := List.mem_map.mp q
      subst e
      exact sub (deedW_free (t.sd s h1 d hd) (by decide)) z
  · obtain ⟨c, hc, e⟩ := List.mem_map.mp q
    subst e
    exact sub (firstW_free (t.fc c hc) (by decide)) z

end G
namespace G
/-! ### reading -/
theorem cut_tail (d : D) (ds : List D) : cutD (d :: ds) (some 1) none = ds := by
  unfold cutD
  show ((d :: ds).drop (min 1 (ds.length + 1))).take (ds.length + 1 - min 1 (ds.length + 1)) = ds
  rw [show min 1 (ds.length + 1) = 1 by omega, show ds.length + 1 - 1 = ds.length by omega]
  exact List.take_length
theorem lns_cons (l : List Nat) (ls : List (List Nat)) : lnsD (l :: ls) = D.str (tx l) :: lnsD ls := rfl
section
variable {T : Sto} {P : D → Sto → Prop}
theorem part_tx {p : Nat × Str} (h : p.1 < 10 ^ 30 ∧ p.2 ∈ MD) : oPart T (.str (tx (mt p))) (.str ":") = some (.tup [.str (tx (TL.numL p.1)), .str ":", .str p.2]) := by
  have hl := mt_len h
  have e : Txt.partition (tx (mt p)) (tx [58]) = (tx (TL.numL p.1), tx [58], tx (cd p.2)) := SX.partition_some (by simp) (SX.par_head (sep := []) (cd p.2) (TL.numL_free (.inr (by decide))))
  rw [lit2]
  show (if ((tx [58]).length == 0) = false ∧ (tx (mt p)).length ≤ sizeLine then some (D.tup [.str (Txt.partition (tx (mt p)) (tx [58])).1, .str (Txt.partition (tx (mt p)) (tx [58])).2.1, .str (Txt.partition (tx (mt p)) (tx [58])).2.2]) else none) = _
  rw [if_pos ⟨rfl, by rw [tx_len, sizeLine_eq]; omega⟩, e] <;> rfl
theorem fin_plt {n : Nat} {d : D} (pt : PlT n d) {U : Sto} (o : Own T U) (k : P d T) : (∀ j c, j < T.length → U[j]? = some c → T[j]? = some c ∨ ltC T.length c = true) ∧ ∃ e, mapD (rsv T.length U 64) d = some e ∧ P e (U.take T.length) := frz_own o pt.lt k
theorem mt_fn {ms : Mem} (h : MT ms) : memFn ms := fun p hp => by
  have := (h.2 p hp).2
  unfold MD at this
  rcases List.mem_cons.mp this with q | q
  · rw [q]; exact okS_w (by decide +kernel)
  · rcases List.mem_cons.mp q with q | q
    · rw [q]; exact okS_w (by decide +kernel)
    · rw [List.mem_singleton.mp q]; exact okS_w (by decide +kernel)
theorem readmem_wp {ms : Mem} (h : MT ms) (k : P (memD ms) T) : Wp (f_read_members [.lst (lnsD (ms.map mt))] T) P := by
  unfold f_read_members d_read_members
  refine wp_frz ?_
  have hl := h.1
  have c1 : ((":" : Str) = "") = False := eq_false (by decide)
  simp_arith
  refine forGo_wp (fun rest env U => ∃ (done left : Mem) (e2 e3 e4 e5 : Option D), ms = done ++ left ∧ rest = lnsD (left.map mt) ∧ env = [some (.lst (lnsD (ms.map mt))), some (.ref T.length), e2, e3, e4, e5] ∧ U = T ++ [.lst (done.map memI)]) _ _ _
    ⟨[], ms, _, _, _, _, rfl, rfl, rfl, rfl⟩ (fun d rest env U hI => ?_) fun env U hI => ?_
  · obtain ⟨done, left, e2, e3, e4, e5, ea, er, e, eU⟩ := hI
    cases left with
    | nil => cases er
    | cons p left =>
    obtain ⟨ed, er2⟩ := List.cons.inj er
    subst ed e eU
    have hp := h.2 p (by rw [ea]; exact List.mem_append_right _ List.mem_cons_self)
    have dl : done.length ≤ 10 := by
      have := congrArg List.length ea
      rw [List.length_append] at this
      omega
    have md : decide (p.2 ∈ (["both", "come", "go"] : List Str)) = true := decide_eq_true hp.2
    refine ⟨_, rfl, ?_⟩
    simp_arith [part_tx hp, c1]
    refine w_InG ?_
    simp_arith [k_InG, Bool.true_xor, md]
    refine w_App ?_
    simp_arith
    refine k_App (app_at _ _) ?_
    simp_arith
    refine numby_wp hp.1 ?_
    simp_arith
    refine ⟨_, app_at _ _, by rw [List.length_map, sizeLine_eq]; omega, ?_⟩
    rw [set_last]
    refine ⟨done ++ [p], left, _, _, _, _, by rw [ea, List.append_assoc]; rfl, er2, rfl, ?_⟩
    rw [List.map_append] <;> rfl
  · obtain ⟨done, left, e2, e3, e4, e5, ea, er, e, eU⟩ := hI
    cases left with
    | cons p left => cases er
    | nil =>
    rw [List.append_nil] at ea
    subst e eU
    rw [← ea]
    simp_arith [tuple_ref (app_at T (Cell.lst (ms.map memI)))]
    exact fin_plt (plt_mem (n := 0) (mt_fn h)) ((Own.refl T).app _) k
theorem readcall_wp {c : Call} (h : c.1 < 10 ^ 30 ∧ MT c.2) (k : P (callD c) T) : Wp (f_read_calling [.lst (lnsD (TL.numL c.1 :: c.2.map mt))] T) P := by
  unfold f_read_calling d_read_calling
  have e0 : oEqE T (.lst (D.str (tx (TL.numL c.1)) :: lnsD (c.2.map mt))) (.lst []) = some (.bl false) := rfl
  have e1 : oIx T (.lst (D.str (tx (TL.numL c.1)) :: lnsD (c.2.map mt))) (.int 0) = some (.str (tx (TL.numL c.1))) := by rw [ix_lstD, at_lit0]
  simp_arith [e0, lns_cons, e1]
  refine numby_wp h.1 ?_
  simp_arith [cut_tail]
  refine readmem_wp h.2 ?_
  simp_arith
  exact k
theorem in_four {w a b c d : Str} : oIn false T (.str w) (.tup [.str a, .str b, .str c, .str d]) = some (.bl (decide (w ∈ [a, b, c, d]))) := (in_strs (ns := [a, b, c, d]) false).trans (by rw [Bool.false_xor])
theorem deed_split {d : Hd} (h : DT d) : oSplit T (.str (tx (deedL d))) (.str " ") = some (.lst (lnsD (deedW d))) := by
  rw [lit1]
  refine split_tx (by decide) (by cases d <;> exact List.cons_ne_nil _ _) (deedW_free h (by decide)) ?_
  cases d with
  | beg i ms =>
    have h1 := num_len h.1
    have h2 := flat_le mt 40 ms fun p hp => mt_len (h.2.2 p hp)
    have h3 := h.2.1
    have e1 : (cd "begin").length = 5 := by decide
    show ((cd "begin").length + ((TL.numL i).length + ((ms.map mt).map List.length).sum)) + ((ms.map mt).length + 1 + 1) * 1 ≤ 100000
    rw [List.length_map]
    omega
  | rai b x =>
    have h1 := num_len h.1
    have h2 := num_len h.2
    have e1 : (cd "raise").length = 5 := by decide
    show ((cd "raise").length + ((TL.numL b).length + ((TL.numL x).length + 0))) + 3 * 1 ≤ 100000
    omega
  | awa b x =>
    have h1 := num_len h.1
    have h2 := num_len h.2
    have e1 : (cd "await").length = 5 := by decide
    show ((cd "await").length + ((TL.numL b).length + ((TL.numL x).length + 0))) + 3 * 1 ≤ 100000
    omega
  | work x =>
    have h1 := num_len (show x < 10 ^ 30 from h)
    have e1 : (cd "work").length = 4 := by decide
    show ((cd "work").length + ((TL.numL x).length + 0)) + 2 * 1 ≤ 100000
    omega
  | com x =>
    have h1 := num_len (show x < 10 ^ 30 from h)
    have e1 : (cd "come").length = 4 := by decide
    show ((cd "come").length + ((TL.numL x).length + 0)) + 2 * 1 ≤ 100000
    omega
  | go x =>
    have h1 := num_len (show x < 10 ^ 30 from h)
    have e1 : (cd "go").length = 2 := by decide
    show ((cd "go").length + ((TL.numL x).length + 0)) + 2 * 1 ≤ 100000
    omega
  | lve x =>
    have h1 := num_len (show x < 10 ^ 30 from h)
    have e1 : (cd "leave").length = 5 := by decide
    show ((cd "leave").length + ((TL.numL x).length + 0)) + 2 * 1 ≤ 100000
    omega
  | say v =>
    have h1 := (say_len h).2.1
    have e1 : (cd "say").length = 3 := by decide
    show ((cd "say").length + ((cd v).length + 0)) + 2 * 1 ≤ 100000
    rw [cd_len v]
    omega
theorem w2_eq (x : Str) (a : List Nat) : lnsD [cd x, a] = [.str x, .str (tx a)] := by
  show [D.str (tx (cd x)), .str (tx a)] = _
  rw [tx_cd]
theorem w3_eq (x : Str) (a c : List Nat) : lnsD [cd x, a, c] = [.str x, .str (tx a), .str (tx c)] := by
  show [D.str (tx (cd x)), .str (tx a), .str (tx c)] = _
  rw [tx_cd]
theorem read3 {x : Str} {a c : Nat} {d : Hd} (hd : d.d = .tup [.str x, .int (a : Int), .int (c : Int)]) (hw : deedW d = [cd x, TL.numL a, TL.numL c]) (t : DT d) (f : d.Fn) (n1 : (x = "begin") = False) (n2 : (x = "say") = False) (i2 : decide (x ∈ (["raise", "await"] : List Str)) = true) (ha : a < 10 ^ 30) (hc : c < 10 ^ 30) (k : P d.d T) : Wp (f_read_deed [.str (tx (deedL d))] T) P := by
  unfold f_read_deed d_read_deed
  refine wp_frz ?_
  simp_arith [deed_split t, hw, w3_eq, n1, n2, in_two, i2]
  refine numby_wp ha ?_
  simp_arith
  refine numby_wp hc ?_
  simp_arith
  rw [← hd]
  exact fin_plt (plt_hd (n := 0) f) (Own.refl T) k
theorem read2 {x : Str} {a : Nat} {d : Hd} (hd : d.d = .tup [.str x, .int (a : Int)]) (hw : deedW d = [cd x, TL.numL a]) (t : DT d) (f : d.Fn) (n1 : (x = "begin") = False) (n2 : (x = "say") = False) (i2 : decide (x ∈ (["raise", "await"] : List Str)) = false) (i4 : decide (x ∈ (["come", "go", "leave", "work"] : List Str)) = true) (ha : a < 10 ^ 30) (k : P d.d T) : Wp (f_read_deed [.str (tx (deedL d))] T) P := by
  unfold f_read_deed d_read_deed
  refine wp_frz ?_
  simp_arith [deed_split t, hw, w2_eq, n1, n2, in_two, i2, in_four, i4]
  refine numby_wp ha ?_
  simp_arith
  rw [← hd]
  exact fin_plt (plt_hd (n := 0) f) (Own.refl T) k
theorem readdeed_wp {d : Hd} (h : DT d) (f : d.Fn) (k : P d.d T) : Wp (f_read_deed [.str (tx (deedL d))] T) P := by
  cases d with
  | rai b x => exact read3 rfl rfl h f hn_raise_begin hn_raise_say (by decide) h.1 h.2 k
  | awa b x => exact read3 rfl rfl h f hn_await_begin hn_await_say (by decide) h.1 h.2 k
  | work x => exact read2 rfl rfl h f hn_work_begin hn_work_say (by decide) (by decide) h k
  | com x => exact read2 rfl rfl h f hn_come_begin hn_come_say (by decide) (by decide) h k
  | go x => exact read2 rfl rfl h f hn_go_begin hn_go_say (by decide) (by decide) h k
  | lve x => exact read2 rfl rfl h f hn_leave_begin hn_leave_say (by decide) (by decide) h k
  | beg i ms =>
    have ew : lnsD (deedW (.beg i ms)) = .str "begin" :: lnsD (TL.numL i :: ms.map mt) := by
      show D.str (tx (cd "begin")) :: _ = _
      rw [tx_cd] <;> rfl
    have e1 : ∀ ds : List D, oIx T (.lst (.str "begin" :: ds)) (.int 0) = some (.str "begin") := fun ds => by rw [ix_lstD, at_lit0]
    unfold f_read_deed d_read_deed
    refine wp_frz ?_
    simp_arith [deed_split h, ew, e1, eq_self, hn_raise_await, hn_raise_begin, hn_raise_work, hn_raise_say, hn_raise_come, hn_raise_go, hn_raise_leave, hn_await_raise, hn_await_begin, hn_await_work, hn_await_say, hn_await_come, hn_await_go, hn_await_leave, hn_begin_raise, hn_begin_await, hn_begin_work, hn_begin_say, hn_begin_come, hn_begin_go, hn_begin_leave, hn_work_raise, hn_work_await, hn_work_begin, hn_work_say, hn_work_come, hn_work_go, hn_work_leave, hn_say_raise, hn_say_await, hn_say_begin, hn_say_work, hn_say_come, hn_say_go, hn_say_leave, hn_come_raise, hn_come_await, hn_come_begin, hn_come_work, hn_come_say, hn_come_go, hn_come_leave, hn_go_raise, hn_go_await, hn_go_begin, hn_go_work, hn_go_say, hn_go_come, hn_go_leave, hn_leave_raise, hn_leave_await, hn_leave_begin, hn_leave_work, hn_leave_say, hn_leave_come, hn_leave_go, cut_tail]
    refine readcall_wp (c := (i, ms)) h ?_
    simp_arith [callD]
    exact fin_plt (plt_hd (n := 0) f) (Own.refl T) k
  | say v =>
    obtain ⟨l1, l2, l3⟩ := say_len h
    have hz : v.length ≤ sizeLine := by rw [sizeLine_eq]; omega
    have ne : (v = ("" : Str)) = False := eq_false fun z => by rw [z] at l1; revert l1; decide
    have e3 : oAll T [.lst ((signs v).map fun _ => D.bl true)] = some (.bl true) := by
      refine (all_lst T (fun _ : D => true) (signs v)).trans ?_
      exact congrArg (fun b => some (D.bl b)) (List.all_eq_true.mpr fun _ _ => rfl)
    unfold f_read_deed d_read_deed
    refine wp_frz ?_
    simp_arith [deed_split h, deedW, w2_eq, tx_cd, eq_self, hn_raise_await, hn_raise_begin, hn_raise_work, hn_raise_say, hn_raise_come, hn_raise_go, hn_raise_leave, hn_await_raise, hn_await_begin, hn_await_work, hn_await_say, hn_await_come, hn_await_go, hn_await_leave, hn_begin_raise, hn_begin_await, hn_begin_work, hn_begin_say, hn_begin_come, hn_begin_go, hn_begin_leave, hn_work_raise, hn_work_await, hn_work_begin, hn_work_say, hn_work_come, hn_work_go, hn_work_leave, hn_say_raise, hn_say_await, hn_say_begin, hn_say_work, hn_say_come, hn_say_go, hn_say_leave, hn_come_raise, hn_come_await, hn_come_begin, hn_come_work, hn_come_say, hn_come_go, hn_come_leave, hn_go_raise, hn_go_await, hn_go_begin, hn_go_work, hn_go_say, hn_go_come, hn_go_leave, hn_leave_raise, hn_leave_await, hn_leave_begin, hn_leave_work, hn_leave_say, hn_leave_come, hn_leave_go, ne]
    refine compGo_pure (fun _ => .bl true) (by unfold signs; rw [List.length_map]; exact hz) (fun d hd => ?_) ?_
    · unfold signs at hd
      obtain ⟨c, hc, e⟩ := List.mem_map.mp hd
      subst e
      refine ⟨_, rfl, ?_⟩
      have e1 : oIn false T (.str ⟨#[c]⟩) (.str "abcdefghijklmnopqrstuvwxyz") = some (.bl true) := by
        refine (orO_none rfl).trans ((orO_none rfl).trans ?_)
        show some (D.bl (false ^^ decide (c ∈ LETS.cps.toList))) = _
        rw [Bool.false_xor, decide_eq_true (l3 c hc)]
      simp_arith [e1]
    · simp_arith [e3]
      exact fin_plt (plt_hd (n := 0) f) (Own.refl T) k
theorem readhead_wp {b w : Nat} (hb : b < 10 ^ 30) (hw : w < 10 ^ 30) (k : P (.tup [.int (b : Int), .int (w : Int)]) T) : Wp (f_read_head [.str (tx (TL.joinL [32] (headW b w)))] T) P := by
  unfold f_read_head d_read_head
  have h1 := num_len hb
  have h2 := num_len hw
  have e1 : (cd "BOXES").length = 5 := by decide
  have e2 : (cd "WALLS").length = 5 := by decide
  have sp : oSplit T (.str (tx (TL.joinL [32] (headW b w)))) (.str " ") = some (.lst (lnsD (headW b w))) := by
    rw [lit1]
    refine split_tx (by decide) (List.cons_ne_nil _ _) (headW_free (by decide)) ?_
    show ((cd "BOXES").length + ((TL.numL b).length + ((cd "WALLS").length + ((TL.numL w).length + 0)))) + 4 * 1 ≤ 100000
    omega
  have ew : lnsD (headW b w) = [.str "BOXES", .str (tx (TL.numL b)), .str "WALLS", .str (tx (TL.numL w))] := by
    show [D.str (tx (cd "BOXES")), .str (tx (TL.numL b)), .str (tx (cd "WALLS")), .str (tx (TL.numL w))] = _
    rw [tx_cd, tx_cd]
  simp_arith [sp, ew]
  refine numby_wp hb ?_
  simp_arith
  refine numby_wp hw ?_
  simp_arith
  exact k
end

end G
namespace G
/-! ### a house read -/
def Sp (ss done : List (List Hd)) (left : List Hd) (sl : List (List Hd)) : Prop := (done = [] ∧ left = [] ∧ ss = sl) ∨ ∃ d0 dl, done = d0 ++ [dl] ∧ ss = d0 ++ (dl ++ left) :: sl
def DWORDS : List Str := ["raise", "await", "begin", "work", "say", "come", "go", "leave"]
theorem deed_word (d : Hd) : ∃ w ∈ DWORDS, ∃ r, deedL d = cd w ++ r := by
  cases d with
  | rai b x => exact ⟨"raise", by decide, _, rfl⟩
  | awa b x => exact ⟨"await", by decide, _, rfl⟩
  | beg i ms => exact ⟨"begin", by decide, _, rfl⟩
  | work x => exact ⟨"work", by decide, _, rfl⟩
  | say v => exact ⟨"say", by decide, _, rfl⟩
  | com w => exact ⟨"come", by decide, _, rfl⟩
  | go w => exact ⟨"go", by decide, _, rfl⟩
  | lve w => exact ⟨"leave", by decide, _, rfl⟩
theorem word_head : ∀ w ∈ DWORDS, ∃ c r, cd w = c :: r ∧ 97 ≤ c := by
  have : ∀ w ∈ DWORDS, (cd w).headD 0 ≥ 97 := by decide
  intro w hw
  have h := this w hw
  cases e : cd w with
  | nil =>
    rw [e] at h
    have h : (0 : Nat) ≥ 97 := h
    omega
  | cons c r =>
    rw [e] at h
    exact ⟨c, r, rfl, h⟩
theorem deed_head (d : Hd) : ∃ c r, deedL d = c :: r ∧ 97 ≤ c := by
  obtain ⟨w, hw, r, e⟩ := deed_word d
  obtain ⟨c, s, e2, h⟩ := word_head w hw
  exact ⟨c, s ++ r, by rw [e, e2]; rfl, h⟩
section
variable {T : Sto} {P : D → Sto → Prop}
theorem sl6 {l : List Nat} (h : l.length ≤ 1000) : oSlS T (.str (tx l)) none (some 6) = some (.str (tx (l.take 6))) := by
  show (if (tx l).length ≤ sizeLine then some (D.str (Txt.slice (tx l) none (some 6))) else none) = _
  rw [if_pos (by rw [tx_len, sizeLine_eq]; omega), show Txt.slice (tx l) none (some 6) = tx (l.take 6) from SX.slice_to (by decide)]
theorem not_first {l : List Nat} {c : Nat} {r : List Nat} (e : l = c :: r) (h : c ≠ 70) : (tx (l.take 6) = ("FIRST " : Str)) = False := eq_false fun z => h (by
  have := congrArg cd z
  rw [e] at this
  have this : c :: r.take 5 = cd "FIRST " := this
  have f : cd "FIRST " = 70 :: [73, 82, 83, 84, 32] := by decide
  rw [f] at this
  exact (List.cons.inj this).1)
theorem not_script {l : List Nat} {c : Nat} {r : List Nat} (e : l = c :: r) (h : c ≠ 83) : (tx l = ("SCRIPT" : Str)) = False := eq_false fun z => h (by
  have := congrArg cd z
  rw [e] at this
  have this : c :: r = cd "SCRIPT" := this
  have f : cd "SCRIPT" = 83 :: [67, 82, 73, 80, 84] := by decide
  rw [f] at this
  exact (List.cons.inj this).1)
theorem is_first (c : Call) : (tx ((firstL c).take 6) = ("FIRST " : Str)) = True := eq_true (by
  have e : firstL c = cd "FIRST " ++ (TL.numL c.1 ++ memL c.2) := by
    unfold firstL firstW
    rw [mem_words, List.append_assoc]
    have : cd "FIRST " = cd "FIRST" ++ [32] := by decide
    rw [this]
  rw [e, List.take_append_of_le_length (by decide)]
  decide)
theorem script_six : (tx ((cd "SCRIPT").take 6) = ("FIRST " : Str)) = False := eq_false (by decide)
theorem last_at {xs : List D} {x : D} : atI (xs ++ [x]) (-1) = some x := by
  have := atI_last xs x
  exact this
theorem first_split {c : Call} (h : c.1 < 10 ^ 30 ∧ MT c.2) : oSplit T (.str (tx (firstL c))) (.str " ") = some (.lst (lnsD (firstW c))) := by
  rw [lit1]
  refine split_tx (by decide) (List.cons_ne_nil _ _) (firstW_free h (by decide)) ?_
  have h1 := num_len h.1
  have h2 := flat_le mt 40 c.2 fun p hp => mt_len (h.2.2 p hp)
  have h3 := h.2.1
  have e1 : (cd "FIRST").length = 5 := by decide
  show ((cd "FIRST").length + ((TL.numL c.1).length + ((c.2.map mt).map List.length).sum)) + ((c.2.map mt).length + 1 + 1) * 1 ≤ 100000
  rw [List.length_map]
  omega
/-- the body of the loop that reads -/
noncomputable abbrev readB : DS := (sIf (dTst (dBin oEq (dSl oSlS (dVar 6) oNo (oSo (dC (.int 6)))) (dC (.str "FIRST "))))
  (sExpr (dAppend (dVar 5) (dCallF f_read_calling (aCons (dSl oSl (dM1 oSplit (dVar 6) (dC (.str " "))) (oSo (dC (.int 1))) oNo) aNil))))
  (sIf (dTst (dBin oNeE (dVar 5) (dLst aNil)))
  (sRaise "NoText")
  (sIf (dTst (dBin oEq (dVar 6) (dC (.str "SCRIPT"))))
  (sExpr (dAppend (dVar 4) (dCell aNil)))
  (sIf (dTst (dBin oEqE (dVar 4) (dLst aNil)))
  (sRaise "NoText")
  (sExpr (dAppend (dBin oIx (dVar 4) (dUn oNeg (dC (.int 1)))) (dCallF f_read_deed (aCons (dVar 6) aNil))))))))
structure RS (h : HH) (T U : Sto) (done : List (List Hd)) (left : List Hd) (sl : List (List Hd)) (fd fl : List Call) (as : List Nat) : Prop where
  sp : Sp h.ss done left sl
  ef : h.fs = fd ++ fl
  hfd : fd ≠ [] → left = [] ∧ sl = []
  hU : U[T.length]? = some (.lst (as.map D.ref))
  hF : U[T.length + 1]? = some (.lst (fd.map callD))
  asl : as.length = done.length
  cells : ∀ (j : Nat) (s : List Hd) (a : Nat), done[j]? = some s → as[j]? = some a → U[a]? = some (.lst (s.map Hd.d))
  nd : as.Nodup
  ge : ∀ a ∈ as, T.length + 2 ≤ a
  own : Own T U
  Ul : T.length + 2 ≤ U.length
def leftL (left : List Hd) (sl : List (List Hd)) (fl : List Call) : List (List Nat) := left.map deedL ++ (sl.flatMap scrL ++ fl.map firstL)
theorem RS.start (h : HH) : RS h T (T ++ [Cell.lst []] ++ [Cell.lst []]) [] [] h.ss [] h.fs [] := by
  have hL : (T ++ [Cell.lst []]).length = T.length + 1 := by rw [List.length_append]; rfl
  exact ⟨.inl ⟨rfl, rfl, rfl⟩, rfl, fun z => absurd rfl z, by rw [List.getElem?_append_left (by omega)]; exact app_at _ _, by rw [← hL]; exact app_at _ _, rfl, fun j s a h1 _ => by simp at h1, .nil, fun a ha => absurd ha List.not_mem_nil, ((Own.refl T).app _).app _, by rw [List.length_append, hL]; exact Nat.le_refl _⟩
set_option maxHeartbeats 4000000 in
theorem rstep {h : HH} {U : Sto} {done : List (List Hd)} {left : List Hd} {sl : List (List Hd)} {fd fl : List Call} {as : List Nat} {x0 x1 x2 x3 e7 e8 : Option D} {g : List Nat} {gs : List (List Nat)} {PF : Fl × Ev → Sto → Prop} (t : HT' h) (fn : h.Fn) (R : RS h T U done left sl fd fl as) (hg : leftL left sl fl = g :: gs)
    (k : ∀ V done' left' sl' fd' fl' as', gs = leftL left' sl' fl' → RS h T V done' left' sl' fd' fl' as' → PF (.nx, [x0, x1, x2, x3, some (.ref T.length), some (.ref (T.length + 1)), some (.str (tx g)), e7, e8]) V) : Wp (readB [x0, x1, x2, x3, some (.ref T.length), some (.ref (T.length + 1)), some (.str (tx g)), e7, e8] U) PF := by
  obtain ⟨sp, ef, hfd, hU, hF, asl, cells, nd, ge, own, Ul⟩ := R
  have dl3 : done.length ≤ 3 := by
    have := t.ss
    rcases sp with ⟨q, _, _⟩ | ⟨d0, dl, q1, q2⟩
    · rw [q]; exact Nat.zero_le _
    · rw [q2, List.length_append, List.length_cons] at this
      rw [q1, List.length_append, List.length_singleton]
      omega
  unfold readB
  cases left with
  | cons x left =>
    -- a deed
    have fd0 : fd = [] := Classical.byContradiction fun z => by cases (hfd z).1
    subst fd0
    obtain ⟨d0, dl, q1, q2⟩ : ∃ d0 dl, done = d0 ++ [dl] ∧ h.ss = d0 ++ (dl ++ (x :: left)) :: sl := by
      rcases sp with ⟨_, q, _⟩ | q
      · cases q
      · exact q
    subst q1
    obtain ⟨ed, er2⟩ := List.cons.inj (show deedL x :: (left.map deedL ++ (sl.flatMap scrL ++ fl.map firstL)) = g :: gs from hg)
    subst ed
    have hs : dl ++ (x :: left) ∈ h.ss := by rw [q2]; exact List.mem_append_right _ List.mem_cons_self
    have hx : x ∈ dl ++ (x :: left) := List.mem_append_right _ List.mem_cons_self
    have hdx := t.sd _ hs x hx
    have hfx := fn.ss _ hs x hx
    have dll : dl.length ≤ 7 := by
      have := t.sl _ hs
      rw [List.length_append] at this
      omega
    obtain ⟨c, r, ec, hc⟩ := deed_head x
    have ll := deedL_len hdx
    obtain ⟨a0, al, ea⟩ : ∃ a0 al, as = a0 ++ [al] := by
      rcases List.eq_nil_or_concat as with z | ⟨a0, al, z⟩
      · rw [z, List.length_append] at asl
        cases asl
      · exact ⟨a0, al, by rw [z, List.concat_eq_append]⟩
    subst ea
    have a0l : a0.length = d0.length := by
      rw [List.length_append, List.length_append, List.length_singleton, List.length_singleton] at asl
      omega
    have hal : U[al]? = some (.lst (dl.map Hd.d)) := cells d0.length dl al (by rw [List.getElem?_append_right (Nat.le_refl _), Nat.sub_self]; rfl) (by rw [← a0l, List.getElem?_append_right (Nat.le_refl _), Nat.sub_self]; rfl)
    have geal := ge al (List.mem_append_right _ List.mem_cons_self)
    have n1 : oNeE U (.ref (T.length + 1)) (.lst []) = some (.bl false) := by
      unfold oNeE
      rw [list_ref hF]
      rfl
    have n2 : oEqE U (.ref T.length) (.lst []) = some (.bl false) := by
      unfold oEqE
      rw [list_ref hU, List.map_append]
      cases a0 <;> rfl
    have n3 : oIx U (.ref T.length) (.int (-1)) = some (.ref al) := by
      rw [ix_refD hU, List.map_append]
      exact last_at
    simp_arith [sl6 (T := U) (show (deedL x).length ≤ 1000 by omega), not_first ec (show c ≠ 70 by omega), n1, not_script ec (show c ≠ 83 by omega), n2]
    refine w_App ?_
    simp_arith [n3]
    refine k_App hal ?_
    simp_arith
    refine readdeed_wp hdx hfx ?_
    refine ⟨_, hal, by rw [List.length_map, sizeLine_eq]; omega, ?_⟩
    have ndal : al ∉ a0 := fun z => (List.nodup_append.mp nd).2.2 al z al List.mem_cons_self rfl
    refine k _ (d0 ++ [dl ++ [x]]) left sl [] fl (a0 ++ [al]) er2.symm ⟨.inr ⟨d0, dl ++ [x], rfl, by rw [q2]; simp⟩, ef, fun z => absurd rfl z, by rw [List.getElem?_set_ne (by omega)]; exact hU, by rw [List.getElem?_set_ne (by omega)]; exact hF, by rw [List.length_append, List.length_append, a0l] <;> rfl, fun j s a h1 h2 => ?_, nd, ge, own.set (by omega) _, by rw [List.length_set]; exact Ul⟩
    rcases get_snoc h2 with z | ⟨z1, z2⟩
    · have hj := (List.getElem?_eq_some_iff.mp z).1
      rw [List.getElem?_append_left (by omega)] at h1
      rw [List.getElem?_set_ne fun q => ndal (by rw [q]; exact List.mem_of_getElem? z)]
      exact cells j s a (by rw [List.getElem?_append_left (by omega)]; exact h1) h2
    · subst z1 z2
      rw [a0l, List.getElem?_append_right (Nat.le_refl _), Nat.sub_self] at h1
      cases h1
      rw [set_get hal, List.map_append] <;> rfl
  | nil =>
  cases sl with
  | cons s sl =>
    -- a script
    have fd0 : fd = [] := Classical.byContradiction fun z => by cases (hfd z).2
    subst fd0
    obtain ⟨ed, er2⟩ := List.cons.inj (show cd "SCRIPT" :: (s.map deedL ++ sl.flatMap scrL ++ fl.map firstL) = g :: gs from hg)
    subst ed
    have n1 : oNeE U (.ref (T.length + 1)) (.lst []) = some (.bl false) := by
      unfold oNeE
      rw [list_ref hF]
      rfl
    have c1 : (tx (cd "SCRIPT") = ("SCRIPT" : Str)) = True := eq_true (tx_cd _)
    have sp2 : Sp h.ss (done ++ [[]]) s sl := .inr ⟨done, [], rfl, by
      rcases sp with ⟨q1, _, q3⟩ | ⟨d0, dl, q1, q2⟩
      · rw [q1, q3] <;> rfl
      · rw [q2, q1, List.append_nil, List.append_assoc] <;> rfl⟩
    simp_arith [sl6 (T := U) (show (cd "SCRIPT").length ≤ 1000 by decide), script_six, n1, c1]
    refine w_App ?_
    simp_arith
    refine k_App hU ?_
    simp_arith
    have hU2 : (U ++ [Cell.lst []])[T.length]? = some (.lst (as.map D.ref)) := app_get hU
    refine ⟨_, hU2, by rw [List.length_map, asl, sizeLine_eq]; omega, ?_⟩
    have lt : ∀ a ∈ as, a < U.length := fun a ha => by
      obtain ⟨j, hj⟩ := List.mem_iff_getElem?.mp ha
      have hjl := (List.getElem?_eq_some_iff.mp hj).1
      exact (List.getElem?_eq_some_iff.mp (cells j _ a (List.getElem?_eq_getElem (by omega)) hj)).1
    refine k _ (done ++ [[]]) s sl [] fl (as ++ [U.length]) ?_ ⟨sp2, ef, fun z => absurd rfl z, by rw [set_get hU2, List.map_append] <;> rfl, by rw [List.getElem?_set_ne (by omega)]; exact app_get hF, by rw [List.length_append, List.length_append, asl] <;> rfl, fun j s' a h1 h2 => ?_, List.nodup_append.mpr ⟨nd, by simp, fun a ha b hb => by rw [List.mem_singleton.mp hb]; have := lt a ha; omega⟩, fun a ha => ?_, (own.app _).set (by omega) _, by rw [List.length_set, List.length_append]; omega⟩
    · rw [← er2, List.append_assoc] <;> rfl
    · rcases get_snoc h2 with z | ⟨z1, z2⟩
      · have hj := (List.getElem?_eq_some_iff.mp z).1
        rw [List.getElem?_append_left (by omega)] at h1
        have := ge a (List.mem_of_getElem? z)
        rw [List.getElem?_set_ne (by omega)]
        exact app_get (cells j s' a h1 z)
      · subst z1 z2
        rw [asl, List.getElem?_append_right (Nat.le_refl _), Nat.sub_self] at h1
        cases h1
        rw [List.getElem?_set_ne (by omega)]
        exact app_at _ _
    · rcases List.mem_append.mp ha with z | z
      · exact ge a z
      · rw [List.mem_singleton.mp z]; exact Ul
  | nil =>
  cases fl with
  | nil => cases hg
  | cons c fl =>
    -- a first hand
    obtain ⟨ed, er2⟩ := List.cons.inj (show firstL c :: fl.map firstL = g :: gs from hg)
    subst ed
    have hc : c ∈ h.fs := by rw [ef]; exact List.mem_append_right _ List.mem_cons_self
    have ll := firstL_len (t.fc c hc)
    have fdl : fd.length ≤ 4 := by
      have := t.fs
      rw [ef, List.length_append] at this
      omega
    have ew : lnsD (firstW c) = D.str (tx (cd "FIRST")) :: lnsD (TL.numL c.1 :: c.2.map mt) := rfl
    simp_arith [sl6 (T := U) (show (firstL c).length ≤ 1000 by omega), is_first]
    refine w_App ?_
    simp_arith
    refine k_App hF ?_
    simp_arith [first_split (T := U) (t.fc c hc), ew, cut_tail]
    refine readcall_wp (t.fc c hc) ?_
    refine ⟨_, hF, by rw [List.length_map, sizeLine_eq]; omega, ?_⟩
    refine k _ done [] [] (fd ++ [c]) fl as er2.symm ⟨sp, by rw [ef, List.append_assoc] <;> rfl, fun _ => ⟨rfl, rfl⟩, by rw [List.getElem?_set_ne (by omega)]; exact hU, by rw [set_get hF, List.map_append] <;> rfl, asl, fun j s a h1 h2 => ?_, nd, ge, own.set (by omega) _, by rw [List.length_set]; exact Ul⟩
    have := ge a (List.mem_of_getElem? h2)
    rw [List.getElem?_set_ne (by omega)]
    exact cells j s a h1 h2
end

end G
namespace G
/-! ### what can't be read: numbers, members -/
def figsB (l : List Nat) : Bool := decide (1 ≤ l.length) && decide (l.length ≤ 30) && l.all (fun c => decide (48 ≤ c) && decide (c ≤ 57)) && (!decide (l.headD 0 = 48) || decide (l = [48]))
def memBad (w : List Nat) : Bool := match TL.par [58] [] w with
  | none => true
  | some (a, m) => !(decide (tx m ∈ MD) && figsB a)
def callBad : List (List Nat) → Bool
  | [] => true
  | w :: r => !figsB w || r.any memBad
theorem par_lenG : ∀ (l acc a m : List Nat), TL.par [58] acc l = some (a, m) → a.length ≤ acc.length + l.length
  | [], acc, a, m, h => by
    unfold TL.par at h
    cases h
  | c :: r, acc, a, m, h => by
    by_cases q : TL.pre [58] (c :: r) = true
    · rw [TL.par_hit q] at h
      cases h
      exact Nat.le_add_right _ _
    · rw [TL.par_miss (by rw [Bool.not_eq_true] at q; exact q)] at h
      have := par_lenG r _ a m h
      rw [List.length_append, List.length_singleton] at this
      rw [List.length_cons]
      omega
theorem par_len {l a m : List Nat} (h : TL.par [58] [] l = some (a, m)) : a.length ≤ l.length := by
  have := par_lenG l [] a m h
  rw [List.length_nil] at this
  omega
section
variable {T : Sto} {P : D → Sto → Prop} {Q : Sto → Prop}
theorem isfigs_wp {l : List Nat} (hl : l.length ≤ 1000) (k : P (.bl (figsB l)) T) : Wp (f_is_figures [.str (tx l)] T) P := by
  unfold f_is_figures d_is_figures
  have hz : (tx l).length ≤ sizeLine := by rw [tx_len, sizeLine_eq]; omega
  simp_arith [len_str hz, tx_len]
  by_cases q1 : 1 ≤ l.length
  · by_cases q2 : l.length ≤ 30
    · simp_arith [decide_eq_true (show (1 : Int) ≤ (l.length : Int) by omega), decide_eq_true (show (l.length : Int) ≤ 30 by omega)]
      refine compGo_pure (fun d => match d with | .str y => .bl (match signOf y with | some c => decide (48 ≤ c) && decide (c ≤ 57) | none => false) | d => d) ?_ (fun d hd => ?_) ?_
      · unfold signs
        rw [List.length_map]
        exact hz
      · unfold signs at hd
        obtain ⟨c, hc, e⟩ := List.mem_map.mp hd
        subst e
        refine ⟨_, rfl, ?_⟩
        have hin : decide (c ∈ ("0123456789" : Str).cps.toList) = (decide (48 ≤ c) && decide (c ≤ 57)) := by
          have e : ("0123456789" : Str).cps.toList = [48, 49, 50, 51, 52, 53, 54, 55, 56, 57] := by decide
          rw [e, Bool.eq_iff_iff, Bool.and_eq_true, decide_eq_true_iff, decide_eq_true_iff, decide_eq_true_iff]
          simp only [List.mem_cons, List.not_mem_nil, or_false]
          omega
        have e1 : oIn false T (.str ⟨#[c]⟩) (.str "0123456789") = some (.bl (decide (48 ≤ c) && decide (c ≤ 57))) := by
          refine (orO_none rfl).trans ((orO_none rfl).trans ?_)
          show some (D.bl (false ^^ decide (c ∈ ("0123456789" : Str).cps.toList))) = _
          rw [Bool.false_xor, hin]
        simp_arith [e1]
        rfl
      · have e2 : (signs (tx l)).map (fun d => match d with | .str y => .bl (match signOf y with | some c => decide (48 ≤ c) && decide (c ≤ 57) | none => false) | d => d) = l.map fun c => D.bl (decide (48 ≤ c) && decide (c ≤ 57)) := by
          unfold signs
          rw [List.map_map]
          rfl
        rw [e2]
        obtain ⟨c, r, e⟩ : ∃ c r, l = c :: r := List.exists_cons_of_ne_nil fun z => by rw [z] at q1; exact absurd q1 (by decide)
        have ix0 : oIx T (.str (tx l)) (.int 0) = some (.str (tx [c])) := by
          refine (orO_none rfl).trans ((orO_none rfl).trans ?_)
          show (if (tx l).length ≤ sizeLine then (atI l 0).map fun c => D.str ⟨#[c]⟩ else none) = _
          rw [if_pos hz, e, show atI (c :: r) 0 = some c from atI_nat (xs := c :: r) (j := 0) rfl]
          rfl
        have hb : figsB l = (l.all (fun c => decide (48 ≤ c) && decide (c ≤ 57)) && (!decide (l.headD 0 = 48) || decide (l = [48]))) := by
          unfold figsB
          rw [decide_eq_true q1, decide_eq_true q2, Bool.true_and, Bool.true_and]
        rw [hb] at k
        simp_arith [all_lst]
        cases ha : l.all fun c => decide (48 ≤ c) && decide (c ≤ 57) with
        | false =>
          rw [ha, Bool.false_and] at k
          simp_arith
          exact k
        | true =>
          rw [ha, Bool.true_and] at k
          have h0 : l.headD 0 = c := by rw [e]; rfl
          rw [h0] at k
          have e6 : (tx [c] = ("0" : Str)) = (c = 48) := by
            refine propext ⟨fun z => ?_, fun z => by rw [z]; decide⟩
            have := congrArg cd z
            have this : [c] = [48] := this
            exact (List.cons.inj this).1
          have e7 : (tx l = ("0" : Str)) = (l = [48]) := by
            refine propext ⟨fun z => ?_, fun z => by rw [z]; decide⟩
            exact congrArg cd z
          simp_arith [ix0, e6, e7]
          by_cases z : c = 48
          · have e8 : decide (tx l = ("0" : Str)) = decide (l = [48]) := decide_eq_decide.mpr (by rw [e7])
            rw [decide_eq_true z] at k ⊢
            simp_arith
            rw [e8]
            exact k
          · rw [decide_eq_false z] at k ⊢
            simp_arith
            exact k
    · have : figsB l = false := by unfold figsB; rw [decide_eq_false q2, Bool.and_false, Bool.false_and, Bool.false_and]
      rw [this] at k
      simp_arith [decide_eq_true (show (1 : Int) ≤ (l.length : Int) by omega), decide_eq_false (show ¬ (l.length : Int) ≤ 30 by omega)]
      exact k
  · have : figsB l = false := by unfold figsB; rw [decide_eq_false q1, Bool.false_and, Bool.false_and, Bool.false_and]
    rw [this] at k
    simp_arith [decide_eq_false (show ¬ (1 : Int) ≤ (l.length : Int) by omega)]
    exact k
theorem num_bad {l : List Nat} (hl : l.length ≤ 1000) (hb : figsB l = false) (q : Q T) : Ex (f_number_by [.str (tx l)] T) "NoText" Q := by
  unfold f_number_by d_number_by
  refine ex_fun (ex_seq1 (ex_if ?_))
  simp_arith
  refine isfigs_wp hl ?_
  rw [hb]
  simp_arith
  exact ex_raise q
theorem num_good {l : List Nat} (hb : figsB l = true) (k : ∀ i : Int, P (.int i) T) : Wp (f_number_by [.str (tx l)] T) P := by
  have hb2 := hb
  unfold figsB at hb
  rw [Bool.and_eq_true, Bool.and_eq_true, Bool.and_eq_true] at hb
  obtain ⟨⟨⟨h1, h2⟩, h3⟩, _⟩ := hb
  have h1 := of_decide_eq_true h1
  have h2 := of_decide_eq_true h2
  unfold f_number_by d_number_by
  have e : oIntS T [.str (tx l)] = some (.int (((NumText.digitsVal l : Nat)) : Int)) := by
    show (if (tx l).length ≤ 640 then (PySem.intText? (tx l)).map D.int else none) = _
    rw [if_pos (by rw [tx_len]; omega), show PySem.intText? (tx l) = _ from SX.int_S h3 (fun z => by rw [z] at h1; exact absurd h1 (by decide)) (by omega)]
    rfl
  simp_arith
  refine isfigs_wp (by omega) ?_
  rw [hb2]
  simp_arith [e]
  exact k _
theorem part_any {w : List Nat} (hl : w.length ≤ 1000) : (TL.par [58] [] w = none → oPart T (.str (tx w)) (.str ":") = some (.tup [.str (tx w), .str (tx []), .str (tx [])])) ∧ (∀ a m, TL.par [58] [] w = some (a, m) → oPart T (.str (tx w)) (.str ":") = some (.tup [.str (tx a), .str ":", .str (tx m)])) := by
  have e0 : ∀ x : Str × Str × Str, Txt.partition (tx w) (tx [58]) = x → oPart T (.str (tx w)) (.str ":") = some (.tup [.str x.1, .str x.2.1, .str x.2.2]) := fun x e => by
    rw [lit2]
    show (if ((tx [58]).length == 0) = false ∧ (tx w).length ≤ sizeLine then some (D.tup [.str (Txt.partition (tx w) (tx [58])).1, .str (Txt.partition (tx w) (tx [58])).2.1, .str (Txt.partition (tx w) (tx [58])).2.2]) else none) = _
    rw [if_pos ⟨rfl, by rw [tx_len, sizeLine_eq]; omega⟩, e]
  refine ⟨fun h => e0 _ (SX.partition_none (by simp) h), fun a m h => ?_⟩
  rw [e0 _ (SX.partition_some (by simp) h), lit2]
theorem mems_bad {ws : List (List Nat)} (hl : ∀ w ∈ ws, w.length ≤ 1000) (hn : ws.length ≤ 1000) (hb : ws.any memBad = true) (q : Q T) : Ex (f_read_members [.lst (lnsD ws)] T) "NoText" Q := by
  unfold f_read_members d_read_members
  refine ex_frz (ex_fun (ex_seq2 ?_))
  have c1 : ((":" : Str) = "") = False := eq_false (by decide)
  have c2 : (tx [] = ("" : Str)) = True := eq_true rfl
  have fin : ∀ U : Sto, Own T U → (∀ j c, j < T.length → U[j]? = some c → T[j]? = some c ∨ ltC T.length c = true) ∧ Q (U.take T.length) := fun U ⟨l, e⟩ => by
    refine ⟨fun j c hj e2 => .inl (by rw [e, List.getElem?_append_left hj] at e2; exact e2), ?_⟩
    rw [e, List.take_left]
    exact q
  simp_arith
  refine ex_seq1 (ex_for ?_)
  simp_arith
  refine ex_forGo (fun rest env U => ∃ (left : List (List Nat)) (acc : List D) (e2 e3 e4 e5 : Option D), rest = lnsD left ∧ left.any memBad = true ∧ (∀ w ∈ left, w.length ≤ 1000) ∧ acc.length + left.length ≤ 1000 ∧ env = [some (.lst (lnsD ws)), some (.ref T.length), e2, e3, e4, e5] ∧ U = T ++ [.lst acc]) _ _ _
    ⟨ws, [], _, _, _, _, rfl, hb, hl, by rw [List.length_nil]; omega, rfl, rfl⟩ (fun d rest env U hI => ?_) fun env U hI => ?_
  · obtain ⟨left, acc, e2, e3, e4, e5, er, hb, hl, hn, e, eU⟩ := hI
    cases left with
    | nil => cases hb
    | cons w left =>
    obtain ⟨ed, er2⟩ := List.cons.inj er
    subst ed e eU
    rw [List.length_cons] at hn
    obtain ⟨pn, ps⟩ := part_any (T := T ++ [.lst acc]) (hl w List.mem_cons_self)
    refine ⟨_, rfl, ?_⟩
    cases hm : memBad w with
    | true =>
      left
      unfold memBad at hm
      cases hp : TL.par [58] [] w with
      | none =>
        refine ex_seq2 ?_
        simp_arith [pn hp]
        refine ex_seq1 (ex_if ?_)
        simp_arith [c2]
        exact ex_raise (fin _ ((Own.refl T).app _))
      | some am =>
        obtain ⟨a, m⟩ := am
        rw [hp] at hm
        have hm : (!(decide (tx m ∈ MD) && figsB a)) = true := hm
        refine ex_seq2 ?_
        simp_arith [ps a m hp]
        by_cases hmd : tx m ∈ MD
        · rw [decide_eq_true hmd, Bool.true_and, Bool.not_eq_true'] at hm
          have md : decide (tx m ∈ (["both", "come", "go"] : List Str)) = true := decide_eq_true hmd
          have al : a.length ≤ 1000 := by
            have := par_len hp
            have := hl w List.mem_cons_self
            omega
          refine ex_seq2 ?_
          simp_arith [c1]
          refine w_InG ?_
          simp_arith [k_InG, Bool.true_xor, md]
          refine ex_expr (ex_app ?_)
          simp_arith
          refine ⟨by show (lstOf (T ++ [Cell.lst acc]) (.ref T.length)).isSome = true; rw [lst_ref (app_at _ _)]; rfl, ?_⟩
          refine ex_tup (ex_cons1 (ex_callF ?_))
          simp_arith
          exact num_bad al hm (fin _ ((Own.refl T).app _))
        · have md : decide (tx m ∈ (["both", "come", "go"] : List Str)) = false := decide_eq_false hmd
          refine ex_seq1 (ex_if ?_)
          simp_arith [c1]
          refine w_InG ?_
          simp_arith [k_InG, Bool.true_xor, md]
          exact ex_raise (fin _ ((Own.refl T).app _))
    | false =>
      right
      rw [List.any_cons, hm, Bool.false_or] at hb
      unfold memBad at hm
      cases hp : TL.par [58] [] w with
      | none => rw [hp] at hm; cases hm
      | some am =>
        obtain ⟨a, m⟩ := am
        rw [hp] at hm
        have hm : (!(decide (tx m ∈ MD) && figsB a)) = false := hm
        rw [Bool.not_eq_false', Bool.and_eq_true] at hm
        have md : decide (tx m ∈ (["both", "come", "go"] : List Str)) = true := hm.1
        simp_arith [ps a m hp, c1]
        refine w_InG ?_
        simp_arith [k_InG, Bool.true_xor, md]
        refine w_App ?_
        simp_arith
        refine k_App (app_at _ _) ?_
        simp_arith
        refine num_good hm.2 fun i => ?_
        simp_arith
        refine ⟨_, app_at _ _, by rw [sizeLine_eq]; omega, ?_⟩
        rw [set_last]
        exact ⟨rfl, left, _, _, _, _, _, er2, hb, fun x hx => hl x (List.mem_cons_of_mem _ hx), by rw [List.length_append, List.length_singleton]; omega, rfl, rfl⟩
  · obtain ⟨left, acc, e2, e3, e4, e5, er, hb, _⟩ := hI
    cases left with
    | nil => cases hb
    | cons w left => cases er
end

end G
namespace G
/-! ### what can't be read: callings, deeds, heads -/
def sayB (r : List (List Nat)) : Bool := match r with
  | [v] => !decide (v = []) && v.all fun c => decide (c ∈ cd LETS)
  | _ => false
def deedBad : List (List Nat) → Bool
  | [] => false
  | w :: r => if tx w = "begin" then callBad r else if (decide (tx w = "say") && sayB r) = true then false
    else if (decide (tx w ∈ (["raise", "await"] : List Str)) && decide (r.length = 2)) = true then r.any fun x => !figsB x
    else if (decide (tx w ∈ (["come", "go", "leave", "work"] : List Str)) && decide (r.length = 1)) = true then r.any fun x => !figsB x else true
def headBad : List (List Nat) → Bool
  | [a, b, c, d] => !(decide (tx a = "BOXES") && decide (tx c = "WALLS")) || !figsB b || !figsB d
  | _ => true
/-- words of a line -/
structure WOk (ws : List (List Nat)) : Prop where
  ne : ws ≠ []
  n : ws.length ≤ 100
  len : ∀ w ∈ ws, w.length ≤ 200
  free : ∀ w ∈ ws, 32 ∉ w ∧ 10 ∉ w
theorem WOk.sum {ws : List (List Nat)} (o : WOk ws) : (ws.map List.length).sum + ws.length * 1 ≤ 100000 := by
  have := flat_le (fun l : List Nat => l) 200 ws o.len
  rw [List.map_id'] at this
  have := o.n
  omega
theorem WOk.split {T : Sto} {ws : List (List Nat)} (o : WOk ws) : oSplit T (.str (tx (TL.joinL [32] ws))) (.str " ") = some (.lst (lnsD ws)) := by
  rw [lit1]
  exact split_tx (by decide) o.ne (fun w hw => (o.free w hw).1) o.sum
section
variable {T : Sto} {P : D → Sto → Prop} {Q : Sto → Prop}
theorem calling_bad {ws : List (List Nat)} (hl : ∀ w ∈ ws, w.length ≤ 1000) (hn : ws.length ≤ 1000) (hb : callBad ws = true) (q : Q T) : Ex (f_read_calling [.lst (lnsD ws)] T) "NoText" Q := by
  unfold f_read_calling d_read_calling
  cases ws with
  | nil =>
    have e0 : oEqE T (.lst (lnsD [])) (.lst []) = some (.bl true) := rfl
    refine ex_fun (ex_seq1 (ex_if ?_))
    simp_arith [e0]
    exact ex_raise q
  | cons w r =>
    have e0 : oEqE T (.lst (lnsD (w :: r))) (.lst []) = some (.bl false) := rfl
    have e1 : oIx T (.lst (lnsD (w :: r))) (.int 0) = some (.str (tx w)) := by rw [lns_cons, ix_lstD, at_lit0]
    have hb : (!figsB w || r.any memBad) = true := hb
    refine ex_fun (ex_seq2 ?_)
    simp_arith [e0]
    refine ex_ret (ex_tup ?_)
    cases hf : figsB w with
    | false =>
      refine ex_cons1 (ex_callF ?_)
      simp_arith [e1]
      exact num_bad (hl w List.mem_cons_self) hf q
    | true =>
      rw [hf, Bool.not_true, Bool.false_or] at hb
      refine ex_cons2 ?_
      simp_arith [e1]
      refine num_good hf fun i => ?_
      refine ex_cons1 (ex_callF ?_)
      have e2 : cutD (lnsD (w :: r)) (some 1) none = lnsD r := by rw [lns_cons, cut_tail]
      simp_arith [e2]
      rw [List.length_cons] at hn
      exact mems_bad (fun x hx => hl x (List.mem_cons_of_mem _ hx)) (by omega) hb q
theorem deed_bad {ws : List (List Nat)} (o : WOk ws) (hb : deedBad ws = true) (q : Q T) : Ex (f_read_deed [.str (tx (TL.joinL [32] ws))] T) "NoText" Q := by
  have sp := o.split (T := T)
  have wl : ∀ w ∈ ws, w.length ≤ 1000 := fun w hw => by have := o.len w hw; omega
  have wn := o.n
  cases ws with
  | nil => exact absurd rfl o.ne
  | cons w r =>
  unfold f_read_deed d_read_deed
  have fin : (∀ j c, j < T.length → T[j]? = some c → T[j]? = some c ∨ ltC T.length c = true) ∧ Q (T.take T.length) := ⟨fun j c _ e => .inl e, by rw [List.take_length]; exact q⟩
  refine ex_frz (ex_fun (ex_seq2 ?_))
  simp_arith [sp]
  have e1 : oIx T (.lst (lnsD (w :: r))) (.int 0) = some (.str (tx w)) := by rw [lns_cons, ix_lstD, at_lit0]
  have e2 : cutD (lnsD (w :: r)) (some 1) none = lnsD r := by rw [lns_cons, cut_tail]
  have ln : (lnsD (w :: r)).length = r.length + 1 := by rw [lns_len, List.length_cons]
  have i4 : oIn false T (.str (tx w)) (.tup [.str "come", .str "go", .str "leave", .str "work"]) = some (.bl (decide (tx w ∈ (["come", "go", "leave", "work"] : List Str)))) := in_four
  have i2 : oIn false T (.str (tx w)) (.tup [.str "raise", .str "await"]) = some (.bl (decide (tx w ∈ (["raise", "await"] : List Str)))) := in_two
  unfold deedBad at hb
  dsimp only at hb
  by_cases b1 : tx w = "begin"
  · rw [if_pos b1] at hb
    refine ex_seq1 (ex_if ?_)
    simp_arith [e1, decide_eq_true b1]
    refine ex_ret (ex_bin2 ?_)
    simp_arith
    refine ex_callF ?_
    simp_arith [e2]
    exact calling_bad (fun x hx => wl x (List.mem_cons_of_mem _ hx)) (by rw [List.length_cons] at wn; omega) hb fin
  rw [if_neg b1] at hb
  refine ex_seq2 ?_
  simp_arith [e1, decide_eq_false b1]
  by_cases b2 : (decide (tx w = "say") && sayB r) = true
  · rw [if_pos b2] at hb
    cases hb
  rw [if_neg b2] at hb
  have say : ∀ {K : Bool → Sto → Prop}, K false T → Wp (bAnd (dTst (dBin oEq (dBin oIx (dVar 1) (dC (.int 0))) (dC (.str "say")))) (bAnd (dTst (dBin oEq (dCall oLen (aCons (dVar 1) aNil)) (dC (.int 2)))) (bAnd (dTst (dBin oNe (dBin oIx (dVar 1) (dC (.int 1))) (dC (.str "")))) (dTst (dCall oAll (aCons (dComp (iSeq (dBin oIx (dVar 1) (dC (.int 1)))) (gN 2) [2] bYes (dBin (oIn false) (dVar 2) (dC (.str "abcdefghijklmnopqrstuvwxyz")))) aNil))))) [some (.str (tx (TL.joinL [32] (w :: r)))), some (.lst (lnsD (w :: r))), none] T) K := fun {K} hK => by
    simp_arith [e1]
    by_cases s1 : tx w = "say"
    · rw [decide_eq_true s1, Bool.true_and] at b2
      simp_arith [decide_eq_true s1, ln]
      by_cases s2 : r.length = 1
      · obtain ⟨v, rfl⟩ : ∃ v, r = [v] := by
          cases r with
          | nil => cases s2
          | cons v r =>
            cases r with
            | nil => exact ⟨v, rfl⟩
            | cons _ _ => cases s2
        have e3 : atI (lnsD [w, v]) 1 = some (.str (tx v)) := by rw [show lnsD [w, v] = [.str (tx w), .str (tx v)] from rfl, at_lit1]
        have b2 : ¬ (!decide (v = []) && v.all fun c => decide (c ∈ cd LETS)) = true := b2
        have en : (tx v = ("" : Str)) = (v = []) := propext ⟨fun z => congrArg cd z, fun z => by rw [z]; rfl⟩
        simp_arith [e3, en]
        by_cases s3 : v = []
        · simp_arith [decide_eq_true s3]
          exact hK
        · rw [decide_eq_false s3, Bool.not_false, Bool.true_and] at b2
          simp_arith [decide_eq_false s3, e3]
          have vl := wl v (List.mem_cons_of_mem _ List.mem_cons_self)
          refine compGo_pure (fun d => match d with | .str y => .bl (match signOf y with | some c => decide (c ∈ cd LETS) | none => false) | d => d) ?_ (fun d hd => ?_) ?_
          · unfold signs
            rw [List.length_map]
            show v.length ≤ _
            rw [sizeLine_eq]; omega
          · unfold signs at hd
            obtain ⟨c, hc, e⟩ := List.mem_map.mp hd
            subst e
            refine ⟨_, rfl, ?_⟩
            have e1 : oIn false T (.str ⟨#[c]⟩) (.str "abcdefghijklmnopqrstuvwxyz") = some (.bl (decide (c ∈ cd LETS))) := by
              refine (orO_none rfl).trans ((orO_none rfl).trans ?_)
              show some (D.bl (false ^^ decide (c ∈ LETS.cps.toList))) = _
              rw [Bool.false_xor]
            simp_arith [e1]
            rfl
          · have e2 : (signs (tx v)).map (fun d => match d with | .str y => .bl (match signOf y with | some c => decide (c ∈ cd LETS) | none => false) | d => d) = v.map fun c => D.bl (decide (c ∈ cd LETS)) := by
              unfold signs
              rw [List.map_map]
              rfl
            rw [e2]
            simp_arith [all_lst]
            rw [Bool.not_eq_true] at b2
            rw [b2]
            exact hK
      · simp_arith [decide_eq_false (show ¬ ((r.length + 1 : Nat) : Int) = 2 by omega)]
        exact hK
    · simp_arith [decide_eq_false s1]
      exact hK
  refine ex_seq2 ?_
  rw [w_If]
  refine say ?_
  simp_arith
  by_cases b3 : (decide (tx w ∈ (["raise", "await"] : List Str)) && decide (r.length = 2)) = true
  · rw [if_pos b3] at hb
    rw [Bool.and_eq_true, decide_eq_true_iff, decide_eq_true_iff] at b3
    obtain ⟨a, c, rfl⟩ : ∃ a c, r = [a, c] := by
      cases r with
      | nil => cases b3.2
      | cons a r =>
        cases r with
        | nil => cases b3.2
        | cons c r =>
          cases r with
          | nil => exact ⟨a, c, rfl⟩
          | cons _ _ => cases b3.2
    have ew : lnsD [w, a, c] = [.str (tx w), .str (tx a), .str (tx c)] := rfl
    have la := wl a (List.mem_cons_of_mem _ List.mem_cons_self)
    have lc := wl c (List.mem_cons_of_mem _ (List.mem_cons_of_mem _ List.mem_cons_self))
    refine ex_seq1 (ex_if ?_)
    simp_arith [ew, i2, decide_eq_true b3.1]
    refine ex_ret (ex_tup (ex_cons2 ?_))
    simp_arith
    have hb : (!figsB a || (!figsB c || false)) = true := hb
    cases hf : figsB a with
    | false =>
      refine ex_cons1 (ex_callF ?_)
      simp_arith
      exact num_bad la hf fin
    | true =>
      rw [hf, Bool.not_true, Bool.false_or, Bool.or_false, Bool.not_eq_true'] at hb
      refine ex_cons2 ?_
      simp_arith
      refine num_good hf fun i => ?_
      refine ex_cons1 (ex_callF ?_)
      simp_arith
      exact num_bad lc hb fin
  rw [if_neg b3] at hb
  have b3' : (decide (tx w ∈ (["raise", "await"] : List Str)) && decide (r.length = 2)) = false := by rw [Bool.not_eq_true] at b3; exact b3
  have two : ∀ {K : Bool → Sto → Prop}, K false T → Wp (bAnd (dTst (dBin (oIn false) (dBin oIx (dVar 1) (dC (.int 0))) (dTup (aCons (dC (.str "raise")) (aCons (dC (.str "await")) aNil))))) (dTst (dBin oEq (dCall oLen (aCons (dVar 1) aNil)) (dC (.int 3)))) [some (.str (tx (TL.joinL [32] (w :: r)))), some (.lst (lnsD (w :: r))), none] T) K := fun {K} hK => by
    simp_arith [e1, i2]
    by_cases s1 : tx w ∈ (["raise", "await"] : List Str)
    · rw [decide_eq_true s1, Bool.true_and] at b3'
      have := of_decide_eq_false b3'
      simp_arith [decide_eq_true s1, ln, decide_eq_false (show ¬ ((r.length + 1 : Nat) : Int) = 3 by omega)]
      exact hK
    · simp_arith [decide_eq_false s1]
      exact hK
  refine ex_seq2 ?_
  rw [w_If]
  refine two ?_
  simp_arith
  by_cases b4 : (decide (tx w ∈ (["come", "go", "leave", "work"] : List Str)) && decide (r.length = 1)) = true
  · rw [if_pos b4] at hb
    rw [Bool.and_eq_true, decide_eq_true_iff, decide_eq_true_iff] at b4
    obtain ⟨a, rfl⟩ : ∃ a, r = [a] := by
      cases r with
      | nil => cases b4.2
      | cons a r =>
        cases r with
        | nil => exact ⟨a, rfl⟩
        | cons _ _ => cases b4.2
    have ew : lnsD [w, a] = [.str (tx w), .str (tx a)] := rfl
    have la := wl a (List.mem_cons_of_mem _ List.mem_cons_self)
    have hb : (!figsB a || false) = true := hb
    rw [Bool.or_false, Bool.not_eq_true'] at hb
    refine ex_seq1 (ex_if ?_)
    simp_arith [ew, i4, decide_eq_true b4.1]
    refine ex_ret (ex_tup (ex_cons2 ?_))
    simp_arith
    refine ex_cons1 (ex_callF ?_)
    simp_arith
    exact num_bad la hb fin
  have b4' : (decide (tx w ∈ (["come", "go", "leave", "work"] : List Str)) && decide (r.length = 1)) = false := by rw [Bool.not_eq_true] at b4; exact b4
  have one : ∀ {K : Bool → Sto → Prop}, K false T → Wp (bAnd (dTst (dBin (oIn false) (dBin oIx (dVar 1) (dC (.int 0))) (dTup (aCons (dC (.str "come")) (aCons (dC (.str "go")) (aCons (dC (.str "leave")) (aCons (dC (.str "work")) aNil))))))) (dTst (dBin oEq (dCall oLen (aCons (dVar 1) aNil)) (dC (.int 2)))) [some (.str (tx (TL.joinL [32] (w :: r)))), some (.lst (lnsD (w :: r))), none] T) K := fun {K} hK => by
    simp_arith [e1, i4]
    by_cases s1 : tx w ∈ (["come", "go", "leave", "work"] : List Str)
    · rw [decide_eq_true s1, Bool.true_and] at b4'
      have := of_decide_eq_false b4'
      simp_arith [decide_eq_true s1, ln, decide_eq_false (show ¬ ((r.length + 1 : Nat) : Int) = 2 by omega)]
      exact hK
    · simp_arith [decide_eq_false s1]
      exact hK
  refine ex_seq2 ?_
  rw [w_If]
  refine one ?_
  simp_arith
  exact ex_raise fin
theorem head_bad {ws : List (List Nat)} (o : WOk ws) (hb : headBad ws = true) (q : Q T) : Ex (f_read_head [.str (tx (TL.joinL [32] ws))] T) "NoText" Q := by
  have sp := o.split (T := T)
  have wl : ∀ w ∈ ws, w.length ≤ 1000 := fun w hw => by have := o.len w hw; omega
  unfold f_read_head d_read_head
  refine ex_fun (ex_seq2 ?_)
  simp_arith [sp]
  have ln := lns_len ws
  by_cases h4 : ws.length = 4
  · obtain ⟨a, b, c, d, rfl⟩ : ∃ a b c d, ws = [a, b, c, d] := by
      match ws, h4 with
      | [a, b, c, d], _ => exact ⟨a, b, c, d, rfl⟩
    have ew : lnsD [a, b, c, d] = [.str (tx a), .str (tx b), .str (tx c), .str (tx d)] := rfl
    have hb : (!(decide (tx a = "BOXES") && decide (tx c = "WALLS")) || !figsB b || !figsB d) = true := hb
    by_cases s1 : tx a = "BOXES"
    · by_cases s2 : tx c = "WALLS"
      · rw [decide_eq_true s1, decide_eq_true s2] at hb
        have hb : (false || !figsB b || !figsB d) = true := hb
        rw [Bool.false_or] at hb
        refine ex_seq2 ?_
        simp_arith [ew, decide_eq_true s1, decide_eq_true s2]
        refine ex_ret (ex_tup ?_)
        cases hf : figsB b with
        | false =>
          refine ex_cons1 (ex_callF ?_)
          simp_arith
          exact num_bad (wl b (by simp)) hf q
        | true =>
          rw [hf, Bool.not_true, Bool.false_or, Bool.not_eq_true'] at hb
          refine ex_cons2 ?_
          simp_arith
          refine num_good hf fun i => ?_
          refine ex_cons1 (ex_callF ?_)
          simp_arith
          exact num_bad (wl d (by simp)) hb q
      · refine ex_seq1 (ex_if ?_)
        simp_arith [ew, decide_eq_true s1, decide_eq_false s2]
        exact ex_raise q
    · refine ex_seq1 (ex_if ?_)
      simp_arith [ew, decide_eq_false s1]
      exact ex_raise q
  · refine ex_seq1 (ex_if ?_)
    simp_arith [ln, decide_eq_false (show ¬ ((ws.length : Nat) : Int) = 4 by omega)]
    exact ex_raise q
end

end G
namespace G
/-! ### a house read -/
noncomputable abbrev readT : DE := (dTup (aCons (dVar 2) (aCons (dVar 3) (aCons (dCall oTuple (aCons (dVar 5) aNil)) (aCons (dCall oTuple (aCons (dCompC (dVar 4) (gN 8) [8] bYes (dCall oTuple (aCons (dVar 8) aNil))) aNil)) aNil)))))
section
variable {T : Sto} {P : D → Sto → Prop} {Q : Sto → Prop}
theorem text_split {L : List (List Nat)} (hne : L ≠ []) (h10 : ∀ l ∈ L, 10 ∉ l) (hs : (L.map List.length).sum + L.length * 1 ≤ 100000) : oSplit T (.str (tx (TL.joinL [10] L))) (.str "\n") = some (.lst (lnsD L)) := by
  rw [lit6]
  exact split_tx (by decide) hne h10 hs
theorem RS.fin {h : HH} {U : Sto} {done : List (List Hd)} {left : List Hd} {sl : List (List Hd)} {fd fl : List Call} {as : List Nat} (R : RS h T U done left sl fd fl as) (e : leftL left sl fl = []) : RS h T U h.ss [] [] h.fs [] as ∧ fd = h.fs := by
  have z := congrArg List.length e
  unfold leftL at z
  rw [List.length_append, List.length_append, List.length_map, List.length_map, List.length_flatMap] at z
  have z : _ = 0 := z
  have l0 : left = [] := List.length_eq_zero_iff.mp (by omega)
  have f0 : fl = [] := List.length_eq_zero_iff.mp (by omega)
  have s0 : sl = [] := by
    cases sl with
    | nil => rfl
    | cons s sl =>
      rw [List.map_cons, List.sum_cons] at z
      have : (scrL s).length = s.length + 1 := by unfold scrL; rw [List.length_cons, List.length_map]
      omega
  subst l0 f0 s0
  have ef := R.ef
  rw [List.append_nil] at ef
  have es : done = h.ss := by
    rcases R.sp with ⟨q1, _, q3⟩ | ⟨d0, dl, q1, q2⟩
    · rw [q1, q3]
    · rw [q1, q2, List.append_nil]
  subst ef es
  exact ⟨R, rfl⟩
theorem read_loop {h : HH} {x0 x1 x2 x3 e6 : Option D} {PF : Fl × Ev → Sto → Prop} (t : HT' h) (fn : h.Fn) (k : ∀ U as e6, RS h T U h.ss [] [] h.fs [] as → PF (.nx, [x0, x1, x2, x3, some (.ref T.length), some (.ref (T.length + 1)), e6, none, none]) U) :
    Wp (forGo (gN 6) readB (lnsD (h.ss.flatMap scrL ++ h.fs.map firstL)) [x0, x1, x2, x3, some (.ref T.length), some (.ref (T.length + 1)), e6, none, none] (T ++ [Cell.lst []] ++ [Cell.lst []])) PF := by
  refine forGo_wp (fun rest env U => ∃ (done : List (List Hd)) (left : List Hd) (sl : List (List Hd)) (fd fl : List Call) (as : List Nat) (e6 : Option D), rest = lnsD (leftL left sl fl) ∧ env = [x0, x1, x2, x3, some (.ref T.length), some (.ref (T.length + 1)), e6, none, none] ∧ RS h T U done left sl fd fl as) _ _ _
    ⟨[], [], h.ss, [], h.fs, [], _, rfl, rfl, RS.start h⟩ (fun d rest env U hI => ?_) fun env U hI => ?_
  · obtain ⟨done, left, sl, fd, fl, as, e6, er, e, R⟩ := hI
    subst e
    cases hg : leftL left sl fl with
    | nil => rw [hg] at er; cases er
    | cons g gs =>
      rw [hg] at er
      obtain ⟨ed, er2⟩ := List.cons.inj er
      subst ed
      refine ⟨_, rfl, ?_⟩
      refine rstep t fn R hg fun V done' left' sl' fd' fl' as' eg R' => ?_
      exact ⟨done', left', sl', fd', fl', as', _, by rw [er2, eg] <;> rfl, rfl, R'⟩
  · obtain ⟨done, left, sl, fd, fl, as, e6, er, e, R⟩ := hI
    subst e
    have hg : leftL left sl fl = [] := by
      cases hg : leftL left sl fl with
      | nil => rfl
      | cons g gs => rw [hg] at er; cases er
    exact k U as _ (R.fin hg).1
theorem read_tup {h : HH} {U : Sto} {as : List Nat} {x0 x1 e6 e7 e8 : Option D} (t : HT' h) (R : RS h T U h.ss [] [] h.fs [] as) (k : P h.d U) : Wp (readT [x0, x1, some (.int (h.b : Int)), some (.int (h.w : Int)), some (.ref T.length), some (.ref (T.length + 1)), e6, e7, e8] U) P := by
  obtain ⟨sp, ef, hfd, hU, hF, asl, cells, nd, ge, own, Ul⟩ := R
  have hsl := t.ss
  unfold readT
  simp_arith [tuple_ref hF]
  refine wp_compC (n := T.length) (ds := as.map D.ref) (fun _ => true) (fun d => match d with | .ref a => (match U[a]? with | some (.lst ds) => .tup ds | _ => .non) | d => d) rfl hU (by rw [List.length_map, asl, sizeLine_eq]; omega) (fun d hd => ?_) ?_
  · obtain ⟨a, ha, e⟩ := List.mem_map.mp hd
    subst e
    obtain ⟨j, hj⟩ := List.mem_iff_getElem?.mp ha
    have hjl := (List.getElem?_eq_some_iff.mp hj).1
    have hc := cells j _ a (List.getElem?_eq_getElem (by omega)) hj
    refine ⟨_, rfl, ?_, fun _ => ?_⟩
    · simp_arith
    · simp_arith [tuple_ref hc]
      rw [hc]
  have ed : ((as.map D.ref).filter fun _ => true).map (fun d => match d with | .ref a => (match U[a]? with | some (.lst ds) => D.tup ds | _ => .non) | d => d) = h.ss.map hsD := by
    rw [List.filter_eq_self.mpr (fun _ _ => rfl), List.map_map]
    refine List.ext_getElem? fun j => ?_
    rw [List.getElem?_map, List.getElem?_map]
    by_cases hj : j < h.ss.length
    · have ha := List.getElem?_eq_getElem (show j < as.length by omega)
      have hs := List.getElem?_eq_getElem hj
      have hc := cells j _ _ hs ha
      rw [ha, hs]
      show some (match U[as[j]]? with | some (.lst ds) => D.tup ds | _ => .non) = _
      rw [hc] <;> rfl
    · rw [List.getElem?_eq_none (by omega), List.getElem?_eq_none (by omega)] <;> rfl
  rw [ed]
  simp_arith
  exact k
theorem head_line {h : HH} : lnsD (linesL h) = .str (tx (TL.joinL [32] (headW h.b h.w))) :: lnsD (h.ss.flatMap scrL ++ h.fs.map firstL) := rfl
theorem readhouse_wp {h : HH} (t : HT' h) (fn : h.Fn) (is : ∀ (S : Sto) (P : D → Sto → Prop), P (.bl true) S → Wp (f_is_house [h.d] S) P) (k : P h.d T) : Wp (f_read_house [.str (tx (textL h))] T) P := by
  unfold f_read_house d_read_house
  refine wp_frz ?_
  have hsp : oSplit T (.str (tx (textL h))) (.str "\n") = some (.lst (lnsD (linesL h))) := text_split (List.cons_ne_nil _ _) (lines_free t) (text_small t)
  have e1 : oIx T (.lst (D.str (tx (TL.joinL [32] (headW h.b h.w))) :: lnsD (h.ss.flatMap scrL ++ h.fs.map firstL))) (.int 0) = some (.str (tx (TL.joinL [32] (headW h.b h.w)))) := by rw [ix_lstD, at_lit0]
  have hL : (T ++ [Cell.lst []]).length = T.length + 1 := by rw [List.length_append]; rfl
  simp_arith [hsp, head_line, e1]
  refine readhead_wp t.b t.w ?_
  simp_arith [hL, cut_tail]
  refine read_loop t fn fun U as e6 R => ?_
  simp only [k_Seqn, w_Seq, w_Set]
  refine read_tup t R ?_
  simp_arith
  refine is _ _ ?_
  simp_arith
  exact fin_plt (plt_h (n := 0) fn) R.own k
theorem own_fin {U : Sto} (o : Own T U) (q : Q T) : (∀ j c, j < T.length → U[j]? = some c → T[j]? = some c ∨ ltC T.length c = true) ∧ Q (U.take T.length) := by
  obtain ⟨l, e⟩ := o
  refine ⟨fun j c hj e2 => .inl (by rw [e, List.getElem?_append_left hj] at e2; exact e2), ?_⟩
  rw [e, List.take_left]
  exact q
theorem readhouse_no {h : HH} (t : HT' h) (fn : h.Fn) (is : ∀ (S : Sto) (P : D → Sto → Prop), P (.bl false) S → Wp (f_is_house [h.d] S) P) (q : Q T) : Ex (f_read_house [.str (tx (textL h))] T) "NoHouse" Q := by
  unfold f_read_house d_read_house
  have hsp : oSplit T (.str (tx (textL h))) (.str "\n") = some (.lst (lnsD (linesL h))) := text_split (List.cons_ne_nil _ _) (lines_free t) (text_small t)
  have e1 : oIx T (.lst (D.str (tx (TL.joinL [32] (headW h.b h.w))) :: lnsD (h.ss.flatMap scrL ++ h.fs.map firstL))) (.int 0) = some (.str (tx (TL.joinL [32] (headW h.b h.w)))) := by rw [ix_lstD, at_lit0]
  have hL : (T ++ [Cell.lst []]).length = T.length + 1 := by rw [List.length_append]; rfl
  refine ex_frz (ex_fun (ex_seq2 ?_))
  simp_arith [hsp, head_line]
  refine ex_seq2 ?_
  simp_arith [e1]
  refine readhead_wp t.b t.w ?_
  simp_arith
  refine ex_seq2 ?_
  simp_arith
  refine ex_seq2 ?_
  simp_arith [hL]
  refine ex_seq2 ?_
  simp_arith [cut_tail]
  refine read_loop t fn fun U as e6 R => ⟨rfl, ?_⟩
  refine ex_seq2 ?_
  simp only [w_Set]
  refine read_tup t R ?_
  simp_arith
  refine ex_seq1 (ex_if ?_)
  simp_arith
  refine is _ _ ?_
  simp_arith
  exact ex_raise (own_fin R.own q)
end

end G
namespace G
/-! ### a text with a line that can't be read -/
def notFirst (l : List Nat) : Bool := !decide (tx (l.take 6) = ("FIRST " : Str))
def lineBad (ws : List (List Nat)) : Bool := if tx ((TL.joinL [32] ws).take 6) = ("FIRST " : Str) then callBad (ws.drop 1) else (!decide (tx (TL.joinL [32] ws) = ("SCRIPT" : Str))) && deedBad ws
def BadAt (h : HH) (k : Nat) (ws : List (List Nat)) : Prop := lineBad ws = true ∨ (notFirst (TL.joinL [32] ws) = true ∧ ((k = 1 ∧ tx (TL.joinL [32] ws) ≠ "SCRIPT") ∨ (k = (linesL h).length ∧ h.fs ≠ [])))
section
variable {T : Sto} {P : D → Sto → Prop} {Q : Sto → Prop}
theorem WOk.line {ws : List (List Nat)} (o : WOk ws) : (TL.joinL [32] ws).length ≤ 30000 := by
  have h1 := join_len [32] ws
  have h2 := flat_le (fun l : List Nat => l) 200 ws o.len
  rw [List.map_id'] at h2
  have h3 := o.n
  have e : [32].length = 1 := rfl
  rw [e] at h1
  omega
theorem sl6' {l : List Nat} (h : l.length ≤ 30000) : oSlS T (.str (tx l)) none (some 6) = some (.str (tx (l.take 6))) := by
  show (if (tx l).length ≤ sizeLine then some (D.str (Txt.slice (tx l) none (some 6))) else none) = _
  rw [if_pos (by rw [tx_len, sizeLine_eq]; omega), show Txt.slice (tx l) none (some 6) = tx (l.take 6) from SX.slice_to (by decide)]
theorem bad_step {h : HH} {U : Sto} {done : List (List Hd)} {left : List Hd} {sl : List (List Hd)} {fd fl : List Call} {as : List Nat} {x0 x1 x2 x3 e7 e8 : Option D} {ws : List (List Nat)} (t : HT' h) (R : RS h T U done left sl fd fl as) (o : WOk ws)
    (hb : lineBad ws = true ∨ (notFirst (TL.joinL [32] ws) = true ∧ ((as = [] ∧ tx (TL.joinL [32] ws) ≠ "SCRIPT") ∨ fd ≠ []))) (q : Q U) : Ex (readB [x0, x1, x2, x3, some (.ref T.length), some (.ref (T.length + 1)), some (.str (tx (TL.joinL [32] ws))), e7, e8] U) "NoText" Q := by
  obtain ⟨sp, ef, hfd, hU, hF, asl, cells, nd, ge, own, Ul⟩ := R
  have s6 := sl6' (T := U) o.line
  obtain ⟨w, r, ew⟩ : ∃ w r, ws = w :: r := List.exists_cons_of_ne_nil o.ne
  have ws1 := o.split (T := U)
  have wl : ∀ x ∈ ws, x.length ≤ 1000 := fun x hx => by have := o.len x hx; omega
  have wn := o.n
  unfold readB
  refine ex_if ?_
  simp_arith [s6]
  by_cases f : tx ((TL.joinL [32] ws).take 6) = ("FIRST " : Str)
  · have hc : callBad r = true := by
      rcases hb with z | ⟨z, _⟩
      · unfold lineBad at z
        rw [if_pos f, ew] at z
        exact z
      · unfold notFirst at z
        rw [decide_eq_true f] at z
        cases z
    simp only [decide_eq_true f, if_true]
    refine ex_expr (ex_app ?_)
    simp_arith
    refine ⟨by rw [lst_ref hF]; rfl, ?_⟩
    refine ex_callF ?_
    have e2 : cutD (lnsD ws) (some 1) none = lnsD r := by rw [ew, lns_cons, cut_tail]
    simp_arith [ws1, e2]
    rw [ew, List.length_cons] at wn
    exact calling_bad (fun x hx => wl x (by rw [ew]; exact List.mem_cons_of_mem _ hx)) (by omega) hc q
  simp only [decide_eq_false f, Bool.false_eq_true, if_false]
  have n1 : oNeE U (.ref (T.length + 1)) (.lst []) = some (.bl (!(fd.map callD).isEmpty)) := by
    unfold oNeE
    rw [list_ref hF]
  have n2 : oEqE U (.ref T.length) (.lst []) = some (.bl (as.map D.ref).isEmpty) := by
    unfold oEqE
    rw [list_ref hU]
  by_cases hfd0 : fd = []
  · subst hfd0
    have ns : tx (TL.joinL [32] ws) ≠ ("SCRIPT" : Str) := by
      rcases hb with z | ⟨_, z | z⟩
      · unfold lineBad at z
        rw [if_neg f, Bool.and_eq_true, Bool.not_eq_true'] at z
        exact of_decide_eq_false z.1
      · exact z.2
      · exact absurd rfl z
    refine ex_if ?_
    simp_arith [n1, List.map_nil, List.isEmpty_nil]
    refine ex_if ?_
    simp_arith [decide_eq_false ns]
    refine ex_if ?_
    simp_arith [n2]
    rcases List.eq_nil_or_concat as with z | ⟨a0, al, z⟩
    · subst z
      rw [if_pos (show (([] : List Nat).map D.ref).isEmpty = true from rfl)]
      exact ex_raise q
    · rw [List.concat_eq_append] at z
      subst z
      have hd : deedBad ws = true := by
        rcases hb with z | ⟨_, z | z⟩
        · unfold lineBad at z
          rw [if_neg f, Bool.and_eq_true] at z
          exact z.2
        · have := congrArg List.length z.1
          rw [List.length_append] at this
          cases this
        · exact absurd rfl z
      have e0 : ((a0 ++ [al]).map D.ref).isEmpty = false := by cases a0 <;> rfl
      have n3 : oIx U (.ref T.length) (.int (-1)) = some (.ref al) := by
        rw [ix_refD hU, List.map_append]
        exact last_at
      obtain ⟨s, hs⟩ : ∃ s, done[a0.length]? = some s := ⟨_, List.getElem?_eq_getElem (by rw [← asl, List.length_append]; exact Nat.lt_succ_self _)⟩
      have hal : U[al]? = some (.lst (s.map Hd.d)) := cells a0.length s al hs (by rw [List.getElem?_append_right (Nat.le_refl _), Nat.sub_self]; rfl)
      rw [e0]
      simp only [Bool.false_eq_true, if_false]
      refine ex_expr (ex_app ?_)
      simp_arith [n3]
      refine ⟨by rw [lst_ref hal]; rfl, ?_⟩
      refine ex_callF ?_
      simp_arith
      exact deed_bad o hd q
  · have e0 : (fd.map callD).isEmpty = false := by
      cases fd with
      | nil => exact absurd rfl hfd0
      | cons _ _ => rfl
    refine ex_if ?_
    simp_arith [n1, e0]
    exact ex_raise q
theorem readhouse_bad {h : HH} {k : Nat} {ws more : List (List Nat)} (t : HT' h) (fn : h.Fn) (hk1 : 1 ≤ k) (hk : k ≤ (linesL h).length) (o : WOk ws) (hb : BadAt h k ws) (h10 : ∀ l ∈ (linesL h).take k ++ TL.joinL [32] ws :: more, 10 ∉ l)
    (hs : (((linesL h).take k ++ TL.joinL [32] ws :: more).map List.length).sum + ((linesL h).take k ++ TL.joinL [32] ws :: more).length * 1 ≤ 100000) (q : Q T) : Ex (f_read_house [.str (tx (TL.joinL [10] ((linesL h).take k ++ TL.joinL [32] ws :: more)))] T) "NoText" Q := by
  obtain ⟨j, rfl⟩ : ∃ j, k = j + 1 := ⟨k - 1, by omega⟩
  have eL : (linesL h).take (j + 1) ++ TL.joinL [32] ws :: more = TL.joinL [32] (headW h.b h.w) :: ((h.ss.flatMap scrL ++ h.fs.map firstL).take j ++ TL.joinL [32] ws :: more) := rfl
  have ll : (linesL h).length = (h.ss.flatMap scrL ++ h.fs.map firstL).length + 1 := rfl
  rw [eL] at h10 hs ⊢
  have hsp := text_split (T := T) (List.cons_ne_nil _ _) h10 hs
  generalize hR : h.ss.flatMap scrL ++ h.fs.map firstL = R0 at *
  have e1 : oIx T (.lst (D.str (tx (TL.joinL [32] (headW h.b h.w))) :: lnsD (R0.take j ++ TL.joinL [32] ws :: more))) (.int 0) = some (.str (tx (TL.joinL [32] (headW h.b h.w)))) := by rw [ix_lstD, at_lit0]
  have hL : (T ++ [Cell.lst []]).length = T.length + 1 := by rw [List.length_append]; rfl
  unfold f_read_house d_read_house
  refine ex_frz (ex_fun (ex_seq2 ?_))
  simp_arith [hsp, lns_cons]
  refine ex_seq2 ?_
  simp_arith [e1]
  refine readhead_wp t.b t.w ?_
  simp_arith
  refine ex_seq2 ?_
  simp_arith
  refine ex_seq2 ?_
  simp_arith [hL]
  refine ex_seq1 (ex_for ?_)
  simp_arith [cut_tail]
  refine ex_forGo (fun rest env U => ∃ (done : List (List Hd)) (left : List Hd) (sl : List (List Hd)) (fd fl : List Call) (as : List Nat) (gl tl : List (List Nat)) (x0 x1 x2 x3 e6 : Option D), rest = lnsD (gl ++ TL.joinL [32] ws :: more) ∧ leftL left sl fl = gl ++ tl ∧ env = [x0, x1, x2, x3, some (.ref T.length), some (.ref (T.length + 1)), e6, none, none] ∧ RS h T U done left sl fd fl as ∧ (j = 0 → gl = [] ∧ as = []) ∧ (j = R0.length → tl = [])) _ _ _
    ⟨[], [], h.ss, [], h.fs, [], R0.take j, R0.drop j, _, _, _, _, _, rfl, by rw [List.take_append_drop]; exact hR, rfl, RS.start h, fun z => by rw [z]; exact ⟨rfl, rfl⟩, fun z => by rw [z, List.drop_length]⟩ (fun d rest env U hI => ?_) fun env U hI => ?_
  · obtain ⟨done, left, sl, fd, fl, as, gl, tl, x0, x1, x2, x3, e6, er, eg, e, R, j0, jl⟩ := hI
    subst e
    cases gl with
    | nil =>
      obtain ⟨ed, _⟩ := List.cons.inj er
      subst ed
      refine ⟨_, rfl, .inl ?_⟩
      refine bad_step t R o ?_ (own_fin R.own q)
      rcases hb with z | ⟨z1, z | z⟩
      · exact .inl z
      · exact .inr ⟨z1, .inl ⟨(j0 (by omega)).2, z.2⟩⟩
      · refine .inr ⟨z1, .inr ?_⟩
        have tl0 := jl (by have := z.1; omega)
        subst tl0
        rw [(R.fin (by rw [eg]; rfl)).2]
        exact z.2
    | cons g gl =>
      obtain ⟨ed, er2⟩ := List.cons.inj er
      subst ed
      refine ⟨_, rfl, .inr ?_⟩
      refine rstep t fn R (gs := gl ++ tl) (by rw [eg]; rfl) fun V done' left' sl' fd' fl' as' eg' R' => ?_
      exact ⟨rfl, done', left', sl', fd', fl', as', gl, tl, _, _, _, _, _, er2, eg'.symm, rfl, R', (fun z => by cases (j0 z).1), jl⟩
  · obtain ⟨done, left, sl, fd, fl, as, gl, tl, x0, x1, x2, x3, e6, er, _⟩ := hI
    cases gl <;> cases er
theorem readhead_bad {ws more : List (List Nat)} (o : WOk ws) (hb : headBad ws = true) (h10 : ∀ l ∈ TL.joinL [32] ws :: more, 10 ∉ l) (hs : ((TL.joinL [32] ws :: more).map List.length).sum + (TL.joinL [32] ws :: more).length * 1 ≤ 100000) (q : Q T) : Ex (f_read_house [.str (tx (TL.joinL [10] (TL.joinL [32] ws :: more)))] T) "NoText" Q := by
  have hsp := text_split (T := T) (List.cons_ne_nil _ _) h10 hs
  have e1 : oIx T (.lst (D.str (tx (TL.joinL [32] ws)) :: lnsD more)) (.int 0) = some (.str (tx (TL.joinL [32] ws))) := by rw [ix_lstD, at_lit0]
  unfold f_read_house d_read_house
  refine ex_frz (ex_fun (ex_seq2 ?_))
  simp_arith [hsp, lns_cons]
  refine ex_seq1 (ex_asg (ex_callF ?_))
  simp_arith [e1]
  exact head_bad o hb (own_fin (Own.refl T) q)
end

end G
namespace G
/-! ### lines put otherwise -/
def FIXED : List Str := (["wait 0 1", "raise 0", "await 1", "come", "go 0 0", "leave", "work 1 2", "begin", "say", "say a b", "raise 0  1", "FIRST", "FIRST 0 0both", "FIRST 0 0:", "FIRST 0 :both", "raise 01 1", "raise 0 +1", "raise -1 1", "work 1.0", "work 9999999999999999999999999999999", "await 0 x", "BOXES 1 WALLS", "BOXES 1 WALLS 0 0", "BOXES 00 WALLS 0", "SCRIPT 0", "script", "work 1_0", "FIRST 0 0:each", "say Come", "say a1", "FIRST 0  0:both", "work", "work 0x1", "BOXES -0 WALLS 0", "Begin 1", "FIRST x"] : List String).map Str.ofString
def chkF (s : Str) : Bool := decide (TL.joinL [32] (TL.spl [32] 0 [] (cd s)) = cd s) && decide (TL.spl [32] 0 [] (cd s) ≠ []) && decide ((TL.spl [32] 0 [] (cd s)).length ≤ 100) && ((TL.spl [32] 0 [] (cd s)).all fun w => decide (w.length ≤ 200) && decide (32 ∉ w) && decide (10 ∉ w)) && lineBad (TL.spl [32] 0 [] (cd s)) && headBad (TL.spl [32] 0 [] (cd s)) && decide ((cd s).length ≤ 1000)
theorem all_fixed : ((("" : Str) :: FIXED).all chkF) = true := by decide +kernel
def lowL (l : List Nat) : List Nat := l.map PyProof.Rows.lo1
def WL (line : List Nat) : List (List Nat) := (line ++ [32]) :: (32 :: line) :: (lowL line ++ cd " 0 0") :: cd "" :: (line ++ cd " x") :: FIXED.map cd
def WB (zero : Bool) (x : List Nat) : Prop := x.length ≤ 1000 ∧ ∃ ws, x = TL.joinL [32] ws ∧ WOk ws ∧ (zero = true → headBad ws = true) ∧ (zero = false → lineBad ws = true)
theorem wb_fixed {s : Str} (h : s ∈ (("" : Str) :: FIXED)) (z : Bool) : WB z (cd s) := by
  have c := List.all_eq_true.mp all_fixed s h
  unfold chkF at c
  rw [Bool.and_eq_true, Bool.and_eq_true, Bool.and_eq_true, Bool.and_eq_true, Bool.and_eq_true, Bool.and_eq_true] at c
  obtain ⟨⟨⟨⟨⟨⟨c1, c2⟩, c3⟩, c4⟩, c5⟩, c6⟩, c7⟩ := c
  have c4 : ∀ w ∈ TL.spl [32] 0 [] (cd s), w.length ≤ 200 ∧ 32 ∉ w ∧ 10 ∉ w := fun w hw => by
    have := List.all_eq_true.mp c4 w hw
    rw [Bool.and_eq_true, Bool.and_eq_true] at this
    exact ⟨of_decide_eq_true this.1.1, of_decide_eq_true this.1.2, of_decide_eq_true this.2⟩
  exact ⟨of_decide_eq_true c7, _, (of_decide_eq_true c1).symm, ⟨of_decide_eq_true c2, of_decide_eq_true c3, fun w hw => (c4 w hw).1, fun w hw => (c4 w hw).2⟩, fun _ => c6, fun _ => c5⟩
inductive LineK : Bool → List (List Nat) → Prop
  | head (b w : Nat) (hb : b < 10 ^ 30) (hw : w < 10 ^ 30) : LineK true (headW b w)
  | scr : LineK false [cd "SCRIPT"]
  | deed (d : Hd) (h : DT d) : LineK false (deedW d)
  | first (c : Call) (h : c.1 < 10 ^ 30 ∧ MT c.2) : LineK false (firstW c)
theorem line_kind {h : HH} (t : HT' h) {at' : Nat} {line : List Nat} (e : (linesL h)[at']? = some line) : ∃ W, line = TL.joinL [32] W ∧ LineK (decide (at' = 0)) W := by
  cases at' with
  | zero =>
    cases e
    exact ⟨_, rfl, .head _ _ t.b t.w⟩
  | succ j =>
    have hm : line ∈ h.ss.flatMap scrL ++ h.fs.map firstL := List.mem_of_getElem? (show (h.ss.flatMap scrL ++ h.fs.map firstL)[j]? = some line from e)
    rw [decide_eq_false (Nat.succ_ne_zero j)]
    rcases List.mem_append.mp hm with q | q
    · obtain ⟨s, h1, h2⟩ := List.mem_flatMap.mp q
      rcases List.mem_cons.mp h2 with q | q
      · exact ⟨[cd "SCRIPT"], by rw [q]; rfl, .scr⟩
      · obtain ⟨d, hd, e⟩ := List.mem_map.mp q
        exact ⟨_, e.symm, .deed d (t.sd s h1 d hd)⟩
    · obtain ⟨c, hc, e⟩ := List.mem_map.mp q
      exact ⟨_, e.symm, .first c (t.fc c hc)⟩
theorem lo1_free {c : Nat} {l : List Nat} (hc : c < 65) (h : c ∉ l) : c ∉ lowL l := fun z => by
  obtain ⟨x, hx, e⟩ := List.mem_map.mp z
  unfold PyProof.Rows.lo1 at e
  split at e
  · omega
  · rw [e] at hx
    exact h hx
structure WK (W : List (List Nat)) : Prop where
  ne : W ≠ []
  n : W.length ≤ 20
  len : ∀ w ∈ W, w.length ≤ 150
  free : ∀ w ∈ W, 32 ∉ w ∧ 10 ∉ w
theorem deedW_small {d : Hd} (h : DT d) : (deedW d).length ≤ 20 ∧ ∀ w ∈ deedW d, w.length ≤ 150 := by
  have two : ∀ (x : Str) (a : List Nat), (cd x).length ≤ 150 → a.length ≤ 150 → ∀ w ∈ [cd x, a], w.length ≤ 150 := fun x a h1 h2 w hw => by
    simp only [List.mem_cons, List.not_mem_nil, or_false] at hw
    rcases hw with q | q <;> (rw [q]; assumption)
  have three : ∀ (x : Str) (a c : List Nat), (cd x).length ≤ 150 → a.length ≤ 150 → c.length ≤ 150 → ∀ w ∈ [cd x, a, c], w.length ≤ 150 := fun x a c h1 h2 h3 w hw => by
    simp only [List.mem_cons, List.not_mem_nil, or_false] at hw
    rcases hw with q | q | q <;> (rw [q]; assumption)
  have num : ∀ {k : Nat}, k < 10 ^ 30 → (TL.numL k).length ≤ 150 := fun {k} hk => by have := num_len hk; omega
  cases d with
  | rai b x => exact ⟨by show 3 ≤ 20; decide, three "raise" _ _ (by decide) (num h.1) (num h.2)⟩
  | awa b x => exact ⟨by show 3 ≤ 20; decide, three "await" _ _ (by decide) (num h.1) (num h.2)⟩
  | work x => exact ⟨by show 2 ≤ 20; decide, two "work" _ (by decide) (num h)⟩
  | com x => exact ⟨by show 2 ≤ 20; decide, two "come" _ (by decide) (num h)⟩
  | go x => exact ⟨by show 2 ≤ 20; decide, two "go" _ (by decide) (num h)⟩
  | lve x => exact ⟨by show 2 ≤ 20; decide, two "leave" _ (by decide) (num h)⟩
  | say v => exact ⟨by show 2 ≤ 20; decide, two "say" _ (by decide) (by rw [cd_len]; have := h.2.1; omega)⟩
  | beg i ms =>
    refine ⟨by show (ms.map mt).length + 1 + 1 ≤ 20; rw [List.length_map]; have := h.2.1; omega, fun w hw => ?_⟩
    rcases List.mem_cons.mp hw with q | q
    · rw [q]; decide
    rcases List.mem_cons.mp q with q | q
    · rw [q]; exact num h.1
    obtain ⟨p, hp, e⟩ := List.mem_map.mp q
    have := mt_len (h.2.2 p hp)
    rw [← e]
    omega
theorem LineK.wk {z : Bool} {W : List (List Nat)} (k : LineK z W) : WK W := by
  have num : ∀ {k : Nat}, k < 10 ^ 30 → (TL.numL k).length ≤ 150 := fun {k} hk => by have := num_len hk; omega
  cases k with
  | head b w hb hw =>
    refine ⟨List.cons_ne_nil _ _, by show 4 ≤ 20; decide, fun x hx => ?_, fun x hx => ⟨headW_free (by decide) x hx, headW_free (by decide) x hx⟩⟩
    unfold headW at hx
    simp only [List.mem_cons, List.not_mem_nil, or_false] at hx
    rcases hx with q | q | q | q
    · rw [q]; decide
    · rw [q]; exact num hb
    · rw [q]; decide
    · rw [q]; exact num hw
  | scr =>
    refine ⟨List.cons_ne_nil _ _, by show 1 ≤ 20; decide, fun x hx => ?_, fun x hx => ?_⟩
    · rw [List.mem_singleton.mp hx]; decide
    · rw [List.mem_singleton.mp hx]; decide
  | deed d h => exact ⟨by cases d <;> exact List.cons_ne_nil _ _, (deedW_small h).1, (deedW_small h).2, fun w hw => ⟨deedW_free h (by decide) w hw, deedW_free h (by decide) w hw⟩⟩
  | first c h =>
    refine ⟨List.cons_ne_nil _ _, by show (c.2.map mt).length + 1 + 1 ≤ 20; rw [List.length_map]; have := h.2.1; omega, fun w hw => ?_, fun w hw => ⟨firstW_free h (by decide) w hw, firstW_free h (by decide) w hw⟩⟩
    rcases List.mem_cons.mp hw with q | q
    · rw [q]; decide
    rcases List.mem_cons.mp q with q | q
    · rw [q]; exact num h.1
    obtain ⟨p, hp, e⟩ := List.mem_map.mp q
    have := mt_len (h.2.2 p hp)
    rw [← e]
    omega
theorem WK.sfx {W X : List (List Nat)} (o : WK W) (hX : X.length ≤ 5) (hl : ∀ w ∈ X, w.length ≤ 200) (hf : ∀ w ∈ X, 32 ∉ w ∧ 10 ∉ w) : WOk (W ++ X) := by
  refine ⟨fun z => o.ne (List.append_eq_nil_iff.mp z).1, by rw [List.length_append]; have := o.n; omega, fun w hw => ?_, fun w hw => ?_⟩
  · rcases List.mem_append.mp hw with q | q
    · have := o.len w q; omega
    · exact hl w q
  · rcases List.mem_append.mp hw with q | q
    · exact o.free w q
    · exact hf w q
theorem WK.pre {W : List (List Nat)} (o : WK W) : WOk ([] :: W) := by
  refine ⟨List.cons_ne_nil _ _, by rw [List.length_cons]; have := o.n; omega, fun w hw => ?_, fun w hw => ?_⟩
  · rcases List.mem_cons.mp hw with q | q
    · rw [q]; decide
    · have := o.len w q; omega
  · rcases List.mem_cons.mp hw with q | q
    · rw [q]; decide
    · exact o.free w q
theorem WK.low {W : List (List Nat)} (o : WK W) : WK (W.map lowL) := by
  refine ⟨fun z => o.ne (List.map_eq_nil_iff.mp z), by rw [List.length_map]; exact o.n, fun w hw => ?_, fun w hw => ?_⟩
  · obtain ⟨x, hx, e⟩ := List.mem_map.mp hw
    rw [← e]
    unfold lowL
    rw [List.length_map]
    exact o.len x hx
  · obtain ⟨x, hx, e⟩ := List.mem_map.mp hw
    rw [← e]
    exact ⟨lo1_free (by decide) (o.free x hx).1, lo1_free (by decide) (o.free x hx).2⟩
theorem join_app (s : List Nat) {W : List (List Nat)} (hW : W ≠ []) (X : List (List Nat)) : TL.joinL s (W ++ X) = TL.joinL s W ++ (X.map (s ++ ·)).flatten := by
  obtain ⟨w, r, rfl⟩ : ∃ w r, W = w :: r := List.exists_cons_of_ne_nil hW
  rw [List.cons_append, join_cons, join_cons, List.map_append, List.flatten_append, List.append_assoc]
theorem join_low : ∀ W : List (List Nat), lowL (TL.joinL [32] W) = TL.joinL [32] (W.map lowL)
  | [] => rfl
  | [x] => rfl
  | x :: y :: r => by
    show lowL (x ++ ([32] ++ TL.joinL [32] (y :: r))) = lowL x ++ ([32] ++ TL.joinL [32] ((y :: r).map lowL))
    rw [← join_low (y :: r)]
    unfold lowL
    rw [List.map_append, List.map_append]
    rfl
theorem deedBad_of {w : List Nat} {r : List (List Nat)} (h1 : tx w ≠ "begin") (h2 : (decide (tx w = "say") && sayB r) = false) (h3 : (decide (tx w ∈ (["raise", "await"] : List Str)) && decide (r.length = 2)) = false) (h4 : (decide (tx w ∈ (["come", "go", "leave", "work"] : List Str)) && decide (r.length = 1)) = false) : deedBad (w :: r) = true := by
  unfold deedBad
  dsimp only
  rw [if_neg h1, if_neg (by rw [h2]; exact Bool.false_ne_true), if_neg (by rw [h3]; exact Bool.false_ne_true), if_neg (by rw [h4]; exact Bool.false_ne_true)]
theorem sayB_long {r : List (List Nat)} (h : 2 ≤ r.length) : sayB r = false := by
  match r, h with
  | [], h => exact absurd h (by decide)
  | [_], h =>
    have h : 2 ≤ 1 := h
    omega
  | _ :: _ :: _, _ => rfl
theorem callBad_any {w : List Nat} {r : List (List Nat)} (h : r.any memBad = true) : callBad (w :: r) = true := by
  show (!figsB w || r.any memBad) = true
  rw [h, Bool.or_true]
theorem deed_more (d : Hd) (f : List Nat → List Nat) {X : List (List Nat)} (h1 : 1 ≤ X.length) (h2 : X.any memBad = true) : ∃ w ∈ DWORDS, ∃ tl, deedW d = cd w :: tl ∧ deedBad (cd w :: (tl.map f ++ X)) = true := by
  have len : ∀ tl : List (List Nat), (tl.map f ++ X).length = tl.length + X.length := fun tl => by rw [List.length_append, List.length_map]
  have no : ∀ {a : Bool} {k n : Nat}, k ≠ n → (a && decide (k = n)) = false := fun {a k n} h => by rw [decide_eq_false h, Bool.and_false]
  have th : ∀ (w : Str) (tl : List (List Nat)), tl.length = 2 → tx (cd w) ≠ "begin" → (decide (tx (cd w) = ("say" : Str))) = false → deedBad (cd w :: (tl.map f ++ X)) = true := fun w tl hl n1 n2 =>
    deedBad_of n1 (by rw [n2, Bool.false_and]) (no (by rw [len]; omega)) (no (by rw [len]; omega))
  have tw : ∀ (w : Str) (tl : List (List Nat)), tl.length = 1 → tx (cd w) ≠ "begin" → (decide (tx (cd w) ∈ (["raise", "await"] : List Str))) = false → deedBad (cd w :: (tl.map f ++ X)) = true := fun w tl hl n1 n2 =>
    deedBad_of n1 (by rw [sayB_long (by rw [len]; omega), Bool.and_false]) (by rw [n2, Bool.false_and]) (no (by rw [len]; omega))
  cases d with
  | rai b x => exact ⟨"raise", by decide, _, rfl, th _ _ rfl (by decide) (by decide)⟩
  | awa b x => exact ⟨"await", by decide, _, rfl, th _ _ rfl (by decide) (by decide)⟩
  | work x => exact ⟨"work", by decide, _, rfl, tw _ _ rfl (by decide) (by decide)⟩
  | com x => exact ⟨"come", by decide, _, rfl, tw _ _ rfl (by decide) (by decide)⟩
  | go x => exact ⟨"go", by decide, _, rfl, tw _ _ rfl (by decide) (by decide)⟩
  | lve x => exact ⟨"leave", by decide, _, rfl, tw _ _ rfl (by decide) (by decide)⟩
  | say v => exact ⟨"say", by decide, _, rfl, tw _ _ rfl (by decide) (by decide)⟩
  | beg i ms =>
    refine ⟨"begin", by decide, _, rfl, ?_⟩
    unfold deedBad
    dsimp only
    rw [if_pos (tx_cd _), List.map_cons, List.cons_append]
    exact callBad_any (by rw [List.any_append, h2, Bool.or_true])
theorem lineBad_word {ws : List (List Nat)} {c : Nat} {r : List Nat} (e : TL.joinL [32] ws = c :: r) (h1 : c ≠ 70) (h2 : c ≠ 83) (h : deedBad ws = true) : lineBad ws = true := by
  unfold lineBad
  rw [if_neg (fun z => by rw [not_first e h1] at z; exact z), h, Bool.and_true, decide_eq_false (fun z => by rw [not_script e h2] at z; exact z)] <;> rfl
theorem first_six (c : Call) (r : List Nat) : tx ((firstL c ++ r).take 6) = ("FIRST " : Str) := by
  have e : firstL c = cd "FIRST " ++ (TL.numL c.1 ++ memL c.2) := by
    unfold firstL firstW
    rw [mem_words, List.append_assoc]
    have : cd "FIRST " = cd "FIRST" ++ [32] := by decide
    rw [this]
  rw [e, List.append_assoc, List.take_append_of_le_length (by decide)]
  decide
/-- words behind the others -/
theorem sfx_bad {W X : List (List Nat)} (k : LineK false W) (h1 : 1 ≤ X.length) (h2 : X.any memBad = true) : lineBad (W ++ X) = true := by
  cases k with
  | scr =>
    have ej : TL.joinL [32] ([cd "SCRIPT"] ++ X) = cd "SCRIPT" ++ (X.map ([32] ++ ·)).flatten := join_app [32] (List.cons_ne_nil _ _) X
    have l0 : ((X.map ([32] ++ ·)).flatten).length ≠ 0 := by
      cases X with
      | nil => cases h1
      | cons x X =>
        rw [List.map_cons, List.flatten_cons, List.length_append, List.length_append]
        show 1 + _ + _ ≠ 0
        omega
    unfold lineBad
    rw [ej, List.take_append_of_le_length (by decide), if_neg (fun z => by rw [script_six] at z; exact z), decide_eq_false (fun z => l0 (by
      have := congrArg List.length (congrArg cd z)
      have : (cd "SCRIPT" ++ (X.map ([32] ++ ·)).flatten).length = (cd "SCRIPT").length := this
      rw [List.length_append] at this
      omega))]
    show deedBad (cd "SCRIPT" :: X) = true
    exact deedBad_of (by decide) (by rw [show decide (tx (cd "SCRIPT") = ("say" : Str)) = false by decide, Bool.false_and]) (by rw [show decide (tx (cd "SCRIPT") ∈ (["raise", "await"] : List Str)) = false by decide, Bool.false_and]) (by rw [show decide (tx (cd "SCRIPT") ∈ (["come", "go", "leave", "work"] : List Str)) = false by decide, Bool.false_and])
  | deed d h =>
    obtain ⟨w, hw, tl, e, hd⟩ := deed_more d id h1 h2
    obtain ⟨c, r, ec, hc⟩ := word_head w hw
    rw [List.map_id] at hd
    rw [e]
    refine lineBad_word (c := c) (r := r ++ ((tl ++ X).map ([32] ++ ·)).flatten) ?_ (by omega) (by omega) hd
    rw [List.cons_append, join_cons, ec] <;> rfl
  | first c h =>
    have ej : TL.joinL [32] (firstW c ++ X) = firstL c ++ (X.map ([32] ++ ·)).flatten := join_app [32] (List.cons_ne_nil _ _) X
    unfold lineBad
    rw [ej, if_pos (first_six _ _)]
    have : (c.2.map mt ++ X).any memBad = true := by rw [List.any_append, h2, Bool.or_true]
    exact callBad_any (w := TL.numL c.1) this
theorem pre_bad {W : List (List Nat)} (hW : W ≠ []) : lineBad ([] :: W) = true := by
  obtain ⟨w, r, rfl⟩ : ∃ w r, W = w :: r := List.exists_cons_of_ne_nil hW
  refine lineBad_word (c := 32) (r := TL.joinL [32] (w :: r)) rfl (by decide) (by decide) ?_
  exact deedBad_of (by decide) (by rw [show decide (tx [] = ("say" : Str)) = false by decide, Bool.false_and]) (by rw [show decide (tx [] ∈ (["raise", "await"] : List Str)) = false by decide, Bool.false_and]) (by rw [show decide (tx [] ∈ (["come", "go", "leave", "work"] : List Str)) = false by decide, Bool.false_and])
theorem low_words : ∀ w ∈ DWORDS, lowL (cd w) = cd w := by decide
theorem low_bad {W X : List (List Nat)} (k : LineK false W) (h1 : 1 ≤ X.length) (h2 : X.any memBad = true) : lineBad (W.map lowL ++ X) = true := by
  cases k with
  | scr =>
    have e : [cd "SCRIPT"].map lowL ++ X = cd "script" :: X := by rw [show [cd "SCRIPT"].map lowL = [cd "script"] by decide] <;> rfl
    rw [e]
    refine lineBad_word (c := 115) (r := cd "cript" ++ (X.map ([32] ++ ·)).flatten) ?_ (by decide) (by decide) ?_
    · rw [join_cons, show cd "script" = 115 :: cd "cript" by decide] <;> rfl
    · exact deedBad_of (by decide) (by rw [show decide (tx (cd "script") = ("say" : Str)) = false by decide, Bool.false_and]) (by rw [show decide (tx (cd "script") ∈ (["raise", "await"] : List Str)) = false by decide, Bool.false_and]) (by rw [show decide (tx (cd "script") ∈ (["come", "go", "leave", "work"] : List Str)) = false by decide, Bool.false_and])
  | deed d h =>
    obtain ⟨w, hw, tl, e, hd⟩ := deed_more d lowL h1 h2
    obtain ⟨c, r, ec, hc⟩ := word_head w hw
    rw [e, List.map_cons, low_words w hw]
    refine lineBad_word (c := c) (r := r ++ ((tl.map lowL ++ X).map ([32] ++ ·)).flatten) ?_ (by omega) (by omega) hd
    rw [List.cons_append, join_cons, ec] <;> rfl
  | first c h =>
    have e : (firstW c).map lowL ++ X = cd "first" :: ((TL.numL c.1 :: c.2.map mt).map lowL ++ X) := by
      show lowL (cd "FIRST") :: _ = _
      rw [show lowL (cd "FIRST") = cd "first" by decide] <;> rfl
    rw [e]
    refine lineBad_word (c := 102) (r := cd "irst" ++ (((TL.numL c.1 :: c.2.map mt).map lowL ++ X).map ([32] ++ ·)).flatten) ?_ (by decide) (by decide) ?_
    · rw [join_cons, show cd "first" = 102 :: cd "irst" by decide] <;> rfl
    · exact deedBad_of (by decide) (by rw [show decide (tx (cd "first") = ("say" : Str)) = false by decide, Bool.false_and]) (by rw [show decide (tx (cd "first") ∈ (["raise", "await"] : List Str)) = false by decide, Bool.false_and]) (by rw [show decide (tx (cd "first") ∈ (["come", "go", "leave", "work"] : List Str)) = false by decide, Bool.false_and])
theorem head_more {z : Bool} {W : List (List Nat)} (k : LineK z W) (hz : z = true) (X : List (List Nat)) (f : List Nat → List Nat) (hX : 1 ≤ X.length) : headBad (W.map f ++ X) = true := by
  cases k with
  | head b w hb hw =>
    cases X with
    | nil => cases hX
    | cons x X => rfl
  | _ => cases hz
theorem head_pre {z : Bool} {W : List (List Nat)} (k : LineK z W) (hz : z = true) : headBad ([] :: W) = true := by
  cases k with
  | head b w hb hw => rfl
  | _ => cases hz
theorem wb_all {z : Bool} {W : List (List Nat)} (k : LineK z W) (hl : (TL.joinL [32] W).length ≤ 900) : ∀ x ∈ WL (TL.joinL [32] W), WB z x := fun x hx => by
  have o := k.wk
  have sfx : ∀ X : List (List Nat), 1 ≤ X.length → X.length ≤ 5 → (∀ w ∈ X, w.length ≤ 200) → (∀ w ∈ X, 32 ∉ w ∧ 10 ∉ w) → X.any memBad = true → ((X.map ([32] ++ ·)).flatten).length ≤ 50 → WB z (TL.joinL [32] W ++ (X.map ([32] ++ ·)).flatten) := fun X h1 h2 h3 h4 h5 h6 => by
    refine ⟨by rw [List.length_append]; omega, W ++ X, (join_app [32] o.ne X).symm, o.sfx h2 h3 h4, fun hz => ?_, fun hz => ?_⟩
    · have := head_more k hz X id h1
      rw [List.map_id] at this
      exact this
    · subst hz
      exact sfx_bad k h1 h5
  unfold WL at hx
  rcases List.mem_cons.mp hx with q | q
  · subst q
    exact sfx [[]] (by decide) (by decide) (by decide) (by decide) (by decide) (by decide)
  rcases List.mem_cons.mp q with q | q
  · subst q
    refine ⟨by rw [List.length_cons]; omega, [] :: W, ?_, o.pre, fun hz => head_pre k hz, fun _ => pre_bad o.ne⟩
    obtain ⟨w, r, rfl⟩ : ∃ w r, W = w :: r := List.exists_cons_of_ne_nil o.ne
    rfl
  rcases List.mem_cons.mp q with q | q
  · subst q
    have e : lowL (TL.joinL [32] W) ++ cd " 0 0" = TL.joinL [32] (W.map lowL ++ [cd "0", cd "0"]) := by
      rw [join_low, join_app [32] o.low.ne]
      refine congrArg (_ ++ ·) ?_
      decide
    refine ⟨?_, W.map lowL ++ [cd "0", cd "0"], e, o.low.sfx (by decide) (by decide) (by decide), fun hz => head_more k hz _ lowL (by decide), fun hz => ?_⟩
    · have e1 : (cd " 0 0").length = 4 := by decide
      have e2 : (lowL (TL.joinL [32] W)).length = (TL.joinL [32] W).length := List.length_map _
      rw [List.length_append]
      omega
    · subst hz
      exact low_bad k (by decide) (by decide)
  rcases List.mem_cons.mp q with q | q
  · subst q
    exact wb_fixed List.mem_cons_self z
  rcases List.mem_cons.mp q with q | q
  · subst q
    have := sfx [cd "x"] (by decide) (by decide) (by decide) (by decide) (by decide) (by decide)
    have e : (([cd "x"] : List (List Nat)).map ([32] ++ ·)).flatten = cd " x" := by decide
    rw [e] at this
    exact this
  · obtain ⟨s, hs, e⟩ := List.mem_map.mp q
    rw [← e]
    exact wb_fixed (List.mem_cons_of_mem _ hs) z

end G
namespace G
/-! ### texts that write no house -/
def BT (l : List Nat) : Prop := ∀ (T : Sto) (Q : Sto → Prop), Q T → Ex (f_read_house [.str (tx l)] T) "NoText" Q
theorem small_sum {L : List (List Nat)} (h : ∀ l ∈ L, l.length ≤ 1000) (hn : L.length ≤ 90) : (L.map List.length).sum + L.length * 1 ≤ 100000 := by
  have := flat_le (fun l : List Nat => l) 1000 L h
  rw [List.map_id'] at this
  omega
theorem WOk.ten {ws : List (List Nat)} (o : WOk ws) : 10 ∉ TL.joinL [32] ws := fun z => by
  rcases join_mem z with q | ⟨y, hy, q⟩
  · revert q; decide
  · exact (o.free y hy).2 q
section
variable {h : HH}
theorem bt_at (t : HT' h) (fn : h.Fn) {at' : Nat} {line x : List Nat} (e : (linesL h)[at']? = some line) (hx : WB (decide (at' = 0)) x) : BT (TL.joinL [10] ((linesL h).take at' ++ x :: (linesL h).drop (at' + 1))) := fun T Q q => by
  obtain ⟨xl, ws, rfl, o, w1, w2⟩ := hx
  obtain ⟨ls1, ls2⟩ := lines_small t
  have lf := lines_free t
  have hat := (List.getElem?_eq_some_iff.mp e).1
  have h10 : ∀ l ∈ (linesL h).take at' ++ TL.joinL [32] ws :: (linesL h).drop (at' + 1), 10 ∉ l := fun l hl => by
    rcases List.mem_append.mp hl with z | z
    · exact lf l (List.mem_of_mem_take z)
    · rcases List.mem_cons.mp z with z | z
      · rw [z]; exact o.ten
      · exact lf l (List.mem_of_mem_drop z)
  have hs := small_sum (L := (linesL h).take at' ++ TL.joinL [32] ws :: (linesL h).drop (at' + 1)) (fun l hl => by
    rcases List.mem_append.mp hl with z | z
    · have := ls1 l (List.mem_of_mem_take z); omega
    · rcases List.mem_cons.mp z with z | z
      · rw [z]; exact xl
      · have := ls1 l (List.mem_of_mem_drop z); omega) (by rw [List.length_append, List.length_cons, List.length_take, List.length_drop]; omega)
  cases at' with
  | zero =>
    rw [List.take_zero, List.nil_append] at h10 hs ⊢
    exact readhead_bad o (w1 rfl) h10 hs q
  | succ j => exact readhouse_bad t fn (by omega) (by omega) o (.inl (w2 (decide_eq_false (by omega)))) h10 hs q
theorem bt_end (t : HT' h) (fn : h.Fn) (hf : h.fs ≠ []) {ws more : List (List Nat)} (o : WOk ws) (ol : (TL.joinL [32] ws).length ≤ 1000) (nf : notFirst (TL.joinL [32] ws) = true) (m1 : ∀ l ∈ more, l.length ≤ 1000 ∧ 10 ∉ l) (m2 : more.length ≤ 45) : BT (TL.joinL [10] (linesL h ++ TL.joinL [32] ws :: more)) := fun T Q q => by
  obtain ⟨ls1, ls2⟩ := lines_small t
  have lf := lines_free t
  have e : (linesL h).take (linesL h).length = linesL h := List.take_length
  have lp : 1 ≤ (linesL h).length := by unfold linesL; rw [List.length_cons]; omega
  have := readhouse_bad (T := T) (Q := Q) (k := (linesL h).length) (more := more) t fn lp (Nat.le_refl _) o (.inr ⟨nf, .inr ⟨rfl, hf⟩⟩)
  rw [e] at this
  refine this (fun l hl => ?_) (small_sum (fun l hl => ?_) (by rw [List.length_append, List.length_cons]; omega)) q
  · rcases List.mem_append.mp hl with z | z
    · exact lf l z
    · rcases List.mem_cons.mp z with z | z
      · rw [z]; exact o.ten
      · exact (m1 l z).2
  · rcases List.mem_append.mp hl with z | z
    · have := ls1 l z; omega
    · rcases List.mem_cons.mp z with z | z
      · rw [z]; exact ol
      · exact (m1 l z).1
theorem bt_head {ws more : List (List Nat)} (o : WOk ws) (ol : (TL.joinL [32] ws).length ≤ 1000) (hb : headBad ws = true) (m1 : ∀ l ∈ more, l.length ≤ 1000 ∧ 10 ∉ l) (m2 : more.length ≤ 45) : BT (TL.joinL [10] (TL.joinL [32] ws :: more)) := fun T Q q => by
  refine readhead_bad o hb (fun l hl => ?_) (small_sum (fun l hl => ?_) (by rw [List.length_cons]; omega)) q
  · rcases List.mem_cons.mp hl with z | z
    · rw [z]; exact o.ten
    · exact (m1 l z).2
  · rcases List.mem_cons.mp hl with z | z
    · rw [z]; exact ol
    · exact (m1 l z).1
def okWB (ws : List (List Nat)) : Bool := decide (ws ≠ []) && decide (ws.length ≤ 100) && ws.all fun w => decide (w.length ≤ 200) && decide (32 ∉ w) && decide (10 ∉ w)
theorem okW {ws : List (List Nat)} (h : okWB ws = true) : WOk ws := by
  unfold okWB at h
  rw [Bool.and_eq_true, Bool.and_eq_true] at h
  have k : ∀ w ∈ ws, w.length ≤ 200 ∧ 32 ∉ w ∧ 10 ∉ w := fun w hw => by
    have := List.all_eq_true.mp h.2 w hw
    rw [Bool.and_eq_true, Bool.and_eq_true] at this
    exact ⟨of_decide_eq_true this.1.1, of_decide_eq_true this.1.2, of_decide_eq_true this.2⟩
  exact ⟨of_decide_eq_true h.1.1, of_decide_eq_true h.1.2, fun w hw => (k w hw).1, fun w hw => (k w hw).2⟩
theorem flat_text : ((linesL h).map ([10] ++ ·)).flatten = 10 :: textL h := by
  unfold textL linesL
  rw [join_cons, List.map_cons, List.flatten_cons] <;> rfl
theorem text_ten (L : List (List Nat)) : TL.joinL [10] (linesL h ++ L) = textL h ++ (L.map ([10] ++ ·)).flatten := join_app [10] (List.cons_ne_nil _ _) L
/-- the nine texts that are always bad -/
theorem bt_nine (t : HT' h) (fn : h.Fn) (hf : h.fs ≠ []) (hs : h.ss ≠ []) : BT (10 :: textL h) ∧ BT (textL h ++ [10]) ∧ BT [] ∧ BT (cd "BOXES") ∧ BT (textL h ++ cd "\n\n" ++ textL h) ∧ BT (textL h ++ cd "\nwork 1") ∧ BT (textL h ++ cd "\nSCRIPT") ∧
    BT (TL.joinL [10] ((linesL h).take 1 ++ [cd "work 1"] ++ (linesL h).drop 1)) ∧ BT (TL.joinL [10] ((linesL h).drop 1)) := by
  obtain ⟨ls1, ls2⟩ := lines_small t
  have lf := lines_free t
  have m : ∀ l ∈ linesL h, l.length ≤ 1000 ∧ 10 ∉ l := fun l hl => ⟨by have := ls1 l hl; omega, lf l hl⟩
  refine ⟨?_, ?_, ?_, ?_, ?_, ?_, ?_, ?_, ?_⟩
  · exact bt_head (ws := [[]]) (more := linesL h) (okW (by decide)) (by decide) (by decide) m (by omega)
  · have := bt_end t fn hf (ws := [[]]) (more := []) (okW (by decide)) (by decide) (by decide) (fun l hl => absurd hl List.not_mem_nil) (by decide)
    rw [text_ten] at this
    exact this
  · exact bt_head (ws := [[]]) (more := []) (okW (by decide)) (by decide) (by decide) (fun l hl => absurd hl List.not_mem_nil) (by decide)
  · exact bt_head (ws := [cd "BOXES"]) (more := []) (okW (by decide)) (by decide) (by decide) (fun l hl => absurd hl List.not_mem_nil) (by decide)
  · have := bt_end t fn hf (ws := [[]]) (more := linesL h) (okW (by decide)) (by decide) (by decide) m (by omega)
    rw [text_ten, List.map_cons, List.flatten_cons, flat_text] at this
    have e : cd "\n\n" = [10, 10] := by decide
    rw [e, List.append_assoc]
    exact this
  · have := bt_end t fn hf (ws := [cd "work", cd "1"]) (more := []) (okW (by decide)) (by decide) (by decide) (fun l hl => absurd hl List.not_mem_nil) (by decide)
    rw [text_ten] at this
    have e : ([TL.joinL [32] [cd "work", cd "1"]].map ([10] ++ ·)).flatten = cd "\nwork 1" := by decide
    rw [e] at this
    exact this
  · have := bt_end t fn hf (ws := [cd "SCRIPT"]) (more := []) (okW (by decide)) (by decide) (by decide) (fun l hl => absurd hl List.not_mem_nil) (by decide)
    rw [text_ten] at this
    have e : ([TL.joinL [32] [cd "SCRIPT"]].map ([10] ++ ·)).flatten = cd "\nSCRIPT" := by decide
    rw [e] at this
    exact this
  · intro T Q q
    have e : cd "work 1" = TL.joinL [32] [cd "work", cd "1"] := by decide
    rw [List.append_assoc, e]
    have lp : 1 ≤ (linesL h).length := by unfold linesL; rw [List.length_cons]; omega
    refine readhouse_bad t fn (Nat.le_refl 1) lp (okW (by decide)) (.inr ⟨by decide, .inl ⟨rfl, by decide⟩⟩) (fun l hl => ?_) (small_sum (fun l hl => ?_) (by rw [List.length_append, List.length_cons, List.length_take]; show min 1 _ + (((linesL h).drop 1).length + 1) ≤ 90; rw [List.length_drop]; omega)) q
    · rcases List.mem_append.mp hl with z | z
      · exact lf l (List.mem_of_mem_take z)
      · rcases List.mem_cons.mp z with z | z
        · rw [z]; decide
        · exact lf l (List.mem_of_mem_drop z)
    · rcases List.mem_append.mp hl with z | z
      · have := ls1 l (List.mem_of_mem_take z); omega
      · rcases List.mem_cons.mp z with z | z
        · rw [z]; decide
        · have := ls1 l (List.mem_of_mem_drop z); omega
  · obtain ⟨s, r, e⟩ : ∃ s r, h.ss = s :: r := List.exists_cons_of_ne_nil hs
    have el : (linesL h).drop 1 = TL.joinL [32] [cd "SCRIPT"] :: (s.map deedL ++ r.flatMap scrL ++ h.fs.map firstL) := by
      show h.ss.flatMap scrL ++ h.fs.map firstL = _
      rw [e] <;> rfl
    have ln := congrArg List.length el
    rw [List.length_drop, List.length_cons] at ln
    have mm : ∀ l ∈ s.map deedL ++ r.flatMap scrL ++ h.fs.map firstL, l ∈ linesL h := fun l hl => List.mem_of_mem_drop (i := 1) (by rw [el]; exact List.mem_cons_of_mem _ hl)
    rw [el]
    exact bt_head (okW (by decide)) (by decide) (by decide) (fun l hl => m l (mm l hl)) (by omega)
end
/-! ### lines are of plain signs -/
theorem lines_ascii {h : HH} (t : HT' h) : ∀ l ∈ linesL h, l.all (· < 128) = true := fun l hl => by
  obtain ⟨i, hi⟩ := List.mem_iff_getElem?.mp hl
  obtain ⟨W, e, k⟩ := line_kind t hi
  generalize decide (i = 0) = z at k
  have num : ∀ k : Nat, ∀ c ∈ TL.numL k, c < 128 := fun k c hc => by have := TL.numL_digits k c hc; omega
  have mtA : ∀ p : Nat × Str, p.2 ∈ MD → ∀ c ∈ mt p, c < 128 := fun p hp c hc => by
    unfold mt at hc
    rcases List.mem_append.mp hc with q | q
    · exact num _ c q
    rcases List.mem_cons.mp q with q | q
    · omega
    have : ∀ m ∈ MD, ∀ c ∈ cd m, c < 128 := by decide
    exact this _ hp c q
  have all : ∀ w ∈ W, ∀ c ∈ w, c < 128 := by
    cases k with
    | head b w hb hw =>
      intro x hx c hc
      unfold headW at hx
      simp only [List.mem_cons, List.not_mem_nil, or_false] at hx
      rcases hx with q | q | q | q
      · rw [q] at hc; revert c; decide
      · rw [q] at hc; exact num _ c hc
      · rw [q] at hc; revert c; decide
      · rw [q] at hc; exact num _ c hc
    | scr =>
      intro x hx c hc
      rw [List.mem_singleton.mp hx] at hc
      revert c
      decide
    | first c h =>
      intro x hx a ha
      rcases List.mem_cons.mp hx with q | q
      · rw [q] at ha; revert a; decide
      rcases List.mem_cons.mp q with q | q
      · rw [q] at ha; exact num _ a ha
      obtain ⟨p, hp, e⟩ := List.mem_map.mp q
      rw [← e] at ha
      exact mtA p (h.2.2 p hp).2 a ha
    | deed d h =>
      intro x hx a ha
      have word : ∀ w ∈ DWORDS, ∀ c ∈ cd w, c < 128 := by decide
      cases d with
      | beg i ms =>
        rcases List.mem_cons.mp hx with q | q
        · rw [q] at ha; exact word "begin" (by decide) a ha
        rcases List.mem_cons.mp q with q | q
        · rw [q] at ha; exact num _ a ha
        obtain ⟨p, hp, e⟩ := List.mem_map.mp q
        rw [← e] at ha
        exact mtA p (h.2.2 p hp).2 a ha
      | rai b x =>
        unfold deedW at hx
        simp only [List.mem_cons, List.not_mem_nil, or_false] at hx
        rcases hx with q | q | q
        · rw [q] at ha; exact word "raise" (by decide) a ha
        · rw [q] at ha; exact num _ a ha
        · rw [q] at ha; exact num _ a ha
      | awa b x =>
        unfold deedW at hx
        simp only [List.mem_cons, List.not_mem_nil, or_false] at hx
        rcases hx with q | q | q
        · rw [q] at ha; exact word "await" (by decide) a ha
        · rw [q] at ha; exact num _ a ha
        · rw [q] at ha; exact num _ a ha
      | work x =>
        unfold deedW at hx
        simp only [List.mem_cons, List.not_mem_nil, or_false] at hx
        rcases hx with q | q
        · rw [q] at ha; exact word "work" (by decide) a ha
        · rw [q] at ha; exact num _ a ha
      | com x =>
        unfold deedW at hx
        simp only [List.mem_cons, List.not_mem_nil, or_false] at hx
        rcases hx with q | q
        · rw [q] at ha; exact word "come" (by decide) a ha
        · rw [q] at ha; exact num _ a ha
      | go x =>
        unfold deedW at hx
        simp only [List.mem_cons, List.not_mem_nil, or_false] at hx
        rcases hx with q | q
        · rw [q] at ha; exact word "go" (by decide) a ha
        · rw [q] at ha; exact num _ a ha
      | lve x =>
        unfold deedW at hx
        simp only [List.mem_cons, List.not_mem_nil, or_false] at hx
        rcases hx with q | q
        · rw [q] at ha; exact word "leave" (by decide) a ha
        · rw [q] at ha; exact num _ a ha
      | say v =>
        unfold deedW at hx
        simp only [List.mem_cons, List.not_mem_nil, or_false] at hx
        rcases hx with q | q
        · rw [q] at ha; exact word "say" (by decide) a ha
        · rw [q] at ha
          have := h.2.2 a ha
          have k : ∀ c ∈ cd LETS, c < 128 := by decide
          exact k a this
  rw [e]
  refine List.all_eq_true.mpr fun c hc => decide_eq_true ?_
  rcases join_mem hc with q | ⟨y, hy, q⟩
  · rw [List.mem_singleton.mp q]; decide
  · exact all y hy c q

end G
namespace G
/-! ### the law's texts that write no house -/
section
variable {S : Sto} {P : D → Sto → Prop} {ns : List Int} {h : HH}
theorem ltL_lns : ∀ ls : List (List Nat), ltL 0 (lnsD ls) = true
  | [] => rfl
  | l :: ls => by
    show (ltD 0 (D.str (tx l)) && ltL 0 (lnsD ls)) = true
    rw [ltL_lns ls]
    rfl
theorem add_str {T : Sto} {a b : Str} (h : a.length + b.length ≤ 100000) : oAdd T (.str a) (.str b) = some (.str (a ++ b)) := by
  refine (orO_none rfl).trans ((orO_none rfl).trans ((orO_none rfl).trans ?_))
  show (if a.length + b.length ≤ sizeLine then some (D.str (a ++ b)) else none) = _
  rw [if_pos (by rw [sizeLine_eq]; omega)]
theorem add_refL {T : Sto} {n : Nat} {a b : List D} (h : T[n]? = some (.lst a)) (hl : a.length + b.length ≤ 1000) : oAdd T (.ref n) (.lst b) = some (.lst (a ++ b)) := by
  refine (orO_none rfl).trans (orO_some ?_)
  show (match lstOf T (.ref n), some b with | some a, some b => if a.length + b.length ≤ sizeLine then some (D.lst (a ++ b)) else none | _, _ => none) = _
  rw [lst_ref h]
  dsimp only
  rw [if_pos (by rw [sizeLine_eq]; omega)]
theorem cut_to (ds : List D) (n : Nat) (hn : n ≤ ds.length) : cutD ds none (some (n : Int)) = ds.take n := by
  unfold cutD
  have e1 : HT.sIx ds.length 0 none = 0 := rfl
  have e2 : HT.sIx ds.length ds.length (some (n : Int)) = n := by
    show (if (n : Int) < 0 then ((n : Int) + (ds.length : Int)).toNat else min (n : Int).toNat ds.length) = n
    rw [if_neg (by omega), Int.toNat_natCast]
    omega
  rw [e1, e2, List.drop_zero, Nat.sub_zero]
theorem cut_fromN (ds : List D) (n : Nat) (hn : n ≤ ds.length) : cutD ds (some (n : Int)) none = ds.drop n := by
  unfold cutD
  have e1 : HT.sIx ds.length 0 (some (n : Int)) = n := by
    show (if (n : Int) < 0 then ((n : Int) + (ds.length : Int)).toNat else min (n : Int).toNat ds.length) = n
    rw [if_neg (by omega), Int.toNat_natCast]
    omega
  have e2 : HT.sIx ds.length ds.length none = ds.length := rfl
  rw [e1, e2]
  exact List.take_of_length_le (by rw [List.length_drop]; exact Nat.le_refl _)
theorem lns_take (ls : List (List Nat)) (n : Nat) : (lnsD ls).take n = lnsD (ls.take n) := List.map_take.symm
theorem lns_drop (ls : List (List Nat)) (n : Nat) : (lnsD ls).drop n = lnsD (ls.drop n) := List.map_drop.symm
set_option maxHeartbeats 4000000 in
theorem notexts_wp (t : HT' h) (fn : h.Fn) (hf : h.fs ≠ []) (hs : h.ss ≠ []) (dk : DK ns 0 S) (k : ∀ ls S', (∀ l ∈ ls, BT l) → ls.length ≤ 30 → Dr ns 0 S S' → P (.lst (lnsD ls)) S') : Wp (f__law_e_no_texts [.ref 0, .str (tx (textL h))] S) P := by
  have hS0 := dk.lt
  obtain ⟨ls1, ls2⟩ := lines_small t
  have lf := lines_free t
  have lp : 1 ≤ (linesL h).length := by unfold linesL; rw [List.length_cons]; omega
  have tl : (textL h).length ≤ 30000 := by
    have h1 := join_len [10] (linesL h)
    have h2 := flat_le (fun l : List Nat => l) 600 (linesL h) ls1
    rw [List.map_id'] at h2
    have e : [10].length = 1 := rfl
    rw [e] at h1
    unfold textL
    omega
  have hsp : oSplit S (.str (tx (textL h))) (.str "\n") = some (.lst (lnsD (linesL h))) := text_split (List.cons_ne_nil _ _) lf (text_small t)
  unfold f__law_e_no_texts d__law_e_no_texts
  refine wp_frz ?_
  simp_arith [hsp, lns_len]
  refine pick_dr dk (by omega) (by omega) fun at' S1 a1 a2 dr1 => ?_
  obtain ⟨at', rfl⟩ : ∃ b' : Nat, at' = (b' : Int) := ⟨at'.toNat, by omega⟩
  have hat' : at' < (linesL h).length := by omega
  obtain ⟨line, hline⟩ : ∃ line, (linesL h)[at']? = some line := ⟨_, List.getElem?_eq_getElem hat'⟩
  have ll := ls1 line (List.mem_of_getElem? hline)
  have e1 : atI (lnsD (linesL h)) (at' : Int) = some (.str (tx line)) := hat (fun l => D.str (tx l)) hline
  have e2 : oMulS S1 (.str "9") (.int 31) = some (.str (repTx 31 "9")) := rfl
  have b1 : ∀ T, oAdd T (.str (tx line)) (.str " ") = some (.str (tx (line ++ [32]))) := fun T => by rw [lit1]; exact add_tx (by have : [32].length = 1 := rfl; omega)
  have b2 : ∀ T, oAdd T (.str " ") (.str (tx line)) = some (.str (tx (32 :: line))) := fun T => by rw [lit1]; exact add_tx (by have : [32].length = 1 := rfl; omega)
  have lw : Txt.lower (tx line) = tx (lowL line) := SX.lower_S (lines_ascii t line (List.mem_of_getElem? hline))
  have c3 : (" 0 0" : Str) = tx (cd " 0 0") := (tx_cd _).symm
  have c4 : (" x" : Str) = tx (cd " x") := (tx_cd _).symm
  have b3 : ∀ T, oAdd T (.str (tx (lowL line))) (.str " 0 0") = some (.str (tx (lowL line ++ cd " 0 0"))) := fun T => by
    rw [c3]
    exact add_tx (by have e1 : (cd " 0 0").length = 4 := by decide
                     have e2 : (lowL line).length = line.length := List.length_map _
                     omega)
  have b4 : ∀ T, oAdd T (.str (tx line)) (.str " x") = some (.str (tx (line ++ cd " x"))) := fun T => by
    rw [c4]
    exact add_tx (by have e1 : (cd " x").length = 2 := by decide
                     omega)
  have b5 : ∀ T, oAdd T (.str "work ") (.str (repTx 31 "9")) = some (.str "work 9999999999999999999999999999999") := fun T => by
    rw [add_str (by decide)]
    refine congrArg (fun x => some (D.str x)) ?_
    decide
  have ln : (tx line).length ≤ 5592405 := by rw [tx_len]; omega
  simp_arith [e1, e2, b1, b2, k_Lower ln, lw, b3, b4]
  obtain ⟨W0, hW0⟩ : ∃ W0 : List D, W0 = [D.str (tx (line ++ [32])), .str (tx (32 :: line)), .str (tx (lowL line ++ cd " 0 0")), .str "", .str (tx (line ++ cd " x")), .str "wait 0 1", .str "raise 0", .str "await 1", .str "come"] := ⟨_, rfl⟩
  have l0 : W0.length = 9 := by rw [hW0] <;> rfl
  rw [← hW0]
  refine w_AddN ?_
  simp_arith
  refine ⟨_, _, lst_ref (app_at _ _), rfl, by rw [l0, sizeLine_eq]; decide, ?_⟩
  obtain ⟨W1, hW1⟩ : ∃ W1 : List D, W1 = W0 ++ [.str "go 0 0", .str "leave", .str "work 1 2", .str "begin", .str "say", .str "say a b", .str "raise 0  1", .str "FIRST", .str "FIRST 0 0both"] := ⟨_, rfl⟩
  have l1 : W1.length = 18 := by rw [hW1, List.length_append, l0] <;> rfl
  rw [← hW1]
  simp_arith
  refine w_AddN ?_
  simp_arith
  refine ⟨_, _, lst_ref (app_at _ _), rfl, by rw [l1, sizeLine_eq]; decide, ?_⟩
  obtain ⟨W2, hW2⟩ : ∃ W2 : List D, W2 = W1 ++ [.str "FIRST 0 0:", .str "FIRST 0 :both", .str "raise 01 1", .str "raise 0 +1", .str "raise -1 1", .str "work 1.0"] := ⟨_, rfl⟩
  have l2 : W2.length = 24 := by rw [hW2, List.length_append, l1] <;> rfl
  rw [← hW2]
  have dr2 : Dr ns 0 S (S1 ++ [Cell.lst W0] ++ [Cell.lst W1] ++ [Cell.lst W2]) := ((dr1.app _).app _).app _
  have hS1 := dr1.len
  generalize hT : S1 ++ [Cell.lst W0] ++ [Cell.lst W1] = T2 at dr2
  have hT2 : S.length ≤ T2.length := by rw [← hT, List.length_append, List.length_append]; omega
  have c2 : (T2 ++ [Cell.lst W2])[T2.length]? = some (.lst W2) := app_at _ _
  simp_arith
  refine w_App ?_
  simp_arith
  refine k_App c2 ?_
  simp_arith [b5]
  refine ⟨_, c2, by rw [l2, sizeLine_eq]; decide, ?_⟩
  rw [set_last]
  have c3 : (T2 ++ [Cell.lst (W2 ++ [.str "work 9999999999999999999999999999999"])])[T2.length]? = some (.lst (W2 ++ [.str "work 9999999999999999999999999999999"])) := app_at _ _
  have dr3 : Dr ns 0 S (T2 ++ [Cell.lst (W2 ++ [.str "work 9999999999999999999999999999999"])]) := by
    have := dr2.put (q := T2.length) (.lst (W2 ++ [.str "work 9999999999999999999999999999999"])) (by omega) hT2
    rw [set_last] at this
    exact this
  have l3 : (W2 ++ [D.str "work 9999999999999999999999999999999"]).length = 25 := by rw [List.length_append, l2] <;> rfl
  have g3 := fun b : List D => fun hb : b.length ≤ 100 => add_refL (b := b) c3 (by rw [l3]; omega)
  simp_arith [g3 [.str "await 0 x", .str "BOXES 1 WALLS", .str "BOXES 1 WALLS 0 0", .str "BOXES 00 WALLS 0", .str "SCRIPT 0", .str "script"] (by decide)]
  generalize T2 ++ [Cell.lst (W2 ++ [.str "work 9999999999999999999999999999999"])] = T3 at dr3
  have add2 : ∀ (T : Sto) (a b : List D), a.length + b.length ≤ 1000 → oAdd T (.lst a) (.lst b) = some (.lst (a ++ b)) := fun T a b h => add_ll h
  obtain ⟨W3, hW3⟩ : ∃ W3 : List D, W3 = W2 ++ [D.str "work 9999999999999999999999999999999"] ++ [.str "await 0 x", .str "BOXES 1 WALLS", .str "BOXES 1 WALLS 0 0", .str "BOXES 00 WALLS 0", .str "SCRIPT 0", .str "script"] := ⟨_, rfl⟩
  have l4 : W3.length = 31 := by rw [hW3, List.length_append, l3] <;> rfl
  rw [← hW3]
  rw [add2 _ W3 _ (by rw [l4]; decide)]
  obtain ⟨W4, hW4⟩ : ∃ W4 : List D, W4 = W3 ++ [.str "work 1_0", .str "FIRST 0 0:each", .str "say Come", .str "say a1"] := ⟨_, rfl⟩
  have l5 : W4.length = 35 := by rw [hW4, List.length_append, l4] <;> rfl
  rw [← hW4]
  simp_arith
  rw [add2 _ W4 _ (by rw [l5]; decide)]
  obtain ⟨W5, hW5⟩ : ∃ W5 : List D, W5 = W4 ++ [.str "FIRST 0  0:both", .str "work", .str "work 0x1", .str "BOXES -0 WALLS 0", .str "Begin 1", .str "FIRST x"] := ⟨_, rfl⟩
  have l6 : W5.length = 41 := by rw [hW5, List.length_append, l5] <;> rfl
  rw [← hW5]
  have eW : W5 = lnsD (WL line) := by rw [hW5, hW4, hW3, hW2, hW1, hW0] <;> rfl
  clear hW5 hW4 hW3 hW2 hW1 hW0
  have j10 : ∀ (T : Sto) (L : List (List Nat)), (∀ l ∈ L, l.length ≤ 1000) → L.length ≤ 90 → oJoin T (.str "\n") (.lst (lnsD L)) = some (.str (tx (TL.joinL [10] L))) := fun T L q1 q2 => by
    rw [lit6, join_tx rfl]
    have := small_sum q1 q2
    exact this
  have t0 : ("\n" : Str) = tx [10] := lit6
  have e10 : [10].length = 1 := rfl
  have x1 : ∀ T, oAdd T (.str "\n") (.str (tx (textL h))) = some (.str (tx (10 :: textL h))) := fun T => by rw [t0]; exact add_tx (by omega)
  have x2 : ∀ T, oAdd T (.str (tx (textL h))) (.str "\n") = some (.str (tx (textL h ++ [10]))) := fun T => by rw [t0]; exact add_tx (by omega)
  have x3 : ∀ (T : Sto) (s : Str), s.length ≤ 100 → oAdd T (.str (tx (textL h))) (.str s) = some (.str (tx (textL h ++ cd s))) := fun T s hs => by
    have := add_tx (T := T) (a := textL h) (b := cd s) (by rw [cd_len]; omega)
    rw [tx_cd] at this
    exact this
  have enn : (cd "\n\n").length = 2 := by decide
  have x4 : ∀ (T : Sto), oAdd T (.str (tx (textL h ++ cd "\n\n"))) (.str (tx (textL h))) = some (.str (tx (textL h ++ cd "\n\n" ++ textL h))) := fun T => add_tx (by rw [List.length_append]; omega)
  have k1 : cutD (lnsD (linesL h)) none (some 1) = lnsD ((linesL h).take 1) := by rw [← lns_take]; exact cut_to _ 1 (by rw [lns_len]; exact lp)
  have k2 : cutD (lnsD (linesL h)) (some 1) none = lnsD ((linesL h).drop 1) := by rw [← lns_drop]; exact cut_fromN _ 1 (by rw [lns_len]; exact lp)
  have y1 : ∀ T : Sto, oAdd T (.lst (lnsD ((linesL h).take 1))) (.lst [.str "work 1"]) = some (.lst (lnsD ((linesL h).take 1 ++ [cd "work 1"]))) := fun T => by
    rw [add2 _ _ _ (by rw [lns_len, List.length_take]; show min 1 _ + 1 ≤ 1000; omega), lns_app] <;> rfl
  have y2 : ∀ T : Sto, oAdd T (.lst (lnsD ((linesL h).take 1 ++ [cd "work 1"]))) (.lst (lnsD ((linesL h).drop 1))) = some (.lst (lnsD ((linesL h).take 1 ++ [cd "work 1"] ++ (linesL h).drop 1))) := fun T => by
    rw [add2 _ _ _ (by rw [lns_len, lns_len, List.length_append, List.length_take, List.length_drop]; show min 1 _ + 1 + _ ≤ 1000; omega), ← lns_app]
  have y3 : ∀ T : Sto, oJoin T (.str "\n") (.lst (lnsD ((linesL h).take 1 ++ [cd "work 1"] ++ (linesL h).drop 1))) = some (.str (tx (TL.joinL [10] ((linesL h).take 1 ++ [cd "work 1"] ++ (linesL h).drop 1)))) := fun T => j10 T _ (fun l hl => by
    rcases List.mem_append.mp hl with z | z
    · rcases List.mem_append.mp z with z | z
      · have := ls1 l (List.mem_of_mem_take z); omega
      · rw [List.mem_singleton.mp z]; decide
    · have := ls1 l (List.mem_of_mem_drop z); omega) (by rw [List.length_append, List.length_append, List.length_take, List.length_drop]; show min 1 _ + 1 + _ ≤ 90; omega)
  have y4 : ∀ T : Sto, oJoin T (.str "\n") (.lst (lnsD ((linesL h).drop 1))) = some (.str (tx (TL.joinL [10] ((linesL h).drop 1)))) := fun T => j10 T _ (fun l hl => by have := ls1 l (List.mem_of_mem_drop hl); omega) (by rw [List.length_drop]; omega)
  obtain ⟨n1, n2, n3, n4, n5, n6, n7, n8, n9⟩ := bt_nine t fn hf hs
  simp_arith [x1, x2, x3 _ "\n\n" (by decide), x4, x3 _ "\nwork 1" (by decide), x3 _ "\nSCRIPT" (by decide)]
  obtain ⟨F0, hF0⟩ : ∃ F0 : List (List Nat), F0 = [10 :: textL h, textL h ++ [10], [], cd "BOXES", textL h ++ cd "\n\n" ++ textL h, textL h ++ cd "\nwork 1", textL h ++ cd "\nSCRIPT"] := ⟨_, rfl⟩
  have eF : [D.str (tx (10 :: textL h)), .str (tx (textL h ++ [10])), .str "", .str "BOXES", .str (tx (textL h ++ cd "\n\n" ++ textL h)), .str (tx (textL h ++ cd "\nwork 1")), .str (tx (textL h ++ cd "\nSCRIPT"))] = lnsD F0 := by rw [hF0] <;> rfl
  rw [eF]
  have f0 : F0.length = 7 := by rw [hF0] <;> rfl
  have bF0 : ∀ l ∈ F0, BT l := fun l hl => by
    rw [hF0] at hl
    simp only [List.mem_cons, List.not_mem_nil, or_false] at hl
    rcases hl with q | q | q | q | q | q | q <;> (rw [q]; assumption)
  have hT3 : S.length ≤ T3.length := dr3.len
  have cF := app_at T3 (Cell.lst (lnsD F0))
  have dr4 : Dr ns 0 S (T3 ++ [Cell.lst (lnsD F0)]) := dr3.app _
  refine w_App ?_
  simp_arith
  refine k_App cF ?_
  simp_arith [k1, k2, y1, y2, y3]
  refine ⟨_, cF, by rw [lns_len, f0, sizeLine_eq]; decide, ?_⟩
  rw [set_last]
  have cF2 := app_at T3 (Cell.lst (lnsD F0 ++ [.str (tx (TL.joinL [10] ((linesL h).take 1 ++ [cd "work 1"] ++ (linesL h).drop 1)))]))
  simp_arith
  refine w_App ?_
  simp_arith
  refine k_App cF2 ?_
  simp_arith [k2, y4]
  refine ⟨_, cF2, by rw [List.length_append, lns_len, f0, sizeLine_eq]; show 7 + 1 < 16777216; decide, ?_⟩
  rw [set_last]
  have eF2 : lnsD F0 ++ [D.str (tx (TL.joinL [10] ((linesL h).take 1 ++ [cd "work 1"] ++ (linesL h).drop 1)))] ++ [.str (tx (TL.joinL [10] ((linesL h).drop 1)))] = lnsD (F0 ++ [TL.joinL [10] ((linesL h).take 1 ++ [cd "work 1"] ++ (linesL h).drop 1)] ++ [TL.joinL [10] ((linesL h).drop 1)]) := by rw [lns_app, lns_app] <;> rfl
  rw [eF2]
  obtain ⟨F2, hF2⟩ : ∃ F2 : List (List Nat), F2 = F0 ++ [TL.joinL [10] ((linesL h).take 1 ++ [cd "work 1"] ++ (linesL h).drop 1)] ++ [TL.joinL [10] ((linesL h).drop 1)] := ⟨_, rfl⟩
  have f2 : F2.length = 9 := by rw [hF2, List.length_append, List.length_append, f0] <;> rfl
  have bF2 : ∀ l ∈ F2, BT l := fun l hl => by
    rw [hF2] at hl
    rcases List.mem_append.mp hl with q | q
    · rcases List.mem_append.mp q with q | q
      · exact bF0 l q
      · rw [List.mem_singleton.mp q]; exact n8
    · rw [List.mem_singleton.mp q]; exact n9
  rw [← hF2]
  have h8 : rng1 [.int 8] = some (rngL 0 8) := rng1_int (j := 8) (by decide) (by decide)
  have dr5 : Dr ns 0 S (T3 ++ [Cell.lst (lnsD F2)]) := dr3.app _
  simp_arith [h8]
  refine forGo_wp (fun rest env U => ∃ (i : Nat) (F : List (List Nat)) (e8 e9 : Option D), i ≤ 8 ∧ rest = rngL (i : Int) (8 - i) ∧ F.length = 9 + i ∧ (∀ l ∈ F, BT l) ∧ env = [some (.ref 0), some (.str (tx (textL h))), some (.lst (lnsD (linesL h))), some (.int (at' : Int)), some (.str (tx line)), some (.str (repTx 31 "9")), some (.lst W5), some (.ref T3.length), e8, e9] ∧ U[T3.length]? = some (.lst (lnsD F)) ∧ Dr ns 0 S U) _ _ _
    ⟨0, F2, _, _, Nat.zero_le _, rfl, f2, bF2, rfl, app_at _ _, dr5⟩ (fun d rest env U hI => ?_) fun env U hI => ?_
  · obtain ⟨i, F, e8, e9, hi, er, fl, bF, e, hU, dr⟩ := hI
    have hlt : i < 8 := by
      refine Nat.lt_of_not_le fun q => ?_
      rw [show 8 - i = 0 by omega] at er
      cases er
    rw [show 8 - i = (8 - (i + 1)) + 1 by omega, rng_succ] at er
    obtain ⟨ed, er2⟩ := List.cons.inj er
    subst ed e
    refine ⟨_, rfl, ?_⟩
    simp_arith [l6]
    refine pick_dr dr.dk (by decide) (by decide) fun v U2 v1 v2 drU => ?_
    obtain ⟨v, rfl⟩ : ∃ b' : Nat, v = (b' : Int) := ⟨v.toNat, by omega⟩
    have lW : (WL line).length = 41 := by rw [← lns_len, ← eW]; exact l6
    obtain ⟨x, hx⟩ : ∃ x, (WL line)[v]? = some x := ⟨_, List.getElem?_eq_getElem (by omega)⟩
    have xm := List.mem_of_getElem? hx
    have ex : atI W5 (v : Int) = some (.str (tx x)) := by rw [eW]; exact hat (fun l => D.str (tx l)) hx
    obtain ⟨Wd, eWd, kd⟩ := line_kind t hline
    have wb : WB (decide (at' = 0)) x := by
      refine wb_all kd ?_ x ?_
      · rw [← eWd]; omega
      · rw [← eWd]; exact xm
    have bt := bt_at t fn hline wb
    have hU2 := drU.kp _ _ (by omega) hU
    have k3 : cutD (lnsD (linesL h)) none (some (at' : Int)) = lnsD ((linesL h).take at') := by rw [← lns_take]; exact cut_to _ _ (by rw [lns_len]; omega)
    have k4 : cutD (lnsD (linesL h)) (some ((at' : Int) + 1)) none = lnsD ((linesL h).drop (at' + 1)) := by
      rw [← lns_drop, show (at' : Int) + 1 = ((at' + 1 : Nat) : Int) by omega]
      exact cut_fromN _ _ (by rw [lns_len]; omega)
    have z1 : ∀ T : Sto, oAdd T (.lst (lnsD ((linesL h).take at'))) (.lst [.str (tx x)]) = some (.lst (lnsD ((linesL h).take at' ++ [x]))) := fun T => by
      rw [add2 _ _ _ (by rw [lns_len, List.length_take]; show _ + 1 ≤ 1000; omega), lns_app] <;> rfl
    have z2 : ∀ T : Sto, oAdd T (.lst (lnsD ((linesL h).take at' ++ [x]))) (.lst (lnsD ((linesL h).drop (at' + 1)))) = some (.lst (lnsD ((linesL h).take at' ++ [x] ++ (linesL h).drop (at' + 1)))) := fun T => by
      rw [add2 _ _ _ (by rw [lns_len, lns_len, List.length_append, List.length_take, List.length_drop]; show _ + 1 + _ ≤ 1000; omega), ← lns_app]
    have z3 : ∀ T : Sto, oJoin T (.str "\n") (.lst (lnsD ((linesL h).take at' ++ [x] ++ (linesL h).drop (at' + 1)))) = some (.str (tx (TL.joinL [10] ((linesL h).take at' ++ [x] ++ (linesL h).drop (at' + 1))))) := fun T => j10 T _ (fun l hl => by
      rcases List.mem_append.mp hl with z | z
      · rcases List.mem_append.mp z with z | z
        · have := ls1 l (List.mem_of_mem_take z); omega
        · rw [List.mem_singleton.mp z]; exact wb.1
      · have := ls1 l (List.mem_of_mem_drop z); omega) (by rw [List.length_append, List.length_append, List.length_take, List.length_drop]; show _ + 1 + _ ≤ 90; omega)
    simp_arith [ex]
    refine w_App ?_
    simp_arith
    refine k_App hU2 ?_
    simp_arith [k3, k4, z1, z2, z3]
    refine ⟨_, hU2, by rw [lns_len, fl, sizeLine_eq]; omega, ?_⟩
    refine ⟨i + 1, F ++ [TL.joinL [10] ((linesL h).take at' ++ [x] ++ (linesL h).drop (at' + 1))], _, _, hlt, er2, by rw [List.length_append, fl] <;> rfl, fun l hl => ?_, rfl, ?_, (dr.trans drU).put _ (by omega) hT3⟩
    · rcases List.mem_append.mp hl with z | z
      · exact bF l z
      · rw [List.mem_singleton.mp z, List.append_assoc]
        exact bt
    · rw [set_get hU2, lns_app] <;> rfl
  · obtain ⟨i, F, e8, e9, hi, er, fl, bF, e, hU, dr⟩ := hI
    subst e
    simp_arith
    exact ⟨dr.frz hS0, _, frz_lst hT3 hU (ltL_lns F), k F _ bF (by omega) (dr.cut hS0)⟩
end

end G
namespace G
/-! ### the law's houses that are none -/
def badDs (h : HH) (N : Nat) : List Hd := [.rai h.b 1, .rai 0 0, .rai 0 100, .awa 0 0, .awa 0 10000, .work 1000, .say "abcdefghi", .com h.w, .go h.w, .lve h.w, .beg 0 [], .beg h.ss.length [], .work N, .rai N 1, .awa h.b N]
def badD (h : HH) (s0 : List Hd) (sr : List (List Hd)) (d : Hd) : HH := ⟨h.b, h.w, h.fs, (s0 ++ [d]) :: sr⟩
def badE (h : HH) (N : Nat) : List HH := [⟨100, h.w, h.fs, h.ss⟩, ⟨h.b, 7, h.fs, h.ss⟩, ⟨N, h.w, h.fs, h.ss⟩, ⟨h.b, h.w, [], h.ss⟩, ⟨h.b, h.w, h.fs ++ [((h.ss.length, []) : Call)], h.ss⟩, ⟨h.b, h.w, h.fs ++ [((0, [(h.w, "both")]) : Call)], h.ss⟩, ⟨h.b, h.w, [], []⟩, ⟨h.b, h.w + 2, h.fs ++ [((0, [(1, "both"), (0, "both")]) : Call)], h.ss⟩]
/-- what is none, but can be written -/
structure NoH (h : HH) : Prop where
  t : HT' h
  fn : h.Fn
  no : preB h.d = false
theorem NoH.is {h : HH} (n : NoH h) (S : Sto) (P : D → Sto → Prop) (k : P (.bl false) S) : Wp (f_is_house [h.d] S) P :=
  ishouse_wp ((plt_h (n := 0) n.fn).ok S) (fun _ => k) fun b w fs ss _ pt => by rw [n.no] at pt; cases pt
theorem preB_no {h : HH} (f : preB h.d = true → False) : preB h.d = false := Bool.eq_false_iff.mpr f
theorem preB_parts {h : HH} (z : preB h.d = true) : (h.b : Int) ≤ 99 ∧ (h.w : Int) ≤ 6 ∧ 1 ≤ h.fs.length ∧ hscriptsB h.b h.w ((h.ss.map hsD).length : Nat) 0 (h.ss.map hsD) = true ∧ (h.fs.map callD).all (callingB h.w ((h.ss.map hsD).length : Nat)) = true := by
  have z : (decide (0 ≤ (h.b : Int)) && decide ((h.b : Int) ≤ 99) && (decide (0 ≤ (h.w : Int)) && decide ((h.w : Int) ≤ 6)) && (decide (1 ≤ (h.fs.map callD).length) && decide ((h.fs.map callD).length ≤ 40)) && (decide (1 ≤ (h.ss.map hsD).length) && decide ((h.ss.map hsD).length ≤ 20)) && hscriptsB h.b h.w ((h.ss.map hsD).length : Nat) 0 (h.ss.map hsD) && (h.fs.map callD).all (callingB h.w ((h.ss.map hsD).length : Nat))) = true := z
  simp only [Bool.and_eq_true, decide_eq_true_eq] at z
  obtain ⟨⟨⟨⟨⟨z1, z2⟩, z3⟩, z4⟩, z5⟩, z6⟩ := z
  rw [List.length_map] at z3
  exact ⟨z1.2, z2.2, z3.1, z5, z6⟩
theorem ft_f {a b i : Int} (h : ¬ (a ≤ i ∧ i ≤ b)) : fromTo a b (.int i) = false := by
  show (decide (a ≤ i) && decide (i ≤ b)) = false
  by_cases q : a ≤ i
  · rw [decide_eq_false fun z => h ⟨q, z⟩, Bool.and_false]
  · rw [decide_eq_false q, Bool.false_and]
theorem three_raise (b w n a : Int) (x c : D) : hthreeB b w n a "raise" x c = (fromTo 0 (b - 1) x && fromTo 1 99 c) := by
  unfold hthreeB
  rw [if_pos rfl]
theorem three_await (b w n a : Int) (x c : D) : hthreeB b w n a "await" x c = (fromTo 0 (b - 1) x && fromTo 1 9999 c) := by
  unfold hthreeB
  rw [if_neg (by decide), if_pos rfl]
theorem three_begin (b w n a : Int) (x c : D) : hthreeB b w n a "begin" x c = (fromTo (a + 1) (n - 1) x && membersB w c) := by
  unfold hthreeB
  rw [if_neg (by decide), if_neg (by decide), decide_eq_true rfl, Bool.true_and]
theorem two_walls (w : Int) {v : Str} (x : D) (h1 : v ≠ "work") (h2 : v ≠ "say") : htwoB w v x = (decide (v ∈ (["come", "go", "leave"] : List Str)) && fromTo 0 (w - 1) x) := by
  unfold htwoB
  rw [if_neg h1, if_neg h2]
theorem no_call {h : HH} {c : Call} (hc : c ∈ h.fs) (f : callingB h.w ((h.ss.map hsD).length : Nat) (callD c) = false) : preB h.d = false := preB_no fun z => by
  have := List.all_eq_true.mp (preB_parts z).2.2.2.2 (callD c) (List.mem_map.mpr ⟨c, hc, rfl⟩)
  rw [f] at this
  cases this
theorem no_deed {h : HH} {s0 : List Hd} {sr : List (List Hd)} {d : Hd} (f : hdeedB h.b h.w ((sr.length + 1 : Nat) : Int) 0 d.d = false) : preB (badD h s0 sr d).d = false := preB_no fun z => by
  have z2 := (preB_parts z).2.2.2.1
  have e : (((badD h s0 sr d).ss.map hsD).length : Int) = ((sr.length + 1 : Nat) : Int) := by rw [List.length_map] <;> rfl
  rw [e] at z2
  have z2 : (hscriptB h.b h.w ((sr.length + 1 : Nat) : Int) 0 (hsD (s0 ++ [d])) && hscriptsB h.b h.w ((sr.length + 1 : Nat) : Int) (0 + 1) (sr.map hsD)) = true := z2
  rw [Bool.and_eq_true] at z2
  have z3 := z2.1
  have z3 : (decide (((s0 ++ [d]).map Hd.d).length ≤ 80) && ((s0 ++ [d]).map Hd.d).all (hdeedB h.b h.w ((sr.length + 1 : Nat) : Int) 0)) = true := z3
  rw [Bool.and_eq_true] at z3
  have z4 := List.all_eq_true.mp z3.2 d.d (List.mem_map.mpr ⟨d, List.mem_append_right _ List.mem_cons_self, rfl⟩)
  rw [f] at z4
  cases z4
theorem drawn_ht {h : HH} (d : Drawn 3 6 h) : HT' h := by
  have v := d.vd
  have mok : ∀ ms : Mem, membersB h.w (memD ms) = true → MT ms := fun ms hm => by
    have mo := MemOk.of hm
    have := d.w3
    have := mo.len_le
    refine ⟨by omega, fun p hp => ⟨?_, mo.md p hp⟩⟩
    have := mo.lt p hp
    omega
  have hb := v.b
  have hw := v.w
  refine ⟨by omega, by omega, d.s3, by have := d.f4; omega, fun s hs => by have := d.sl s hs; omega, fun s hs e he => ?_, fun c hc => ?_⟩
  · obtain ⟨i, hi⟩ := List.mem_iff_getElem?.mp hs
    have w := v.sd i s hi e he
    have hn := v.s20
    cases e with
    | rai b x =>
      obtain ⟨w1, w2, w3⟩ := w
      exact ⟨by omega, by omega⟩
    | awa b x =>
      obtain ⟨w1, w2, w3⟩ := w
      exact ⟨by omega, by omega⟩
    | beg i' ms =>
      obtain ⟨w1, w2, w3⟩ := w
      exact ⟨by omega, mok ms w3⟩
    | work x =>
      have w : x ≤ 999 := w
      show x < 10 ^ 30
      omega
    | say x =>
      have w : ((decide (1 ≤ x.length) && decide (x.length ≤ 8)) && x.cps.toList.all fun c => decide (c ∈ LETS.cps.toList)) = true := w
      rw [Bool.and_eq_true, Bool.and_eq_true] at w
      exact ⟨of_decide_eq_true w.1.1, by have := of_decide_eq_true w.1.2; omega, fun c hc => of_decide_eq_true (List.all_eq_true.mp w.2 c hc)⟩
    | com x =>
      have w : x < h.w := w
      show x < 10 ^ 30
      omega
    | go x =>
      have w : x < h.w := w
      show x < 10 ^ 30
      omega
    | lve x =>
      have w : x < h.w := w
      show x < 10 ^ 30
      omega
  · obtain ⟨w1, w2⟩ := v.fc c hc
    have hn := v.s20
    exact ⟨by omega, mok c.2 w2⟩
theorem both_ok : okS "both" := okS_w (by decide +kernel)
theorem badE_no {h : HH} {N : Nat} (d : Drawn 3 6 h) (n1 : 1000 ≤ N) (n2 : N < 10 ^ 30) : ∀ h' ∈ badE h N, NoH h' := fun h' hm => by
  have t := drawn_ht d
  have fn := d.fn
  have v := d.vd
  have hb := v.b
  have hw := d.w3
  have hs := d.s3
  have hf := d.f4
  have fcs : ∀ (c : Call), c.1 < 10 ^ 30 ∧ MT c.2 → ∀ x ∈ h.fs ++ [c], x.1 < 10 ^ 30 ∧ MT x.2 := fun c hc x hx => by
    rcases List.mem_append.mp hx with q | q
    · exact t.fc x q
    · rw [List.mem_singleton.mp q]; exact hc
  have fns : ∀ (c : Call), memFn c.2 → ∀ x ∈ h.fs ++ [c], memFn x.2 := fun c hc x hx => by
    rcases List.mem_append.mp hx with q | q
    · exact fn.fs x q
    · rw [List.mem_singleton.mp q]; exact hc
  have fl : ∀ c : Call, (h.fs ++ [c]).length ≤ 4 := fun c => by rw [List.length_append, List.length_singleton]; omega
  have both : ("both" : Str) ∈ MD := by decide
  unfold badE at hm
  simp only [List.mem_cons, List.not_mem_nil, or_false] at hm
  rcases hm with q | q | q | q | q | q | q | q <;> subst q
  · exact ⟨⟨by show 100 < 10 ^ 30; decide, t.w, t.ss, t.fs, t.sl, t.sd, t.fc⟩, ⟨fn.fs, fn.ss⟩, preB_no fun z => by
      have : ((100 : Nat) : Int) ≤ 99 := (preB_parts z).1
      omega⟩
  · exact ⟨⟨t.b, by show 7 < 10 ^ 30; decide, t.ss, t.fs, t.sl, t.sd, t.fc⟩, ⟨fn.fs, fn.ss⟩, preB_no fun z => by
      have : ((7 : Nat) : Int) ≤ 6 := (preB_parts z).2.1
      omega⟩
  · exact ⟨⟨n2, t.w, t.ss, t.fs, t.sl, t.sd, t.fc⟩, ⟨fn.fs, fn.ss⟩, preB_no fun z => by
      have : (N : Int) ≤ 99 := (preB_parts z).1
      omega⟩
  · exact ⟨⟨t.b, t.w, t.ss, Nat.zero_le _, t.sl, t.sd, fun c hc => absurd hc List.not_mem_nil⟩, ⟨fun c hc => absurd hc List.not_mem_nil, fn.ss⟩, preB_no fun z => absurd (preB_parts z).2.2.1 (by show ¬ 1 ≤ 0; decide)⟩
  · refine ⟨⟨t.b, t.w, t.ss, fl _, t.sl, t.sd, fcs _ ⟨by show h.ss.length < 10 ^ 30; omega, by show 0 ≤ 10; decide, fun p hp => absurd hp List.not_mem_nil⟩⟩, ⟨fns _ fun p hp => absurd hp List.not_mem_nil, fn.ss⟩, no_call (c := (h.ss.length, [])) (List.mem_append_right _ List.mem_cons_self) ?_⟩
    show (fromTo 0 (((h.ss.map hsD).length : Int) - 1) (.int (h.ss.length : Int)) && _) = false
    rw [List.length_map, ft_f (by omega), Bool.false_and]
  · refine ⟨⟨t.b, t.w, t.ss, fl _, t.sl, t.sd, fcs _ ⟨by show 0 < 10 ^ 30; decide, by show 1 ≤ 10; decide, fun p hp => ?_⟩⟩, ⟨fns _ fun p hp => ?_, fn.ss⟩, no_call (c := (0, [(h.w, "both")])) (List.mem_append_right _ List.mem_cons_self) ?_⟩
    · rw [List.mem_singleton.mp hp]; exact ⟨by show h.w < 10 ^ 30; omega, both⟩
    · rw [List.mem_singleton.mp hp]; exact both_ok
    · show (fromTo 0 (((h.ss.map hsD).length : Int) - 1) (.int 0) && ((fromTo (-1 + 1) ((h.w : Int) - 1) (.int (h.w : Int)) && decide (("both" : Str) ∈ MD)) && true)) = false
      rw [ft_f (a := -1 + 1) (b := (h.w : Int) - 1) (i := (h.w : Int)) (by omega), Bool.false_and, Bool.false_and, Bool.and_false]
  · exact ⟨⟨t.b, t.w, Nat.zero_le _, Nat.zero_le _, fun s hs => absurd hs List.not_mem_nil, fun s hs => absurd hs List.not_mem_nil, fun c hc => absurd hc List.not_mem_nil⟩, ⟨fun c hc => absurd hc List.not_mem_nil, fun s hs => absurd hs List.not_mem_nil⟩, preB_no fun z => absurd (preB_parts z).2.2.1 (by show ¬ 1 ≤ 0; decide)⟩
  · refine ⟨⟨t.b, by show h.w + 2 < 10 ^ 30; omega, t.ss, fl _, t.sl, t.sd, fcs _ ⟨by show 0 < 10 ^ 30; decide, by show 2 ≤ 10; decide, fun p hp => ?_⟩⟩, ⟨fns _ fun p hp => ?_, fn.ss⟩, no_call (c := (0, [(1, "both"), (0, "both")])) (List.mem_append_right _ List.mem_cons_self) ?_⟩
    · rcases List.mem_cons.mp hp with q | q
      · rw [q]; exact ⟨by show 1 < 10 ^ 30; decide, both⟩
      · rw [List.mem_singleton.mp q]; exact ⟨by show 0 < 10 ^ 30; decide, both⟩
    · rcases List.mem_cons.mp hp with q | q
      · rw [q]; exact both_ok
      · rw [List.mem_singleton.mp q]; exact both_ok
    · show (fromTo 0 (((h.ss.map hsD).length : Int) - 1) (.int 0) && ((fromTo (-1 + 1) (((h.w + 2 : Nat) : Int) - 1) (.int 1) && decide (("both" : Str) ∈ MD)) && ((fromTo (1 + 1) (((h.w + 2 : Nat) : Int) - 1) (.int 0) && decide (("both" : Str) ∈ MD)) && true))) = false
      rw [ft_f (a := 1 + 1) (b := ((h.w + 2 : Nat) : Int) - 1) (i := 0) (by omega), Bool.false_and, Bool.false_and, Bool.and_false, Bool.and_false]
theorem badD_no {h : HH} {N : Nat} {s0 : List Hd} {sr : List (List Hd)} (dr : Drawn 3 6 h) (n1 : 100000 ≤ N) (n2 : N < 10 ^ 30) (e : h.ss = s0 :: sr) : ∀ d ∈ badDs h N, NoH (badD h s0 sr d) := fun d hm => by
  have t := drawn_ht dr
  have fn := dr.fn
  have v := dr.vd
  have hb := v.b
  have hw := dr.w3
  have hs := dr.s3
  rw [e, List.length_cons] at hs
  have base : ∀ d : Hd, DT d → d.Fn → hdeedB h.b h.w ((sr.length + 1 : Nat) : Int) 0 d.d = false → NoH (badD h s0 sr d) := fun d h1 h2 h3 => by
    refine ⟨⟨t.b, t.w, ?_, t.fs, fun s hm => ?_, fun s hm x hx => ?_, t.fc⟩, ⟨fn.fs, fun s hm x hx => ?_⟩, no_deed h3⟩
    · show sr.length + 1 ≤ 3
      exact hs
    · rcases List.mem_cons.mp hm with q | q
      · have := dr.sl s0 (by rw [e]; exact List.mem_cons_self)
        rw [q, List.length_append, List.length_singleton]
        omega
      · exact t.sl s (by rw [e]; exact List.mem_cons_of_mem _ q)
    · rcases List.mem_cons.mp hm with q | q
      · rw [q] at hx
        rcases List.mem_append.mp hx with z | z
        · exact t.sd s0 (by rw [e]; exact List.mem_cons_self) x z
        · rw [List.mem_singleton.mp z]; exact h1
      · exact t.sd s (by rw [e]; exact List.mem_cons_of_mem _ q) x hx
    · rcases List.mem_cons.mp hm with q | q
      · rw [q] at hx
        rcases List.mem_append.mp hx with z | z
        · exact fn.ss s0 (by rw [e]; exact List.mem_cons_self) x z
        · rw [List.mem_singleton.mp z]; exact h2
      · exact fn.ss s (by rw [e]; exact List.mem_cons_of_mem _ q) x hx
  have el : h.ss.length = sr.length + 1 := by rw [e, List.length_cons]
  have z30 : (0 : Nat) < 10 ^ 30 := by decide
  unfold badDs at hm
  simp only [List.mem_cons, List.not_mem_nil, or_false] at hm
  rcases hm with q | q | q | q | q | q | q | q | q | q | q | q | q | q | q <;> subst q
  · refine base _ ⟨by omega, by decide⟩ trivial ?_
    show hthreeB h.b h.w _ 0 "raise" (.int (h.b : Int)) (.int 1) = false
    rw [three_raise, ft_f (a := 0) (b := (h.b : Int) - 1) (i := (h.b : Int)) (by omega), Bool.false_and]
  · refine base _ ⟨by decide, by decide⟩ trivial ?_
    show hthreeB h.b h.w _ 0 "raise" (.int 0) (.int 0) = false
    rw [three_raise, ft_f (a := 1) (b := 99) (i := 0) (by omega), Bool.and_false]
  · refine base _ ⟨by decide, by decide⟩ trivial ?_
    show hthreeB h.b h.w _ 0 "raise" (.int 0) (.int 100) = false
    rw [three_raise, ft_f (a := 1) (b := 99) (i := 100) (by omega), Bool.and_false]
  · refine base _ ⟨by decide, by decide⟩ trivial ?_
    show hthreeB h.b h.w _ 0 "await" (.int 0) (.int 0) = false
    rw [three_await, ft_f (a := 1) (b := 9999) (i := 0) (by omega), Bool.and_false]
  · refine base _ ⟨by decide, by decide⟩ trivial ?_
    show hthreeB h.b h.w _ 0 "await" (.int 0) (.int 10000) = false
    rw [three_await, ft_f (a := 1) (b := 9999) (i := 10000) (by omega), Bool.and_false]
  · refine base _ (show 1000 < 10 ^ 30 by decide) trivial ?_
    show fromTo 0 999 (.int 1000) = false
    exact ft_f (by omega)
  · refine base _ ⟨by decide, by decide, by decide⟩ (okS_w (by decide +kernel)) ?_
    show wordB (.str "abcdefghi") = false
    decide +kernel
  · refine base _ (show h.w < 10 ^ 30 by omega) trivial ?_
    show htwoB h.w "come" (.int (h.w : Int)) = false
    rw [two_walls _ _ (by decide) (by decide), ft_f (a := 0) (b := (h.w : Int) - 1) (i := (h.w : Int)) (by omega), Bool.and_false]
  · refine base _ (show h.w < 10 ^ 30 by omega) trivial ?_
    show htwoB h.w "go" (.int (h.w : Int)) = false
    rw [two_walls _ _ (by decide) (by decide), ft_f (a := 0) (b := (h.w : Int) - 1) (i := (h.w : Int)) (by omega), Bool.and_false]
  · refine base _ (show h.w < 10 ^ 30 by omega) trivial ?_
    show htwoB h.w "leave" (.int (h.w : Int)) = false
    rw [two_walls _ _ (by decide) (by decide), ft_f (a := 0) (b := (h.w : Int) - 1) (i := (h.w : Int)) (by omega), Bool.and_false]
  · refine base _ ⟨by decide, by decide, fun p hp => absurd hp List.not_mem_nil⟩ (fun p hp => absurd hp List.not_mem_nil) ?_
    show hthreeB h.b h.w ((sr.length + 1 : Nat) : Int) 0 "begin" (.int 0) (memD []) = false
    rw [three_begin, ft_f (a := 0 + 1) (b := ((sr.length + 1 : Nat) : Int) - 1) (i := 0) (by omega), Bool.false_and]
  · refine base _ ⟨by omega, by decide, fun p hp => absurd hp List.not_mem_nil⟩ (fun p hp => absurd hp List.not_mem_nil) ?_
    show hthreeB h.b h.w ((sr.length + 1 : Nat) : Int) 0 "begin" (.int (h.ss.length : Int)) (memD []) = false
    rw [three_begin, ft_f (a := 0 + 1) (b := ((sr.length + 1 : Nat) : Int) - 1) (i := (h.ss.length : Int)) (by omega), Bool.false_and]
  · refine base _ n2 trivial ?_
    show fromTo 0 999 (.int (N : Int)) = false
    exact ft_f (by omega)
  · refine base _ ⟨n2, by decide⟩ trivial ?_
    show hthreeB h.b h.w _ 0 "raise" (.int (N : Int)) (.int 1) = false
    rw [three_raise, ft_f (a := 0) (b := (h.b : Int) - 1) (i := (N : Int)) (by omega), Bool.false_and]
  · refine base _ ⟨by omega, n2⟩ trivial ?_
    show hthreeB h.b h.w _ 0 "await" (.int (h.b : Int)) (.int (N : Int)) = false
    rw [three_await, ft_f (a := 1) (b := 9999) (i := (N : Int)) (by omega), Bool.and_false]

end G
namespace G
/-! ### the law's words -/
def wordOf (c : Str) : Str := if c = "NoHouse" then "house" else "text"
section
variable {S : Sto} {P : D → Sto → Prop}
theorem frz_self {e : D} (he : ltD 0 e = true) (k : P e S) : (∀ j d, j < S.length → S[j]? = some d → S[j]? = some d ∨ ltC S.length d = true) ∧ ∃ d, mapD (rsv S.length S 64) e = some d ∧ P d (S.take S.length) :=
  ⟨fun j d _ h => .inl h, e, mapD_id e he, by rw [List.take_length]; exact k⟩
theorem frz_at {c : Cell} {e : D} (he : ltD 0 e = true) (k : P e S) : (∀ j d, j < S.length → (S ++ [c])[j]? = some d → S[j]? = some d ∨ ltC S.length d = true) ∧ ∃ d, mapD (rsv S.length (S ++ [c]) 64) e = some d ∧ P d ((S ++ [c]).take S.length) :=
  ⟨fun j d hj h => .inl (by rw [List.getElem?_append_left hj] at h; exact h), e, mapD_id e he, by rw [List.take_left]; exact k⟩
theorem lkind_wp {n : Nat} {c : Str} (hS : S[n]? = some (.exc c)) (hc : c = "NoHouse" ∨ c = "NoText") (k : P (.str (wordOf c)) S) : Wp (f__law_e_kind [.ref n] S) P := by
  unfold f__law_e_kind d__law_e_kind
  refine wp_frz ?_
  rcases hc with hc | hc <;> subst hc
  · have i1 : isV [("NoHouse", false), ("NoText", false)] S (.ref n) = some (.bl false) := (isV_ref hS).trans rfl
    have i2 : isV [("NoHouse", false), ("NoText", true)] S (.ref n) = some (.bl false) := (isV_ref hS).trans rfl
    have i3 : isV [("NoHouse", true), ("NoText", false)] S (.ref n) = some (.bl true) := (isV_ref hS).trans rfl
    have i4 : isV [("NoHouse", true), ("NoText", true)] S (.ref n) = some (.bl true) := (isV_ref hS).trans rfl
    simp_arith [w_IsE, k_IsE, i1, i2, i3, i4]
    refine w_Meth ?_
    simp_arith
    refine ⟨rfl, ?_⟩
    have e1 : oCountB S (.lst [.bl false, .bl false, .bl false, .bl true, .bl false, .bl false, .bl false, .bl false, .bl false, .bl false]) (.bl true) = some (.int 1) := rfl
    simp_arith [e1, w_IsE, k_IsE, i4]
    refine w_Meth ?_
    simp_arith
    refine ⟨rfl, ?_⟩
    have e2 : oIndexB S (.lst [.bl false, .bl false, .bl false, .bl true, .bl false, .bl false, .bl false, .bl false, .bl false, .bl false]) (.bl true) = some (.int 3) := rfl
    simp_arith [e2]
    exact frz_self rfl k
  · have i1 : isV [("NoHouse", false), ("NoText", false)] S (.ref n) = some (.bl false) := (isV_ref hS).trans rfl
    have i2 : isV [("NoHouse", false), ("NoText", true)] S (.ref n) = some (.bl true) := (isV_ref hS).trans rfl
    have i3 : isV [("NoHouse", true), ("NoText", false)] S (.ref n) = some (.bl false) := (isV_ref hS).trans rfl
    have i4 : isV [("NoHouse", true), ("NoText", true)] S (.ref n) = some (.bl true) := (isV_ref hS).trans rfl
    simp_arith [w_IsE, k_IsE, i1, i2, i3, i4]
    refine w_Meth ?_
    simp_arith
    refine ⟨rfl, ?_⟩
    have e1 : oCountB S (.lst [.bl false, .bl false, .bl false, .bl false, .bl false, .bl false, .bl false, .bl true, .bl false, .bl false]) (.bl true) = some (.int 1) := rfl
    simp_arith [e1, w_IsE, k_IsE, i4]
    refine w_Meth ?_
    simp_arith
    refine ⟨rfl, ?_⟩
    have e2 : oIndexB S (.lst [.bl false, .bl false, .bl false, .bl false, .bl false, .bl false, .bl false, .bl true, .bl false, .bl false]) (.bl true) = some (.int 7) := rfl
    have e3 : atI [D.str "count", .str "deed", .str "hand", .str "house", .str "name", .str "row", .str "stand", .str "text", .str "stopper", .str "many"] 7 = some (.str "text") := rfl
    simp_arith [e2, e3]
    exact frz_self rfl k
theorem word_text {l : List Nat} (b : BT l) (k : P (.str "text") S) : Wp (f__law_e_word [.int 0, .str (tx l)] S) P := by
  unfold f__law_e_word d__law_e_word
  refine wp_frz ?_
  simp_arith
  refine w_TryX (c := "NoText") (ex_if ?_) (by decide) (by show 3 < 4; decide)
  simp_arith
  refine ex_expr (ex_callF ?_)
  simp_arith
  refine (b S (fun T => T = S) rfl).mono fun T e => ?_
  subst e
  refine lkind_wp (app_at T _) (.inr rfl) ?_
  simp_arith
  exact frz_at rfl k
theorem word_no {h : HH} (n : NoH h) (k : P (.str "house") S) : Wp (f__law_e_word [.int 0, .str (tx (textL h))] S) P := by
  unfold f__law_e_word d__law_e_word
  refine wp_frz ?_
  simp_arith
  refine w_TryX (c := "NoHouse") (ex_if ?_) (by decide) (by show 3 < 4; decide)
  simp_arith
  refine ex_expr (ex_callF ?_)
  simp_arith
  refine (readhouse_no (Q := fun T => T = S) n.t n.fn n.is rfl).mono fun T e => ?_
  subst e
  refine lkind_wp (app_at T _) (.inl rfl) ?_
  simp_arith
  exact frz_at rfl k
theorem show_no {h : HH} (n : NoH h) {Q : Sto → Prop} (q : Q S) : Ex (f_show_house [h.d] S) "NoHouse" Q := by
  unfold f_show_house d_show_house
  refine ex_frz (ex_fun (ex_seq1 (ex_expr (ex_callF ?_))))
  simp_arith
  unfold f_need_house d_need_house
  refine ex_fun (ex_if ?_)
  simp_arith
  refine n.is _ _ ?_
  simp_arith
  exact ex_raise (own_fin (Own.refl S) q)
theorem word_show {h : HH} (n : NoH h) (k : P (.str "house") S) : Wp (f__law_e_word [.int 1, h.d] S) P := by
  unfold f__law_e_word d__law_e_word
  refine wp_frz ?_
  simp_arith
  refine w_TryX (c := "NoHouse") (ex_if ?_) (by decide) (by show 3 < 4; decide)
  simp_arith
  refine ex_expr (ex_callF ?_)
  simp_arith
  refine (show_no (Q := fun T => T = S) n rfl).mono fun T e => ?_
  subst e
  refine lkind_wp (app_at T _) (.inl rfl) ?_
  simp_arith
  exact frz_at rfl k
theorem word_good {h : HH} (t : HT' h) (fn : h.Fn) (is : ∀ (S : Sto) (P : D → Sto → Prop), P (.bl true) S → Wp (f_is_house [h.d] S) P) (k : P (.str "") S) : Wp (f__law_e_word [.int 0, .str (tx (textL h))] S) P := by
  unfold f__law_e_word d__law_e_word
  refine wp_frz ?_
  simp_arith
  refine w_Try ?_
  simp_arith
  refine readhouse_wp t fn is ?_
  simp_arith
  exact frz_self rfl k
theorem ltL_hs : ∀ ls : List HH, (∀ h ∈ ls, h.Fn) → ltL 0 (ls.map HH.d) = true
  | [], _ => rfl
  | l :: ls, h => by
    show (ltD 0 l.d && ltL 0 (ls.map HH.d)) = true
    rw [ltL_hs ls fun x hx => h x (List.mem_cons_of_mem _ hx), (plt_h (n := 0) (h l List.mem_cons_self)).lt] <;> rfl
theorem nohouses_wp {ns : List Int} {h : HH} (d : Drawn 3 6 h) (dk : DK ns 0 S) (k : ∀ (ls : List HH) (S' : Sto), (∀ h' ∈ ls, NoH h') → ls.length ≤ 30 → Dr ns 0 S S' → P (.lst (ls.map HH.d)) S') : Wp (f__law_e_no_houses [.ref 0, h.d] S) P := by
  have hS0 := dk.lt
  have v := d.vd
  have hs := d.s3
  have hf := d.f4
  obtain ⟨s0, sr, es⟩ : ∃ s0 sr, h.ss = s0 :: sr := List.exists_cons_of_ne_nil fun z => by have := v.s1; rw [z] at this; exact absurd this (by decide)
  have hd : h.d = .tup [.int (h.b : Int), .int (h.w : Int), .tup (h.fs.map callD), .tup (h.ss.map hsD)] := rfl
  have p30 : ∀ T : Sto, oPow T (.int 10) (.int 30) = some (.int 1000000000000000000000000000000) := fun _ => rfl
  have p6 : ∀ T : Sto, oPow T (.int 10) (.int 6) = some (.int 1000000) := fun _ => rfl
  unfold f__law_e_no_houses d__law_e_no_houses
  refine wp_frz ?_
  rw [hd]
  simp_arith [p30, p6, List.length_map]
  refine pick_dr dk (by decide) (by decide) fun x S1 x1 x2 dr1 => ?_
  obtain ⟨N, hN⟩ : ∃ N : Nat, 1000000000000000000000000000000 - 1 - x = (N : Int) := ⟨(1000000000000000000000000000000 - 1 - x).toNat, by omega⟩
  have hN' : 999999999999999999999999999999 - x = (N : Int) := by omega
  have n1 : 100000 ≤ N := by omega
  have n2 : N < 10 ^ 30 := by omega
  have af : ∀ (T : Sto) (c : D), oAdd T (.tup (h.fs.map callD)) (.tup [c]) = some (.tup (h.fs.map callD ++ [c])) := fun T c => add_tt (by rw [List.length_map]; show _ + 1 ≤ 1000; omega)
  have w2 : (h.w : Int) + 2 = ((h.w + 2 : Nat) : Int) := rfl
  simp_arith [hN, hN']
  obtain ⟨E1, hE1⟩ : ∃ E1 : List HH, E1 = [⟨100, h.w, h.fs, h.ss⟩, ⟨h.b, 7, h.fs, h.ss⟩, ⟨N, h.w, h.fs, h.ss⟩] := ⟨_, rfl⟩
  have eE1 : [D.tup [.int 100, .int (h.w : Int), .tup (h.fs.map callD), .tup (h.ss.map hsD)], .tup [.int (h.b : Int), .int 7, .tup (h.fs.map callD), .tup (h.ss.map hsD)], .tup [.int (N : Int), .int (h.w : Int), .tup (h.fs.map callD), .tup (h.ss.map hsD)]] = E1.map HH.d := by rw [hE1] <;> rfl
  have lE1 : (E1.map HH.d).length = 3 := by rw [hE1] <;> rfl
  rw [eE1]
  refine w_AddN ?_
  simp_arith [af]
  refine ⟨_, _, lst_ref (app_at _ _), rfl, by rw [lE1, sizeLine_eq]; show 3 + 2 ≤ _; decide, ?_⟩
  obtain ⟨E2, hE2⟩ : ∃ E2 : List HH, E2 = E1 ++ [⟨h.b, h.w, [], h.ss⟩, ⟨h.b, h.w, h.fs ++ [((h.ss.length, []) : Call)], h.ss⟩] := ⟨_, rfl⟩
  have eE2 : E1.map HH.d ++ [D.tup [.int (h.b : Int), .int (h.w : Int), .tup [], .tup (h.ss.map hsD)], .tup [.int (h.b : Int), .int (h.w : Int), .tup (h.fs.map callD ++ [.tup [.int (h.ss.length : Int), .tup []]]), .tup (h.ss.map hsD)]] = E2.map HH.d := by
    rw [hE2, List.map_append]
    refine congrArg (E1.map HH.d ++ ·) ?_
    show _ = [D.tup [.int (h.b : Int), .int (h.w : Int), .tup [], .tup (h.ss.map hsD)], .tup [.int (h.b : Int), .int (h.w : Int), .tup ((h.fs ++ [((h.ss.length, []) : Call)]).map callD), .tup (h.ss.map hsD)]]
    rw [List.map_append] <;> rfl
  have lE2 : (E2.map HH.d).length = 5 := by rw [hE2, hE1] <;> rfl
  rw [eE2]
  simp_arith
  refine w_AddN ?_
  simp_arith [af]
  refine ⟨_, _, lst_ref (app_at _ _), rfl, by rw [lE2, sizeLine_eq]; show 5 + 2 ≤ _; decide, ?_⟩
  obtain ⟨E3, hE3⟩ : ∃ E3 : List HH, E3 = E2 ++ [⟨h.b, h.w, h.fs ++ [((0, [(h.w, "both")]) : Call)], h.ss⟩, ⟨h.b, h.w, [], []⟩] := ⟨_, rfl⟩
  have eE3 : E2.map HH.d ++ [D.tup [.int (h.b : Int), .int (h.w : Int), .tup (h.fs.map callD ++ [.tup [.int 0, .tup [.tup [.int (h.w : Int), .str "both"]]]]), .tup (h.ss.map hsD)], .tup [.int (h.b : Int), .int (h.w : Int), .tup [], .tup []]] = E3.map HH.d := by
    rw [hE3, List.map_append]
    refine congrArg (E2.map HH.d ++ ·) ?_
    show _ = [D.tup [.int (h.b : Int), .int (h.w : Int), .tup ((h.fs ++ [((0, [(h.w, "both")]) : Call)]).map callD), .tup (h.ss.map hsD)], .tup [.int (h.b : Int), .int (h.w : Int), .tup [], .tup []]]
    rw [List.map_append] <;> rfl
  have lE3 : (E3.map HH.d).length = 7 := by rw [hE3, hE2, hE1] <;> rfl
  rw [eE3]
  simp_arith
  refine w_AddN ?_
  simp_arith [af, w2]
  refine ⟨_, _, lst_ref (app_at _ _), rfl, by rw [lE3, sizeLine_eq]; show 7 + 1 ≤ _; decide, ?_⟩
  have eE4 : E3.map HH.d ++ [D.tup [.int (h.b : Int), .int ((h.w + 2 : Nat) : Int), .tup (h.fs.map callD ++ [.tup [.int 0, .tup [.tup [.int 1, .str "both"], .tup [.int 0, .str "both"]]]]), .tup (h.ss.map hsD)]] = (badE h N).map HH.d := by
    have e : badE h N = E3 ++ [⟨h.b, h.w + 2, h.fs ++ [((0, [(1, "both"), (0, "both")]) : Call)], h.ss⟩] := by rw [hE3, hE2, hE1] <;> rfl
    rw [e, List.map_append]
    refine congrArg (E3.map HH.d ++ ·) ?_
    show _ = [D.tup [.int (h.b : Int), .int ((h.w + 2 : Nat) : Int), .tup ((h.fs ++ [((0, [(1, "both"), (0, "both")]) : Call)]).map callD), .tup (h.ss.map hsD)]]
    rw [List.map_append] <;> rfl
  rw [eE4]
  have bE := badE_no (N := N) d (by omega) n2
  have bD := badD_no d n1 n2 es
  have lE4 : (badE h N).length = 8 := rfl
  obtain ⟨T2, hT2⟩ : ∃ T2 : Sto, T2 = S1 ++ [Cell.lst (E1.map HH.d)] ++ [Cell.lst (E2.map HH.d)] ++ [Cell.lst (E3.map HH.d)] := ⟨_, rfl⟩
  have dr2 : Dr ns 0 S T2 := by rw [hT2]; exact ((dr1.app _).app _).app _
  have dr3 : Dr ns 0 S (T2 ++ [Cell.lst ((badE h N).map HH.d)]) := dr2.app _
  have hTl := dr2.len
  rw [← hT2]
  have add2 : ∀ (T : Sto) (a b : List D), a.length + b.length ≤ 1000 → oAdd T (.lst a) (.lst b) = some (.lst (a ++ b)) := fun T a b h => add_ll h
  have eD : [D.tup [.str "raise", .int (h.b : Int), .int 1], .tup [.str "raise", .int 0, .int 0], .tup [.str "raise", .int 0, .int 100], .tup [.str "await", .int 0, .int 0], .tup [.str "await", .int 0, .int 10000], .tup [.str "work", .int 1000], .tup [.str "say", .str "abcdefghi"], .tup [.str "come", .int (h.w : Int)], .tup [.str "go", .int (h.w : Int)], .tup [.str "leave", .int (h.w : Int)], .tup [.str "begin", .int 0, .tup []], .tup [.str "begin", .int (h.ss.length : Int), .tup []], .tup [.str "work", .int (N : Int)], .tup [.str "raise", .int (N : Int), .int 1], .tup [.str "await", .int (h.b : Int), .int (N : Int)]] = (badDs h N).map Hd.d := rfl
  simp_arith [eD]
  have ix0 : ∀ T : Sto, oIx T (.tup (h.ss.map hsD)) (.int 0) = some (.tup (s0.map Hd.d)) := fun T => by rw [es, ix_tupD]; exact at_nat (by decide) rfl
  have ct : cutD (h.ss.map hsD) (some 1) none = sr.map hsD := by rw [es, List.map_cons, cut_tail]
  have sl0 := d.sl s0 (by rw [es]; exact List.mem_cons_self)
  have srl : sr.length ≤ 2 := by rw [es, List.length_cons] at hs; omega
  have a1 : ∀ (T : Sto) (x : Hd), oAdd T (.tup (s0.map Hd.d)) (.tup [x.d]) = some (hsD (s0 ++ [x])) := fun T x => by
    rw [add_tt (by rw [List.length_map]; show _ + 1 ≤ 1000; omega)]
    unfold hsD
    rw [List.map_append] <;> rfl
  have a2 : ∀ (T : Sto) (y : D), oAdd T (.tup [y]) (.tup (sr.map hsD)) = some (.tup (y :: sr.map hsD)) := fun T y => by
    rw [add_tt (by rw [List.length_map]; show 1 + _ ≤ 1000; omega)] <;> rfl
  refine forGo_wp (fun rest env U => ∃ (u v : List Hd) (e10 : Option D), badDs h N = u ++ v ∧ rest = v.map Hd.d ∧ env = [some (.ref 0), some (.tup [.int (h.b : Int), .int (h.w : Int), .tup (h.fs.map callD), .tup (h.ss.map hsD)]), some (.int (h.b : Int)), some (.int (h.w : Int)), some (.tup (h.fs.map callD)), some (.tup (h.ss.map hsD)), some (.int (h.ss.length : Int)), some (.int (N : Int)), some (.ref T2.length), some (.lst ((badDs h N).map Hd.d)), e10] ∧
      U = T2 ++ [Cell.lst ((badE h N ++ u.map (badD h s0 sr)).map HH.d)]) _ _ _
    ⟨[], badDs h N, _, rfl, rfl, rfl, by rw [List.map_nil, List.append_nil]⟩ (fun d' rest env U hI => ?_) fun env U hI => ?_
  · obtain ⟨u, v, e10, eu, er, e, eU⟩ := hI
    cases v with
    | nil => cases er
    | cons y v =>
    obtain ⟨ed, er2⟩ := List.cons.inj er
    subst ed e eU
    have ul : u.length ≤ 15 := by
      have := congrArg List.length eu
      rw [List.length_append] at this
      have e15 : (badDs h N).length = 15 := rfl
      omega
    refine ⟨_, rfl, ?_⟩
    simp_arith
    refine w_App ?_
    simp_arith
    refine k_App (app_at _ _) ?_
    simp_arith [ix0, a1, ct, a2]
    refine ⟨_, app_at _ _, by rw [List.length_map, List.length_append, lE4, List.length_map, sizeLine_eq]; omega, ?_⟩
    rw [set_last]
    refine ⟨u ++ [y], v, _, by rw [eu, List.append_assoc]; rfl, er2, rfl, ?_⟩
    rw [List.map_append (l₂ := [y]), ← List.append_assoc, List.map_append (l₂ := [y].map (badD h s0 sr))] <;> rfl
  · obtain ⟨u, v, e10, eu, er, e, eU⟩ := hI
    cases v with
    | cons y v => cases er
    | nil =>
    rw [List.append_nil] at eu
    subst e eU
    rw [← eu]
    have all : ∀ h' ∈ badE h N ++ (badDs h N).map (badD h s0 sr), NoH h' := fun h' hm => by
      rcases List.mem_append.mp hm with q | q
      · exact bE h' q
      · obtain ⟨y, hy, e⟩ := List.mem_map.mp q
        rw [← e]
        exact bD y hy
    have dr4 : Dr ns 0 S (T2 ++ [Cell.lst ((badE h N ++ (badDs h N).map (badD h s0 sr)).map HH.d)]) := dr2.app _
    simp_arith
    exact ⟨dr4.frz hS0, _, frz_lst hTl (app_at _ _) (ltL_hs _ fun x hx => (all x hx).fn), k _ _ all (by rw [List.length_append, lE4, List.length_map]; show 8 + 15 ≤ 30; decide) (dr4.cut hS0)⟩
end
/-! ### the law -/
set_option maxHeartbeats 4000000 in
open Classical in
theorem law_true (ns : List Int) (hn : ns.length ≤ 63) : ∃ S, f_law [.fz (ns.map D.int)] [] = .ok (.bl true) S := by
  have w : Wp (f_law [.fz (ns.map D.int)] []) fun d _ => d = .bl true := by
    unfold f_law d_law
    simp_arith
    have h3 : rng1 [.int 3] = some (rngL 0 3) := rng1_int (j := 3) (by decide) (by decide)
    simp_arith [h3]
    refine forGo_wp (fun rest env T => ∃ e2 e3 e4 e5, (∀ d ∈ rest, ∃ i : Int, d = .int i) ∧ env = [some (.fz (ns.map D.int)), some (.ref 0), e2, e3, e4, e5] ∧ DK ns 0 T) _ _ _
      ⟨_, _, _, _, fun d hd => by obtain ⟨i, _, e⟩ := List.mem_map.mp hd; exact ⟨_, e.symm⟩, rfl, ⟨0, 0, Int.le_refl _, Int.le_refl _, rfl⟩⟩ (fun d rest env T hI => ?_) fun env T hI => ?_
    · obtain ⟨e2, e3, e4, e5, hr, e, dk⟩ := hI
      obtain ⟨i, ei⟩ := hr d List.mem_cons_self
      subst ei e
      refine ⟨_, rfl, ?_⟩
      refine brk_deck (j := 2) rfl rfl rfl dk ?_ ?_
      · simp_arith
      simp_arith
      refine w_Unl ?_
      have hT0 := dk.lt
      refine ehouse_wp dk fun h f qf T1 dr hc d => ?_
      refine ⟨d.frz hT0, _, unl_house hc, ?_⟩
      have dc := d.cut hT0
      have t := drawn_ht dr
      obtain ⟨A, ca⟩ := dr.ca
      have v := dr.vd
      have fn := dr.fn
      have hf : h.fs ≠ [] := fun z => by have := v.f1; rw [z] at this; exact absurd this (by decide)
      have hs : h.ss ≠ [] := fun z => by have := v.s1; rw [z] at this; exact absurd this (by decide)
      generalize T1.take T.length = T2 at dc
      have dk2 := dc.dk
      simp_arith
      refine lawtext_wp t ?_
      simp_arith
      refine notexts_wp t fn hf hs dk2 fun ls T3 hls hll dr3 => ?_
      simp_arith
      refine forGo_wp (fun rest env U => ∃ (left : List (List Nat)) (e5 : Option D), rest = lnsD left ∧ (∀ l ∈ left, BT l) ∧ U = T3 ∧ env = [some (.fz (ns.map D.int)), some (.ref 0), some (.int i), some h.d, some (.str (tx (textL h))), e5]) _ _ _
        ⟨ls, _, rfl, hls, rfl, rfl⟩ (fun d rest env U hI => ?_) fun env U hI => ?_
      · obtain ⟨left, e5, er, hb, eU, e⟩ := hI
        cases left with
        | nil => cases er
        | cons l left =>
        obtain ⟨ed, er2⟩ := List.cons.inj er
        subst ed eU e
        refine ⟨_, rfl, ?_⟩
        simp_arith
        refine word_text (hb l List.mem_cons_self) ?_
        simp_arith
        exact ⟨left, _, er2, fun x hx => hb x (List.mem_cons_of_mem _ hx), rfl⟩
      obtain ⟨left, e5, er, hb, eU, e⟩ := hI
      subst eU e
      simp_arith
      refine nohouses_wp dr dr3.dk fun hs' T4 hh hhl dr4 => ?_
      simp_arith
      refine forGo_wp (fun rest env V => ∃ (left : List HH) (e5 : Option D), rest = left.map HH.d ∧ (∀ l ∈ left, NoH l) ∧ V = T4 ∧ env = [some (.fz (ns.map D.int)), some (.ref 0), some (.int i), some h.d, some (.str (tx (textL h))), e5]) _ _ _
        ⟨hs', _, rfl, hh, rfl, rfl⟩ (fun d rest env V hI => ?_) fun env V hI => ?_
      · obtain ⟨left, e5, er, hb, eV, e⟩ := hI
        cases left with
        | nil => cases er
        | cons l left =>
        obtain ⟨ed, er2⟩ := List.cons.inj er
        subst ed eV e
        have n := hb l List.mem_cons_self
        refine ⟨_, rfl, ?_⟩
        simp_arith
        refine lawtext_wp n.t ?_
        simp_arith
        refine word_no n ?_
        simp_arith
        refine word_show n ?_
        simp_arith
        exact ⟨left, _, er2, fun x hx => hb x (List.mem_cons_of_mem _ hx), rfl⟩
      obtain ⟨left, e5, er, hb, eV, e⟩ := hI
      subst eV e
      have ne1 : ∀ U : Sto, oNe U h.d h.d = some (.bl false) := fun U => by
        rw [ne_pl rfl (plt_h (n := 58) fn).pl (plt_h (n := 58) fn).pl]
        simp
      have is : ∀ (S : Sto) (P : D → Sto → Prop), P (.bl true) S → Wp (f_is_house [h.d] S) P := fun S P k => house_wp v fn ca k
      simp_arith
      refine word_good t fn is ?_
      simp_arith
      refine readhouse_wp t fn is ?_
      simp_arith [ne1]
      exact ⟨_, _, _, _, fun d hd => hr d (List.mem_cons_of_mem _ hd), rfl, dr4.dk⟩
    · obtain ⟨e2, e3, e4, e5, hr, e, dk⟩ := hI
      subst e
      simp_arith
  obtain ⟨d, S, e, q⟩ := w.get
  rw [q] at e
  exact ⟨S, e⟩

end G
end DL
end L2
set_option Elab.async false
set_option linter.all false
set_option maxRecDepth 100000
namespace L2
namespace DL
namespace G
open PySem PySem.Spec PyProof.Rows
set_option maxHeartbeats 0 in
theorem all_mk {l : PySem.W.OpenLaw} {w : World} {K : PySem.W.Frag} {h : Heap} {mg : Str → Option Value} {fa f0 f1 f2 f3 f4 f5 f6 f7 f8 f9 f10 f11 f12 f13 f14 f15 f16 f17 f18 f19 f20 f21 f22 f23 f24 f25 f26 f27 f28 f29 f30 f31 f32 f33 f34 f35 : Addr} (X : K.In h) (G : h.Ns mainGlobals mg) (hfa : mg "law" = some (.ref fa))
    {od0 an0 : Option Addr} {sl0 : Array (Option Value)} {oc0 kV0 dc0 pm0 cd0 ct0 : Value}
    (a0 : PySem.W.nsIn K mainGlobals "is_whole" = some (some (.ref f0))) (l0 : K.lookup f0 = some ⟨oc0, od0, .func (PySem.W.fnOf "is_whole" "is_whole" (defArgs st_is_whole) (defBody st_is_whole) (defScope st_is_whole) .none kV0 dc0 pm0 an0 cd0 ct0), sl0⟩) (c0 : PySem.W.codeIn K cd0 "is_whole" = true) (k0 : PySem.W.keepIn K (.ref f0) = true)
    {od1 an1 : Option Addr} {sl1 : Array (Option Value)} {oc1 kV1 dc1 pm1 cd1 ct1 : Value}
    (a1 : PySem.W.nsIn K mainGlobals "is_from_to" = some (some (.ref f1))) (l1 : K.lookup f1 = some ⟨oc1, od1, .func (PySem.W.fnOf "is_from_to" "is_from_to" (defArgs st_is_from_to) (defBody st_is_from_to) (defScope st_is_from_to) .none kV1 dc1 pm1 an1 cd1 ct1), sl1⟩) (c1 : PySem.W.codeIn K cd1 "is_from_to" = true) (k1 : PySem.W.keepIn K (.ref f1) = true)
    {od2 an2 : Option Addr} {sl2 : Array (Option Value)} {oc2 kV2 dc2 pm2 cd2 ct2 : Value}
    (a2 : PySem.W.nsIn K mainGlobals "is_word" = some (some (.ref f2))) (l2 : K.lookup f2 = some ⟨oc2, od2, .func (PySem.W.fnOf "is_word" "is_word" (defArgs st_is_word) (defBody st_is_word) (defScope st_is_word) .none kV2 dc2 pm2 an2 cd2 ct2), sl2⟩) (c2 : PySem.W.codeIn K cd2 "is_word" = true) (k2 : PySem.W.keepIn K (.ref f2) = true)
    {od3 an3 : Option Addr} {sl3 : Array (Option Value)} {oc3 kV3 dc3 pm3 cd3 ct3 : Value}
    (a3 : PySem.W.nsIn K mainGlobals "is_members" = some (some (.ref f3))) (l3 : K.lookup f3 = some ⟨oc3, od3, .func (PySem.W.fnOf "is_members" "is_members" (defArgs st_is_members) (defBody st_is_members) (defScope st_is_members) .none kV3 dc3 pm3 an3 cd3 ct3), sl3⟩) (c3 : PySem.W.codeIn K cd3 "is_members" = true) (k3 : PySem.W.keepIn K (.ref f3) = true)
    {od4 an4 : Option Addr} {sl4 : Array (Option Value)} {oc4 kV4 dc4 pm4 cd4 ct4 : Value}
    (a4 : PySem.W.nsIn K mainGlobals "is_deed" = some (some (.ref f4))) (l4 : K.lookup f4 = some ⟨oc4, od4, .func (PySem.W.fnOf "is_deed" "is_deed" (defArgs st_is_deed) (defBody st_is_deed) (defScope st_is_deed) .none kV4 dc4 pm4 an4 cd4 ct4), sl4⟩) (c4 : PySem.W.codeIn K cd4 "is_deed" = true) (k4 : PySem.W.keepIn K (.ref f4) = true)
    {od5 an5 : Option Addr} {sl5 : Array (Option Value)} {oc5 kV5 dc5 pm5 cd5 ct5 : Value}
    (a5 : PySem.W.nsIn K mainGlobals "is_calling" = some (some (.ref f5))) (l5 : K.lookup f5 = some ⟨oc5, od5, .func (PySem.W.fnOf "is_calling" "is_calling" (defArgs st_is_calling) (defBody st_is_calling) (defScope st_is_calling) .none kV5 dc5 pm5 an5 cd5 ct5), sl5⟩) (c5 : PySem.W.codeIn K cd5 "is_calling" = true) (k5 : PySem.W.keepIn K (.ref f5) = true)
    {od6 an6 : Option Addr} {sl6 : Array (Option Value)} {oc6 kV6 dc6 pm6 cd6 ct6 : Value}
    (a6 : PySem.W.nsIn K mainGlobals "is_script" = some (some (.ref f6))) (l6 : K.lookup f6 = some ⟨oc6, od6, .func (PySem.W.fnOf "is_script" "is_script" (defArgs st_is_script) (defBody st_is_script) (defScope st_is_script) .none kV6 dc6 pm6 an6 cd6 ct6), sl6⟩) (c6 : PySem.W.codeIn K cd6 "is_script" = true) (k6 : PySem.W.keepIn K (.ref f6) = true)
    {od7 an7 : Option Addr} {sl7 : Array (Option Value)} {oc7 kV7 dc7 pm7 cd7 ct7 : Value}
    (a7 : PySem.W.nsIn K mainGlobals "has_mode" = some (some (.ref f7))) (l7 : K.lookup f7 = some ⟨oc7, od7, .func (PySem.W.fnOf "has_mode" "has_mode" (defArgs st_has_mode) (defBody st_has_mode) (defScope st_has_mode) .none kV7 dc7 pm7 an7 cd7 ct7), sl7⟩) (c7 : PySem.W.codeIn K cd7 "has_mode" = true) (k7 : PySem.W.keepIn K (.ref f7) = true)
    {od8 an8 : Option Addr} {sl8 : Array (Option Value)} {oc8 kV8 dc8 pm8 cd8 ct8 : Value}
    (a8 : PySem.W.nsIn K mainGlobals "may_do_with" = some (some (.ref f8))) (l8 : K.lookup f8 = some ⟨oc8, od8, .func (PySem.W.fnOf "may_do_with" "may_do_with" (defArgs st_may_do_with) (defBody st_may_do_with) (defScope st_may_do_with) .none kV8 dc8 pm8 an8 cd8 ct8), sl8⟩) (c8 : PySem.W.codeIn K cd8 "may_do_with" = true) (k8 : PySem.W.keepIn K (.ref f8) = true)
    {od9 an9 : Option Addr} {sl9 : Array (Option Value)} {oc9 kV9 dc9 pm9 cd9 ct9 : Value}
    (a9 : PySem.W.nsIn K mainGlobals "script_fits" = some (some (.ref f9))) (l9 : K.lookup f9 = some ⟨oc9, od9, .func (PySem.W.fnOf "script_fits" "script_fits" (defArgs st_script_fits) (defBody st_script_fits) (defScope st_script_fits) .none kV9 dc9 pm9 an9 cd9 ct9), sl9⟩) (c9 : PySem.W.codeIn K cd9 "script_fits" = true) (k9 : PySem.W.keepIn K (.ref f9) = true)
    {od10 an10 : Option Addr} {sl10 : Array (Option Value)} {oc10 kV10 dc10 pm10 cd10 ct10 : Value}
    (a10 : PySem.W.nsIn K mainGlobals "are_called_well" = some (some (.ref f10))) (l10 : K.lookup f10 = some ⟨oc10, od10, .func (PySem.W.fnOf "are_called_well" "are_called_well" (defArgs st_are_called_well) (defBody st_are_called_well) (defScope st_are_called_well) .none kV10 dc10 pm10 an10 cd10 ct10), sl10⟩) (c10 : PySem.W.codeIn K cd10 "are_called_well" = true) (k10 : PySem.W.keepIn K (.ref f10) = true)
    {od11 an11 : Option Addr} {sl11 : Array (Option Value)} {oc11 kV11 dc11 pm11 cd11 ct11 : Value}
    (a11 : PySem.W.nsIn K mainGlobals "is_house" = some (some (.ref f11))) (l11 : K.lookup f11 = some ⟨oc11, od11, .func (PySem.W.fnOf "is_house" "is_house" (defArgs st_is_house) (defBody st_is_house) (defScope st_is_house) .none kV11 dc11 pm11 an11 cd11 ct11), sl11⟩) (c11 : PySem.W.codeIn K cd11 "is_house" = true) (k11 : PySem.W.keepIn K (.ref f11) = true)
    {od12 an12 : Option Addr} {sl12 : Array (Option Value)} {oc12 kV12 dc12 pm12 cd12 ct12 : Value}
    (a12 : PySem.W.nsIn K mainGlobals "need_house" = some (some (.ref f12))) (l12 : K.lookup f12 = some ⟨oc12, od12, .func (PySem.W.fnOf "need_house" "need_house" (defArgs st_need_house) (defBody st_need_house) (defScope st_need_house) .none kV12 dc12 pm12 an12 cd12 ct12), sl12⟩) (c12 : PySem.W.codeIn K cd12 "need_house" = true) (k12 : PySem.W.keepIn K (.ref f12) = true)
    {od13 an13 : Option Addr} {sl13 : Array (Option Value)} {oc13 kV13 dc13 pm13 cd13 ct13 : Value}
    (a13 : PySem.W.nsIn K mainGlobals "show_members" = some (some (.ref f13))) (l13 : K.lookup f13 = some ⟨oc13, od13, .func (PySem.W.fnOf "show_members" "show_members" (defArgs st_show_members) (defBody st_show_members) (defScope st_show_members) .none kV13 dc13 pm13 an13 cd13 ct13), sl13⟩) (c13 : PySem.W.codeIn K cd13 "show_members" = true) (k13 : PySem.W.keepIn K (.ref f13) = true)
    {od14 an14 : Option Addr} {sl14 : Array (Option Value)} {oc14 kV14 dc14 pm14 cd14 ct14 : Value}
    (a14 : PySem.W.nsIn K mainGlobals "show_deed" = some (some (.ref f14))) (l14 : K.lookup f14 = some ⟨oc14, od14, .func (PySem.W.fnOf "show_deed" "show_deed" (defArgs st_show_deed) (defBody st_show_deed) (defScope st_show_deed) .none kV14 dc14 pm14 an14 cd14 ct14), sl14⟩) (c14 : PySem.W.codeIn K cd14 "show_deed" = true) (k14 : PySem.W.keepIn K (.ref f14) = true)
    {od15 an15 : Option Addr} {sl15 : Array (Option Value)} {oc15 kV15 dc15 pm15 cd15 ct15 : Value}
    (a15 : PySem.W.nsIn K mainGlobals "show_house" = some (some (.ref f15))) (l15 : K.lookup f15 = some ⟨oc15, od15, .func (PySem.W.fnOf "show_house" "show_house" (defArgs st_show_house) (defBody st_show_house) (defScope st_show_house) .none kV15 dc15 pm15 an15 cd15 ct15), sl15⟩) (c15 : PySem.W.codeIn K cd15 "show_house" = true) (k15 : PySem.W.keepIn K (.ref f15) = true)
    {od16 an16 : Option Addr} {sl16 : Array (Option Value)} {oc16 kV16 dc16 pm16 cd16 ct16 : Value}
    (a16 : PySem.W.nsIn K mainGlobals "is_figures" = some (some (.ref f16))) (l16 : K.lookup f16 = some ⟨oc16, od16, .func (PySem.W.fnOf "is_figures" "is_figures" (defArgs st_is_figures) (defBody st_is_figures) (defScope st_is_figures) .none kV16 dc16 pm16 an16 cd16 ct16), sl16⟩) (c16 : PySem.W.codeIn K cd16 "is_figures" = true) (k16 : PySem.W.keepIn K (.ref f16) = true)
    {od17 an17 : Option Addr} {sl17 : Array (Option Value)} {oc17 kV17 dc17 pm17 cd17 ct17 : Value}
    (a17 : PySem.W.nsIn K mainGlobals "number_by" = some (some (.ref f17))) (l17 : K.lookup f17 = some ⟨oc17, od17, .func (PySem.W.fnOf "number_by" "number_by" (defArgs st_number_by) (defBody st_number_by) (defScope st_number_by) .none kV17 dc17 pm17 an17 cd17 ct17), sl17⟩) (c17 : PySem.W.codeIn K cd17 "number_by" = true) (k17 : PySem.W.keepIn K (.ref f17) = true)
    {od18 an18 : Option Addr} {sl18 : Array (Option Value)} {oc18 kV18 dc18 pm18 cd18 ct18 : Value}
    (a18 : PySem.W.nsIn K mainGlobals "read_members" = some (some (.ref f18))) (l18 : K.lookup f18 = some ⟨oc18, od18, .func (PySem.W.fnOf "read_members" "read_members" (defArgs st_read_members) (defBody st_read_members) (defScope st_read_members) .none kV18 dc18 pm18 an18 cd18 ct18), sl18⟩) (c18 : PySem.W.codeIn K cd18 "read_members" = true) (k18 : PySem.W.keepIn K (.ref f18) = true)
    {od19 an19 : Option Addr} {sl19 : Array (Option Value)} {oc19 kV19 dc19 pm19 cd19 ct19 : Value}
    (a19 : PySem.W.nsIn K mainGlobals "read_calling" = some (some (.ref f19))) (l19 : K.lookup f19 = some ⟨oc19, od19, .func (PySem.W.fnOf "read_calling" "read_calling" (defArgs st_read_calling) (defBody st_read_calling) (defScope st_read_calling) .none kV19 dc19 pm19 an19 cd19 ct19), sl19⟩) (c19 : PySem.W.codeIn K cd19 "read_calling" = true) (k19 : PySem.W.keepIn K (.ref f19) = true)
    {od20 an20 : Option Addr} {sl20 : Array (Option Value)} {oc20 kV20 dc20 pm20 cd20 ct20 : Value}
    (a20 : PySem.W.nsIn K mainGlobals "read_deed" = some (some (.ref f20))) (l20 : K.lookup f20 = some ⟨oc20, od20, .func (PySem.W.fnOf "read_deed" "read_deed" (defArgs st_read_deed) (defBody st_read_deed) (defScope st_read_deed) .none kV20 dc20 pm20 an20 cd20 ct20), sl20⟩) (c20 : PySem.W.codeIn K cd20 "read_deed" = true) (k20 : PySem.W.keepIn K (.ref f20) = true)
    {od21 an21 : Option Addr} {sl21 : Array (Option Value)} {oc21 kV21 dc21 pm21 cd21 ct21 : Value}
    (a21 : PySem.W.nsIn K mainGlobals "read_head" = some (some (.ref f21))) (l21 : K.lookup f21 = some ⟨oc21, od21, .func (PySem.W.fnOf "read_head" "read_head" (defArgs st_read_head) (defBody st_read_head) (defScope st_read_head) .none kV21 dc21 pm21 an21 cd21 ct21), sl21⟩) (c21 : PySem.W.codeIn K cd21 "read_head" = true) (k21 : PySem.W.keepIn K (.ref f21) = true)
    {od22 an22 : Option Addr} {sl22 : Array (Option Value)} {oc22 kV22 dc22 pm22 cd22 ct22 : Value}
    (a22 : PySem.W.nsIn K mainGlobals "read_house" = some (some (.ref f22))) (l22 : K.lookup f22 = some ⟨oc22, od22, .func (PySem.W.fnOf "read_house" "read_house" (defArgs st_read_house) (defBody st_read_house) (defScope st_read_house) .none kV22 dc22 pm22 an22 cd22 ct22), sl22⟩) (c22 : PySem.W.codeIn K cd22 "read_house" = true) (k22 : PySem.W.keepIn K (.ref f22) = true)
    {od23 an23 : Option Addr} {sl23 : Array (Option Value)} {oc23 kV23 dc23 pm23 cd23 ct23 : Value}
    (a23 : PySem.W.nsIn K mainGlobals "_law_e_mixed" = some (some (.ref f23))) (l23 : K.lookup f23 = some ⟨oc23, od23, .func (PySem.W.fnOf "_law_e_mixed" "_law_e_mixed" (defArgs st__law_e_mixed) (defBody st__law_e_mixed) (defScope st__law_e_mixed) .none kV23 dc23 pm23 an23 cd23 ct23), sl23⟩) (c23 : PySem.W.codeIn K cd23 "_law_e_mixed" = true) (k23 : PySem.W.keepIn K (.ref f23) = true)
    {od24 an24 : Option Addr} {sl24 : Array (Option Value)} {oc24 kV24 dc24 pm24 cd24 ct24 : Value}
    (a24 : PySem.W.nsIn K mainGlobals "_law_e_pick" = some (some (.ref f24))) (l24 : K.lookup f24 = some ⟨oc24, od24, .func (PySem.W.fnOf "_law_e_pick" "_law_e_pick" (defArgs st__law_e_pick) (defBody st__law_e_pick) (defScope st__law_e_pick) .none kV24 dc24 pm24 an24 cd24 ct24), sl24⟩) (c24 : PySem.W.codeIn K cd24 "_law_e_pick" = true) (k24 : PySem.W.keepIn K (.ref f24) = true)
    {od25 an25 : Option Addr} {sl25 : Array (Option Value)} {oc25 kV25 dc25 pm25 cd25 ct25 : Value}
    (a25 : PySem.W.nsIn K mainGlobals "_law_e_may_call" = some (some (.ref f25))) (l25 : K.lookup f25 = some ⟨oc25, od25, .func (PySem.W.fnOf "_law_e_may_call" "_law_e_may_call" (defArgs st__law_e_may_call) (defBody st__law_e_may_call) (defScope st__law_e_may_call) .none kV25 dc25 pm25 an25 cd25 ct25), sl25⟩) (c25 : PySem.W.codeIn K cd25 "_law_e_may_call" = true) (k25 : PySem.W.keepIn K (.ref f25) = true)
    {od26 an26 : Option Addr} {sl26 : Array (Option Value)} {oc26 kV26 dc26 pm26 cd26 ct26 : Value}
    (a26 : PySem.W.nsIn K mainGlobals "_law_e_house_deed" = some (some (.ref f26))) (l26 : K.lookup f26 = some ⟨oc26, od26, .func (PySem.W.fnOf "_law_e_house_deed" "_law_e_house_deed" (defArgs st__law_e_house_deed) (defBody st__law_e_house_deed) (defScope st__law_e_house_deed) .none kV26 dc26 pm26 an26 cd26 ct26), sl26⟩) (c26 : PySem.W.codeIn K cd26 "_law_e_house_deed" = true) (k26 : PySem.W.keepIn K (.ref f26) = true)
    {od27 an27 : Option Addr} {sl27 : Array (Option Value)} {oc27 kV27 dc27 pm27 cd27 ct27 : Value}
    (a27 : PySem.W.nsIn K mainGlobals "_law_e_house" = some (some (.ref f27))) (l27 : K.lookup f27 = some ⟨oc27, od27, .func (PySem.W.fnOf "_law_e_house" "_law_e_house" (defArgs st__law_e_house) (defBody st__law_e_house) (defScope st__law_e_house) .none kV27 dc27 pm27 an27 cd27 ct27), sl27⟩) (c27 : PySem.W.codeIn K cd27 "_law_e_house" = true) (k27 : PySem.W.keepIn K (.ref f27) = true)
    {od28 an28 : Option Addr} {sl28 : Array (Option Value)} {oc28 kV28 dc28 pm28 cd28 ct28 : Value}
    (a28 : PySem.W.nsIn K mainGlobals "_law_e_members_text" = some (some (.ref f28))) (l28 : K.lookup f28 = some ⟨oc28, od28, .func (PySem.W.fnOf "_law_e_members_text" "_law_e_members_text" (defArgs st__law_e_members_text) (defBody st__law_e_members_text) (defScope st__law_e_members_text) .none kV28 dc28 pm28 an28 cd28 ct28), sl28⟩) (c28 : PySem.W.codeIn K cd28 "_law_e_members_text" = true) (k28 : PySem.W.keepIn K (.ref f28) = true)
    {od29 an29 : Option Addr} {sl29 : Array (Option Value)} {oc29 kV29 dc29 pm29 cd29 ct29 : Value}
    (a29 : PySem.W.nsIn K mainGlobals "_law_e_deed_text" = some (some (.ref f29))) (l29 : K.lookup f29 = some ⟨oc29, od29, .func (PySem.W.fnOf "_law_e_deed_text" "_law_e_deed_text" (defArgs st__law_e_deed_text) (defBody st__law_e_deed_text) (defScope st__law_e_deed_text) .none kV29 dc29 pm29 an29 cd29 ct29), sl29⟩) (c29 : PySem.W.codeIn K cd29 "_law_e_deed_text" = true) (k29 : PySem.W.keepIn K (.ref f29) = true)
    {od30 an30 : Option Addr} {sl30 : Array (Option Value)} {oc30 kV30 dc30 pm30 cd30 ct30 : Value}
    (a30 : PySem.W.nsIn K mainGlobals "_law_e_text" = some (some (.ref f30))) (l30 : K.lookup f30 = some ⟨oc30, od30, .func (PySem.W.fnOf "_law_e_text" "_law_e_text" (defArgs st__law_e_text) (defBody st__law_e_text) (defScope st__law_e_text) .none kV30 dc30 pm30 an30 cd30 ct30), sl30⟩) (c30 : PySem.W.codeIn K cd30 "_law_e_text" = true) (k30 : PySem.W.keepIn K (.ref f30) = true)
    {od31 an31 : Option Addr} {sl31 : Array (Option Value)} {oc31 kV31 dc31 pm31 cd31 ct31 : Value}
    (a31 : PySem.W.nsIn K mainGlobals "_law_e_kind" = some (some (.ref f31))) (l31 : K.lookup f31 = some ⟨oc31, od31, .func (PySem.W.fnOf "_law_e_kind" "_law_e_kind" (defArgs st__law_e_kind) (defBody st__law_e_kind) (defScope st__law_e_kind) .none kV31 dc31 pm31 an31 cd31 ct31), sl31⟩) (c31 : PySem.W.codeIn K cd31 "_law_e_kind" = true) (k31 : PySem.W.keepIn K (.ref f31) = true)
    {od32 an32 : Option Addr} {sl32 : Array (Option Value)} {oc32 kV32 dc32 pm32 cd32 ct32 : Value}
    (a32 : PySem.W.nsIn K mainGlobals "_law_e_word" = some (some (.ref f32))) (l32 : K.lookup f32 = some ⟨oc32, od32, .func (PySem.W.fnOf "_law_e_word" "_law_e_word" (defArgs st__law_e_word) (defBody st__law_e_word) (defScope st__law_e_word) .none kV32 dc32 pm32 an32 cd32 ct32), sl32⟩) (c32 : PySem.W.codeIn K cd32 "_law_e_word" = true) (k32 : PySem.W.keepIn K (.ref f32) = true)
    {od33 an33 : Option Addr} {sl33 : Array (Option Value)} {oc33 kV33 dc33 pm33 cd33 ct33 : Value}
    (a33 : PySem.W.nsIn K mainGlobals "_law_e_no_texts" = some (some (.ref f33))) (l33 : K.lookup f33 = some ⟨oc33, od33, .func (PySem.W.fnOf "_law_e_no_texts" "_law_e_no_texts" (defArgs st__law_e_no_texts) (defBody st__law_e_no_texts) (defScope st__law_e_no_texts) .none kV33 dc33 pm33 an33 cd33 ct33), sl33⟩) (c33 : PySem.W.codeIn K cd33 "_law_e_no_texts" = true) (k33 : PySem.W.keepIn K (.ref f33) = true)
    {od34 an34 : Option Addr} {sl34 : Array (Option Value)} {oc34 kV34 dc34 pm34 cd34 ct34 : Value}
    (a34 : PySem.W.nsIn K mainGlobals "_law_e_no_houses" = some (some (.ref f34))) (l34 : K.lookup f34 = some ⟨oc34, od34, .func (PySem.W.fnOf "_law_e_no_houses" "_law_e_no_houses" (defArgs st__law_e_no_houses) (defBody st__law_e_no_houses) (defScope st__law_e_no_houses) .none kV34 dc34 pm34 an34 cd34 ct34), sl34⟩) (c34 : PySem.W.codeIn K cd34 "_law_e_no_houses" = true) (k34 : PySem.W.keepIn K (.ref f34) = true)
    {od35 an35 : Option Addr} {sl35 : Array (Option Value)} {oc35 kV35 dc35 pm35 cd35 ct35 : Value}
    (a35 : PySem.W.nsIn K mainGlobals "law" = some (some (.ref f35))) (l35 : K.lookup f35 = some ⟨oc35, od35, .func (PySem.W.fnOf "law" "law" (defArgs st_law) (defBody st_law) (defScope st_law) .none kV35 dc35 pm35 an35 cd35 ct35), sl35⟩) (c35 : PySem.W.codeIn K cd35 "law" = true) (k35 : PySem.W.keepIn K (.ref f35) = true)
    (z_isinstance : PySem.W.nsIn K mainGlobals "isinstance" = some none)
    (z_int : PySem.W.nsIn K mainGlobals "int" = some none)
    (z_bool : PySem.W.nsIn K mainGlobals "bool" = some none)
    (z_str : PySem.W.nsIn K mainGlobals "str" = some none)
    (z_len : PySem.W.nsIn K mainGlobals "len" = some none)
    (z_all : PySem.W.nsIn K mainGlobals "all" = some none)
    (z_tuple : PySem.W.nsIn K mainGlobals "tuple" = some none)
    (z_list : PySem.W.nsIn K mainGlobals "list" = some none)
    (z_enumerate : PySem.W.nsIn K mainGlobals "enumerate" = some none)
    (z_sorted : PySem.W.nsIn K mainGlobals "sorted" = some none)
    (z_range : PySem.W.nsIn K mainGlobals "range" = some none)
    (z_dict : PySem.W.nsIn K mainGlobals "dict" = some none)
    (z_ValueError : PySem.W.nsIn K mainGlobals "ValueError" = some none)
    {tk_LETTERS : Tok} (z_LETTERS : PySem.W.nsIn K mainGlobals "LETTERS" = some (some (.str "abcdefghijklmnopqrstuvwxyz" tk_LETTERS)))
    {A_MODES : Addr} {t0_MODES t1_MODES t2_MODES : Tok} {dd_MODES : Option Addr} {n_MODES : Nat} {sl_MODES : Array (Option Value)} (z_MODES : PySem.W.nsIn K mainGlobals "MODES" = some (some (.ref A_MODES))) (lk_MODES : K.lookup A_MODES = some ⟨.type "tuple", dd_MODES, .seq #[.str "both" t0_MODES, .str "come" t1_MODES, .str "go" t2_MODES] n_MODES, sl_MODES⟩)
    {tk_MOST_DEEDS : Tok} (z_MOST_DEEDS : PySem.W.nsIn K mainGlobals "MOST_DEEDS" = some (some (.int 80 tk_MOST_DEEDS)))
    {tk_MOST_HANDS : Tok} (z_MOST_HANDS : PySem.W.nsIn K mainGlobals "MOST_HANDS" = some (some (.int 60 tk_MOST_HANDS)))
    {tk_MOST_IN_ALL : Tok} (z_MOST_IN_ALL : PySem.W.nsIn K mainGlobals "MOST_IN_ALL" = some (some (.int 1200 tk_MOST_IN_ALL)))
    {tk_MOST_BOXES : Tok} (z_MOST_BOXES : PySem.W.nsIn K mainGlobals "MOST_BOXES" = some (some (.int 99 tk_MOST_BOXES)))
    {tk_WALLS_AT_MOST : Tok} (z_WALLS_AT_MOST : PySem.W.nsIn K mainGlobals "WALLS_AT_MOST" = some (some (.int 6 tk_WALLS_AT_MOST)))
    {tk_MOST_FIRSTS : Tok} (z_MOST_FIRSTS : PySem.W.nsIn K mainGlobals "MOST_FIRSTS" = some (some (.int 40 tk_MOST_FIRSTS)))
    {tk_MOST_SCRIPTS : Tok} (z_MOST_SCRIPTS : PySem.W.nsIn K mainGlobals "MOST_SCRIPTS" = some (some (.int 20 tk_MOST_SCRIPTS)))
    {tk_MOST_FIGURES : Tok} (z_MOST_FIGURES : PySem.W.nsIn K mainGlobals "MOST_FIGURES" = some (some (.int 30 tk_MOST_FIGURES)))
    {tk_FIGURES : Tok} (z_FIGURES : PySem.W.nsIn K mainGlobals "FIGURES" = some (some (.str "0123456789" tk_FIGURES)))
    {C_NoHouse : Addr} (ac_NoHouse : PySem.W.nsIn K mainGlobals "NoHouse" = some (some (.ref C_NoHouse)))
    {C_NoText : Addr} (ac_NoText : PySem.W.nsIn K mainGlobals "NoText" = some (some (.ref C_NoText)))
    {C_WallError : Addr} (ac_WallError : PySem.W.nsIn K mainGlobals "WallError" = some (some (.ref C_WallError)))
    {C_NoHand : Addr} (ac_NoHand : PySem.W.nsIn K mainGlobals "NoHand" = some (some (.ref C_NoHand)))
    {C_NoDeed : Addr} (ac_NoDeed : PySem.W.nsIn K mainGlobals "NoDeed" = some (some (.ref C_NoDeed)))
    {C_NoCount : Addr} (ac_NoCount : PySem.W.nsIn K mainGlobals "NoCount" = some (some (.ref C_NoCount)))
    {C_NoRow : Addr} (ac_NoRow : PySem.W.nsIn K mainGlobals "NoRow" = some (some (.ref C_NoRow)))
    {C_NoName : Addr} (ac_NoName : PySem.W.nsIn K mainGlobals "NoName" = some (some (.ref C_NoName)))
    {C_NoWall : Addr} (ac_NoWall : PySem.W.nsIn K mainGlobals "NoWall" = some (some (.ref C_NoWall)))
    {C_NoStand : Addr} (ac_NoStand : PySem.W.nsIn K mainGlobals "NoStand" = some (some (.ref C_NoStand)))
    {C_TooMany : Addr} (ac_TooMany : PySem.W.nsIn K mainGlobals "TooMany" = some (some (.ref C_TooMany)))
    (ex_NoHouse : PySem.W.excIn K C_NoHouse [.type "ValueError", .type "Exception", .type "BaseException", .type "object"] "ValueError.__new__" = true)
    (ek_NoHouse : PySem.W.keepIn K (.ref C_NoHouse) = true)
    (es_NoHouse : PySem.W.subIn K (.ref C_NoHouse) (.type "BaseException") = some true)
    (et_NoHouse : PySem.W.typeIn K (.ref C_NoHouse) = some (.type "type"))
    (xg_NoHouse : PySem.W.findIn K (.ref C_NoHouse) "__getattribute__" = some (some (.builtin "BaseException.__getattribute__")))
    (xk_NoHouse : PySem.W.findIn K (.ref C_NoHouse) "__getattr__" = some none)
    (xd_NoHouse : PySem.W.hasDictIn K C_NoHouse = true)
    (xa_NoHouse : PySem.W.findIn K (.ref C_NoHouse) "__class__" = some (some (.builtin "object.__class__")))
    (xm_NoHouse : PySem.W.mroIn K C_NoHouse (.type "object") = some true)
    (ex_NoText : PySem.W.excIn K C_NoText [.type "ValueError", .type "Exception", .type "BaseException", .type "object"] "ValueError.__new__" = true)
    (ek_NoText : PySem.W.keepIn K (.ref C_NoText) = true)
    (es_NoText : PySem.W.subIn K (.ref C_NoText) (.type "BaseException") = some true)
    (et_NoText : PySem.W.typeIn K (.ref C_NoText) = some (.type "type"))
    (xg_NoText : PySem.W.findIn K (.ref C_NoText) "__getattribute__" = some (some (.builtin "BaseException.__getattribute__")))
    (xk_NoText : PySem.W.findIn K (.ref C_NoText) "__getattr__" = some none)
    (xd_NoText : PySem.W.hasDictIn K C_NoText = true)
    (xa_NoText : PySem.W.findIn K (.ref C_NoText) "__class__" = some (some (.builtin "object.__class__")))
    (xm_NoText : PySem.W.mroIn K C_NoText (.type "object") = some true)
    (x_n : PySem.W.specialIn K (.builtin "object.__class__") "__get__" = some (some (.builtin "getset_descriptor.__get__")))
    (x_t : PySem.W.takesIn K (.builtin "object.__class__") = some true)
    (tm_WallError_NoHouse : PySem.W.exmOne K (.ref C_NoHouse) (.ref C_WallError) = some true)
    (tm_WallError_NoText : PySem.W.exmOne K (.ref C_NoText) (.ref C_WallError) = some true)
    (ki_NoHand_NoHouse : PySem.W.kitOne K (.ref C_NoHouse) (.ref C_NoHand) = some false)
    (ki_NoHand_NoText : PySem.W.kitOne K (.ref C_NoText) (.ref C_NoHand) = some false)
    (ki_NoDeed_NoHouse : PySem.W.kitOne K (.ref C_NoHouse) (.ref C_NoDeed) = some false)
    (ki_NoDeed_NoText : PySem.W.kitOne K (.ref C_NoText) (.ref C_NoDeed) = some false)
    (ki_NoCount_NoHouse : PySem.W.kitOne K (.ref C_NoHouse) (.ref C_NoCount) = some false)
    (ki_NoCount_NoText : PySem.W.kitOne K (.ref C_NoText) (.ref C_NoCount) = some false)
    (ki_NoRow_NoHouse : PySem.W.kitOne K (.ref C_NoHouse) (.ref C_NoRow) = some false)
    (ki_NoRow_NoText : PySem.W.kitOne K (.ref C_NoText) (.ref C_NoRow) = some false)
    (ki_NoName_NoHouse : PySem.W.kitOne K (.ref C_NoHouse) (.ref C_NoName) = some false)
    (ki_NoName_NoText : PySem.W.kitOne K (.ref C_NoText) (.ref C_NoName) = some false)
    (ki_NoHouse_NoHouse : PySem.W.kitOne K (.ref C_NoHouse) (.ref C_NoHouse) = some true)
    (ki_NoHouse_NoText : PySem.W.kitOne K (.ref C_NoText) (.ref C_NoHouse) = some false)
    (ki_NoWall_NoHouse : PySem.W.kitOne K (.ref C_NoHouse) (.ref C_NoWall) = some false)
    (ki_NoWall_NoText : PySem.W.kitOne K (.ref C_NoText) (.ref C_NoWall) = some false)
    (ki_NoText_NoHouse : PySem.W.kitOne K (.ref C_NoHouse) (.ref C_NoText) = some false)
    (ki_NoText_NoText : PySem.W.kitOne K (.ref C_NoText) (.ref C_NoText) = some true)
    (ki_NoStand_NoHouse : PySem.W.kitOne K (.ref C_NoHouse) (.ref C_NoStand) = some false)
    (ki_NoStand_NoText : PySem.W.kitOne K (.ref C_NoText) (.ref C_NoStand) = some false)
    (ki_TooMany_NoHouse : PySem.W.kitOne K (.ref C_NoHouse) (.ref C_TooMany) = some false)
    (ki_TooMany_NoText : PySem.W.kitOne K (.ref C_NoText) (.ref C_TooMany) = some false)
    (ki_ValueError_NoHouse : PySem.W.kitOne K (.ref C_NoHouse) (.type "ValueError") = some true)
    (ki_ValueError_NoText : PySem.W.kitOne K (.ref C_NoText) (.type "ValueError") = some true)
    : ∃ fd : FuncData, (∀ (s : Shared) (v : Value), BindsTo s fd ⟨[v], []⟩ [("script", v)]) ∧ ∀ base : Heap, K.In base → base.Ns mainGlobals mg → FnOk l.prog w K mg base CX0 10 fa fd ["script"] (spLaw K) := by
  have e := hfa.symm.trans (PySem.W.mg_of X G a35)
  cases e
  have F0 := fun_mk (st := st_is_whole) l0 c0 k0
  have b0 := F0.binds (ps := ["thing"]) fun _ _ _ _ _ _ us hl => match us, hl with | [_], _ => rfl
  have F1 := fun_mk (st := st_is_from_to) l1 c1 k1
  have b1 := F1.binds (ps := ["thing", "least", "most"]) fun _ _ _ _ _ _ us hl => match us, hl with | [_, _, _], _ => rfl
  have F2 := fun_mk (st := st_is_word) l2 c2 k2
  have b2 := F2.binds (ps := ["thing"]) fun _ _ _ _ _ _ us hl => match us, hl with | [_], _ => rfl
  have F3 := fun_mk (st := st_is_members) l3 c3 k3
  have b3 := F3.binds (ps := ["walls", "thing"]) fun _ _ _ _ _ _ us hl => match us, hl with | [_, _], _ => rfl
  have F4 := fun_mk (st := st_is_deed) l4 c4 k4
  have b4 := F4.binds (ps := ["boxes", "walls", "scripts", "at", "thing"]) fun _ _ _ _ _ _ us hl => match us, hl with | [_, _, _, _, _], _ => rfl
  have F5 := fun_mk (st := st_is_calling) l5 c5 k5
  have b5 := F5.binds (ps := ["walls", "scripts", "thing"]) fun _ _ _ _ _ _ us hl => match us, hl with | [_, _, _], _ => rfl
  have F6 := fun_mk (st := st_is_script) l6 c6 k6
  have b6 := F6.binds (ps := ["boxes", "walls", "scripts", "at", "thing"]) fun _ _ _ _ _ _ us hl => match us, hl with | [_, _, _, _, _], _ => rfl
  have F7 := fun_mk (st := st_has_mode) l7 c7 k7
  have b7 := F7.binds (ps := ["have", "wall", "modes"]) fun _ _ _ _ _ _ us hl => match us, hl with | [_, _, _], _ => rfl
  have F8 := fun_mk (st := st_may_do_with) l8 c8 k8
  have b8 := F8.binds (ps := ["have", "deed"]) fun _ _ _ _ _ _ us hl => match us, hl with | [_, _], _ => rfl
  have F9 := fun_mk (st := st_script_fits) l9 c9 k9
  have b9 := F9.binds (ps := ["script", "members"]) fun _ _ _ _ _ _ us hl => match us, hl with | [_, _], _ => rfl
  have F10 := fun_mk (st := st_are_called_well) l10 c10 k10
  have b10 := F10.binds (ps := ["firsts", "scripts"]) fun _ _ _ _ _ _ us hl => match us, hl with | [_, _], _ => rfl
  have F11 := fun_mk (st := st_is_house) l11 c11 k11
  have b11 := F11.binds (ps := ["thing"]) fun _ _ _ _ _ _ us hl => match us, hl with | [_], _ => rfl
  have F12 := fun_mk (st := st_need_house) l12 c12 k12
  have b12 := F12.binds (ps := ["thing"]) fun _ _ _ _ _ _ us hl => match us, hl with | [_], _ => rfl
  have F13 := fun_mk (st := st_show_members) l13 c13 k13
  have b13 := F13.binds (ps := ["members"]) fun _ _ _ _ _ _ us hl => match us, hl with | [_], _ => rfl
  have F14 := fun_mk (st := st_show_deed) l14 c14 k14
  have b14 := F14.binds (ps := ["deed"]) fun _ _ _ _ _ _ us hl => match us, hl with | [_], _ => rfl
  have F15 := fun_mk (st := st_show_house) l15 c15 k15
  have b15 := F15.binds (ps := ["house"]) fun _ _ _ _ _ _ us hl => match us, hl with | [_], _ => rfl
  have F16 := fun_mk (st := st_is_figures) l16 c16 k16
  have b16 := F16.binds (ps := ["word"]) fun _ _ _ _ _ _ us hl => match us, hl with | [_], _ => rfl
  have F17 := fun_mk (st := st_number_by) l17 c17 k17
  have b17 := F17.binds (ps := ["word"]) fun _ _ _ _ _ _ us hl => match us, hl with | [_], _ => rfl
  have F18 := fun_mk (st := st_read_members) l18 c18 k18
  have b18 := F18.binds (ps := ["words"]) fun _ _ _ _ _ _ us hl => match us, hl with | [_], _ => rfl
  have F19 := fun_mk (st := st_read_calling) l19 c19 k19
  have b19 := F19.binds (ps := ["words"]) fun _ _ _ _ _ _ us hl => match us, hl with | [_], _ => rfl
  have F20 := fun_mk (st := st_read_deed) l20 c20 k20
  have b20 := F20.binds (ps := ["line"]) fun _ _ _ _ _ _ us hl => match us, hl with | [_], _ => rfl
  have F21 := fun_mk (st := st_read_head) l21 c21 k21
  have b21 := F21.binds (ps := ["line"]) fun _ _ _ _ _ _ us hl => match us, hl with | [_], _ => rfl
  have F22 := fun_mk (st := st_read_house) l22 c22 k22
  have b22 := F22.binds (ps := ["text"]) fun _ _ _ _ _ _ us hl => match us, hl with | [_], _ => rfl
  have F23 := fun_mk (st := st__law_e_mixed) l23 c23 k23
  have b23 := F23.binds (ps := ["cell", "place"]) fun _ _ _ _ _ _ us hl => match us, hl with | [_, _], _ => rfl
  have F24 := fun_mk (st := st__law_e_pick) l24 c24 k24
  have b24 := F24.binds (ps := ["deck", "many"]) fun _ _ _ _ _ _ us hl => match us, hl with | [_, _], _ => rfl
  have F25 := fun_mk (st := st__law_e_may_call) l25 c25 k25
  have b25 := F25.binds (ps := ["have", "called"]) fun _ _ _ _ _ _ us hl => match us, hl with | [_, _], _ => rfl
  have F26 := fun_mk (st := st__law_e_house_deed) l26 c26 k26
  have b26 := F26.binds (ps := ["deck", "boxes", "have", "later"]) fun _ _ _ _ _ _ us hl => match us, hl with | [_, _, _, _], _ => rfl
  have F27 := fun_mk (st := st__law_e_house) l27 c27 k27
  have b27 := F27.binds (ps := ["deck"]) fun _ _ _ _ _ _ us hl => match us, hl with | [_], _ => rfl
  have F28 := fun_mk (st := st__law_e_members_text) l28 c28 k28
  have b28 := F28.binds (ps := ["called"]) fun _ _ _ _ _ _ us hl => match us, hl with | [_], _ => rfl
  have F29 := fun_mk (st := st__law_e_deed_text) l29 c29 k29
  have b29 := F29.binds (ps := ["deed"]) fun _ _ _ _ _ _ us hl => match us, hl with | [_], _ => rfl
  have F30 := fun_mk (st := st__law_e_text) l30 c30 k30
  have b30 := F30.binds (ps := ["house"]) fun _ _ _ _ _ _ us hl => match us, hl with | [_], _ => rfl
  have F31 := fun_mk (st := st__law_e_kind) l31 c31 k31
  have b31 := F31.binds (ps := ["caught"]) fun _ _ _ _ _ _ us hl => match us, hl with | [_], _ => rfl
  have F32 := fun_mk (st := st__law_e_word) l32 c32 k32
  have b32 := F32.binds (ps := ["way", "thing"]) fun _ _ _ _ _ _ us hl => match us, hl with | [_, _], _ => rfl
  have F33 := fun_mk (st := st__law_e_no_texts) l33 c33 k33
  have b33 := F33.binds (ps := ["deck", "text"]) fun _ _ _ _ _ _ us hl => match us, hl with | [_, _], _ => rfl
  have F34 := fun_mk (st := st__law_e_no_houses) l34 c34 k34
  have b34 := F34.binds (ps := ["deck", "house"]) fun _ _ _ _ _ _ us hl => match us, hl with | [_, _], _ => rfl
  have F35 := fun_mk (st := st_law) l35 c35 k35
  have y_isinstance := PySem.W.mg_none_of X G z_isinstance
  have y_int := PySem.W.mg_none_of X G z_int
  have y_bool := PySem.W.mg_none_of X G z_bool
  have y_str := PySem.W.mg_none_of X G z_str
  have y_len := PySem.W.mg_none_of X G z_len
  have y_all := PySem.W.mg_none_of X G z_all
  have y_tuple := PySem.W.mg_none_of X G z_tuple
  have y_list := PySem.W.mg_none_of X G z_list
  have y_enumerate := PySem.W.mg_none_of X G z_enumerate
  have y_sorted := PySem.W.mg_none_of X G z_sorted
  have y_range := PySem.W.mg_none_of X G z_range
  have y_dict := PySem.W.mg_none_of X G z_dict
  have y_ValueError := PySem.W.mg_none_of X G z_ValueError
  have y_LETTERS := glob_str X G z_LETTERS
  have y_MODES : GlobT K mg "MODES" ["both", "come", "go"] := ⟨A_MODES, PySem.W.mg_of X G z_MODES, fun H => .inr ⟨_, _, _, lk_MODES, rfl, rfl, (by show 3 ≤ sizeLine; rw [sizeLine_eq]; decide), (.cons ⟨t0_MODES, rfl⟩ (.cons ⟨t1_MODES, rfl⟩ (.cons ⟨t2_MODES, rfl⟩ .nil)))⟩⟩
  have y_MOST_DEEDS := glob_int X G z_MOST_DEEDS
  have y_MOST_HANDS := glob_int X G z_MOST_HANDS
  have y_MOST_IN_ALL := glob_int X G z_MOST_IN_ALL
  have y_MOST_BOXES := glob_int X G z_MOST_BOXES
  have y_WALLS_AT_MOST := glob_int X G z_WALLS_AT_MOST
  have y_MOST_FIRSTS := glob_int X G z_MOST_FIRSTS
  have y_MOST_SCRIPTS := glob_int X G z_MOST_SCRIPTS
  have y_MOST_FIGURES := glob_int X G z_MOST_FIGURES
  have y_FIGURES := glob_str X G z_FIGURES
  have g_NoHouse := PySem.W.mg_of X G ac_NoHouse
  have g_NoText := PySem.W.mg_of X G ac_NoText
  have g_WallError := PySem.W.mg_of X G ac_WallError
  have g_NoHand := PySem.W.mg_of X G ac_NoHand
  have g_NoDeed := PySem.W.mg_of X G ac_NoDeed
  have g_NoCount := PySem.W.mg_of X G ac_NoCount
  have g_NoRow := PySem.W.mg_of X G ac_NoRow
  have g_NoName := PySem.W.mg_of X G ac_NoName
  have g_NoWall := PySem.W.mg_of X G ac_NoWall
  have g_NoStand := PySem.W.mg_of X G ac_NoStand
  have g_TooMany := PySem.W.mg_of X G ac_TooMany
  have e_NoHouse : ErrC K mg "NoHouse" := ⟨C_NoHouse, g_NoHouse, ex_NoHouse, ek_NoHouse, es_NoHouse, et_NoHouse⟩
  have x_NoHouse : ExcC K C_NoHouse := ⟨xg_NoHouse, xk_NoHouse, es_NoHouse, xd_NoHouse, xa_NoHouse, x_n, x_t, xm_NoHouse⟩
  have e_NoText : ErrC K mg "NoText" := ⟨C_NoText, g_NoText, ex_NoText, ek_NoText, es_NoText, et_NoText⟩
  have x_NoText : ExcC K C_NoText := ⟨xg_NoText, xk_NoText, es_NoText, xd_NoText, xa_NoText, x_n, x_t, xm_NoText⟩
  have t_WallError : CatC K mg "WallError" ["NoHouse", "NoText"] := ⟨C_WallError, g_WallError, (err_c (fun D hD => by have e := (g_NoHouse).symm.trans hD; cases e; exact tm_WallError_NoHouse) (err_c (fun D hD => by have e := (g_NoText).symm.trans hD; cases e; exact tm_WallError_NoText) err_n))⟩
  have i_NoHand : IsC K mg "NoHand" [("NoHouse", false), ("NoText", false)] := ⟨C_NoHand, g_NoHand, (err_c (fun D hD => by have e := (g_NoHouse).symm.trans hD; cases e; exact ⟨x_NoHouse, ki_NoHand_NoHouse⟩) (err_c (fun D hD => by have e := (g_NoText).symm.trans hD; cases e; exact ⟨x_NoText, ki_NoHand_NoText⟩) err_n))⟩
  have i_NoDeed : IsC K mg "NoDeed" [("NoHouse", false), ("NoText", false)] := ⟨C_NoDeed, g_NoDeed, (err_c (fun D hD => by have e := (g_NoHouse).symm.trans hD; cases e; exact ⟨x_NoHouse, ki_NoDeed_NoHouse⟩) (err_c (fun D hD => by have e := (g_NoText).symm.trans hD; cases e; exact ⟨x_NoText, ki_NoDeed_NoText⟩) err_n))⟩
  have i_NoCount : IsC K mg "NoCount" [("NoHouse", false), ("NoText", false)] := ⟨C_NoCount, g_NoCount, (err_c (fun D hD => by have e := (g_NoHouse).symm.trans hD; cases e; exact ⟨x_NoHouse, ki_NoCount_NoHouse⟩) (err_c (fun D hD => by have e := (g_NoText).symm.trans hD; cases e; exact ⟨x_NoText, ki_NoCount_NoText⟩) err_n))⟩
  have i_NoRow : IsC K mg "NoRow" [("NoHouse", false), ("NoText", false)] := ⟨C_NoRow, g_NoRow, (err_c (fun D hD => by have e := (g_NoHouse).symm.trans hD; cases e; exact ⟨x_NoHouse, ki_NoRow_NoHouse⟩) (err_c (fun D hD => by have e := (g_NoText).symm.trans hD; cases e; exact ⟨x_NoText, ki_NoRow_NoText⟩) err_n))⟩
  have i_NoName : IsC K mg "NoName" [("NoHouse", false), ("NoText", false)] := ⟨C_NoName, g_NoName, (err_c (fun D hD => by have e := (g_NoHouse).symm.trans hD; cases e; exact ⟨x_NoHouse, ki_NoName_NoHouse⟩) (err_c (fun D hD => by have e := (g_NoText).symm.trans hD; cases e; exact ⟨x_NoText, ki_NoName_NoText⟩) err_n))⟩
  have i_NoHouse : IsC K mg "NoHouse" [("NoHouse", true), ("NoText", false)] := ⟨C_NoHouse, g_NoHouse, (err_c (fun D hD => by have e := (g_NoHouse).symm.trans hD; cases e; exact ⟨x_NoHouse, ki_NoHouse_NoHouse⟩) (err_c (fun D hD => by have e := (g_NoText).symm.trans hD; cases e; exact ⟨x_NoText, ki_NoHouse_NoText⟩) err_n))⟩
  have i_NoWall : IsC K mg "NoWall" [("NoHouse", false), ("NoText", false)] := ⟨C_NoWall, g_NoWall, (err_c (fun D hD => by have e := (g_NoHouse).symm.trans hD; cases e; exact ⟨x_NoHouse, ki_NoWall_NoHouse⟩) (err_c (fun D hD => by have e := (g_NoText).symm.trans hD; cases e; exact ⟨x_NoText, ki_NoWall_NoText⟩) err_n))⟩
  have i_NoText : IsC K mg "NoText" [("NoHouse", false), ("NoText", true)] := ⟨C_NoText, g_NoText, (err_c (fun D hD => by have e := (g_NoHouse).symm.trans hD; cases e; exact ⟨x_NoHouse, ki_NoText_NoHouse⟩) (err_c (fun D hD => by have e := (g_NoText).symm.trans hD; cases e; exact ⟨x_NoText, ki_NoText_NoText⟩) err_n))⟩
  have i_NoStand : IsC K mg "NoStand" [("NoHouse", false), ("NoText", false)] := ⟨C_NoStand, g_NoStand, (err_c (fun D hD => by have e := (g_NoHouse).symm.trans hD; cases e; exact ⟨x_NoHouse, ki_NoStand_NoHouse⟩) (err_c (fun D hD => by have e := (g_NoText).symm.trans hD; cases e; exact ⟨x_NoText, ki_NoStand_NoText⟩) err_n))⟩
  have i_TooMany : IsC K mg "TooMany" [("NoHouse", false), ("NoText", false)] := ⟨C_TooMany, g_TooMany, (err_c (fun D hD => by have e := (g_NoHouse).symm.trans hD; cases e; exact ⟨x_NoHouse, ki_TooMany_NoHouse⟩) (err_c (fun D hD => by have e := (g_NoText).symm.trans hD; cases e; exact ⟨x_NoText, ki_TooMany_NoText⟩) err_n))⟩
  have i_ValueError : IsB K mg "ValueError" [("NoHouse", true), ("NoText", true)] := ⟨(err_c (fun D hD => by have e := (g_NoHouse).symm.trans hD; cases e; exact ⟨x_NoHouse, ki_ValueError_NoHouse⟩) (err_c (fun D hD => by have e := (g_NoText).symm.trans hD; cases e; exact ⟨x_NoText, ki_ValueError_NoText⟩) err_n))⟩
  refine ⟨PySem.W.fnOf "law" "law" (defArgs st_law) (defBody st_law) (defScope st_law) .none kV35 dc35 pm35 an35 cd35 ct35, fun s v => .of_eq rfl, fun base _ _ => ?_⟩
  have C0 := ok_is_whole (P := l.prog) (w := w) (base := base) (k := 0) F0 b0 (PySem.W.mg_of X G a0) y_isinstance y_int y_bool
  have C1 := ok_is_from_to (P := l.prog) (w := w) (base := base) (k := 1) F1 b1 (PySem.W.mg_of X G a1) (C0.up (by decide))
  have C2 := ok_is_word (P := l.prog) (w := w) (base := base) (k := 0) F2 b2 (PySem.W.mg_of X G a2) y_isinstance y_str y_len y_all y_LETTERS
  have C3 := ok_is_members (P := l.prog) (w := w) (base := base) (k := 2) F3 b3 (PySem.W.mg_of X G a3) (C1.up (by decide)) y_isinstance y_tuple y_len y_str y_MODES
  have C4 := ok_is_deed (P := l.prog) (w := w) (base := base) (k := 3) F4 b4 (PySem.W.mg_of X G a4) (C1.up (by decide)) (C3.up (by decide)) (C2.up (by decide)) y_isinstance y_tuple y_len y_str
  have C5 := ok_is_calling (P := l.prog) (w := w) (base := base) (k := 3) F5 b5 (PySem.W.mg_of X G a5) (C1.up (by decide)) (C3.up (by decide)) y_isinstance y_tuple y_len
  have C6 := ok_is_script (P := l.prog) (w := w) (base := base) (k := 4) F6 b6 (PySem.W.mg_of X G a6) (C4.up (by decide)) y_isinstance y_tuple y_len y_all y_MOST_DEEDS
  have C7 := ok_has_mode (P := l.prog) (w := w) (base := base) (k := 0) F7 b7 (PySem.W.mg_of X G a7)
  have C8 := ok_may_do_with (P := l.prog) (w := w) (base := base) (k := 1) F8 b8 (PySem.W.mg_of X G a8) (C7.up (by decide)) y_all
  have C9 := ok_script_fits (P := l.prog) (w := w) (base := base) (k := 2) F9 b9 (PySem.W.mg_of X G a9) (C8.up (by decide))
  have C10 := ok_are_called_well (P := l.prog) (w := w) (base := base) (k := 3) F10 b10 (PySem.W.mg_of X G a10) (C9.up (by decide)) y_list y_len y_MOST_HANDS y_MOST_IN_ALL
  have C11 := ok_is_house (P := l.prog) (w := w) (base := base) (k := 5) F11 b11 (PySem.W.mg_of X G a11) (C1.up (by decide)) (C6.up (by decide)) (C5.up (by decide)) (C10.up (by decide)) y_isinstance y_tuple y_len y_enumerate y_all y_MOST_BOXES y_WALLS_AT_MOST y_MOST_FIRSTS y_MOST_SCRIPTS
  have C12 := ok_need_house (P := l.prog) (w := w) (base := base) (k := 6) F12 b12 (PySem.W.mg_of X G a12) (C11.up (by decide)) e_NoHouse
  have C13 := ok_show_members (P := l.prog) (w := w) (base := base) (k := 0) F13 b13 (PySem.W.mg_of X G a13) y_str
  have C14 := ok_show_deed (P := l.prog) (w := w) (base := base) (k := 1) F14 b14 (PySem.W.mg_of X G a14) (C13.up (by decide)) y_str
  have C15 := ok_show_house (P := l.prog) (w := w) (base := base) (k := 7) F15 b15 (PySem.W.mg_of X G a15) (C12.up (by decide)) (C14.up (by decide)) (C13.up (by decide)) y_str
  have C16 := ok_is_figures (P := l.prog) (w := w) (base := base) (k := 0) F16 b16 (PySem.W.mg_of X G a16) y_len y_all y_MOST_FIGURES y_FIGURES
  have C17 := ok_number_by (P := l.prog) (w := w) (base := base) (k := 1) F17 b17 (PySem.W.mg_of X G a17) (C16.up (by decide)) y_int e_NoText
  have C18 := ok_read_members (P := l.prog) (w := w) (base := base) (k := 2) F18 b18 (PySem.W.mg_of X G a18) (C17.up (by decide)) y_tuple y_MODES e_NoText
  have C19 := ok_read_calling (P := l.prog) (w := w) (base := base) (k := 3) F19 b19 (PySem.W.mg_of X G a19) (C18.up (by decide)) (C17.up (by decide)) e_NoText
  have C20 := ok_read_deed (P := l.prog) (w := w) (base := base) (k := 4) F20 b20 (PySem.W.mg_of X G a20) (C19.up (by decide)) (C17.up (by decide)) y_len y_all y_LETTERS e_NoText
  have C21 := ok_read_head (P := l.prog) (w := w) (base := base) (k := 2) F21 b21 (PySem.W.mg_of X G a21) (C17.up (by decide)) y_len e_NoText
  have C22 := ok_read_house (P := l.prog) (w := w) (base := base) (k := 6) F22 b22 (PySem.W.mg_of X G a22) (C21.up (by decide)) (C19.up (by decide)) (C20.up (by decide)) (C11.up (by decide)) y_tuple e_NoText e_NoHouse
  have C23 := ok__law_e_mixed (P := l.prog) (w := w) (base := base) (k := 0) F23 b23 (PySem.W.mg_of X G a23)
  have C24 := ok__law_e_pick (P := l.prog) (w := w) (base := base) (k := 1) F24 b24 (PySem.W.mg_of X G a24) (C23.up (by decide)) y_len
  have C25 := ok__law_e_may_call (P := l.prog) (w := w) (base := base) (k := 0) F25 b25 (PySem.W.mg_of X G a25)
  have C26 := ok__law_e_house_deed (P := l.prog) (w := w) (base := base) (k := 2) F26 b26 (PySem.W.mg_of X G a26) (C24.up (by decide)) (C25.up (by decide)) y_sorted y_len
  have C27 := ok__law_e_house (P := l.prog) (w := w) (base := base) (k := 3) F27 b27 (PySem.W.mg_of X G a27) (C24.up (by decide)) (C26.up (by decide)) y_range y_tuple y_dict
  have C28 := ok__law_e_members_text (P := l.prog) (w := w) (base := base) (k := 0) F28 b28 (PySem.W.mg_of X G a28) y_str
  have C29 := ok__law_e_deed_text (P := l.prog) (w := w) (base := base) (k := 1) F29 b29 (PySem.W.mg_of X G a29) (C28.up (by decide)) y_str y_len
  have C30 := ok__law_e_text (P := l.prog) (w := w) (base := base) (k := 2) F30 b30 (PySem.W.mg_of X G a30) (C29.up (by decide)) (C28.up (by decide)) y_str
  have C31 := ok__law_e_kind (P := l.prog) (w := w) (base := base) (k := 0) F31 b31 (PySem.W.mg_of X G a31) y_isinstance y_ValueError i_NoHand i_NoDeed i_NoCount i_NoRow i_NoName i_NoHouse i_NoWall i_NoText i_NoStand i_TooMany i_ValueError
  have C32 := ok__law_e_word (P := l.prog) (w := w) (base := base) (k := 8) F32 b32 (PySem.W.mg_of X G a32) (C22.up (by decide)) (C15.up (by decide)) (C31.up (by decide)) t_WallError
  have C33 := ok__law_e_no_texts (P := l.prog) (w := w) (base := base) (k := 2) F33 b33 (PySem.W.mg_of X G a33) (C24.up (by decide)) y_len y_range
  have C34 := ok__law_e_no_houses (P := l.prog) (w := w) (base := base) (k := 2) F34 b34 (PySem.W.mg_of X G a34) (C24.up (by decide)) y_len
  exact law_ok (ok_law (P := l.prog) (w := w) (base := base) (k := 9) F35 (C27.up (by decide)) (C30.up (by decide)) (C33.up (by decide)) (C32.up (by decide)) (C34.up (by decide)) (C22.up (by decide)) y_range y_len) law_true
end G
end DL
end L2
open PySem PySem.W PyProof.Rows
set_option maxRecDepth 100000 in
set_option maxHeartbeats 0 in
theorem PySem.Challenge.cw_meetwall_k67_texts_that_write_no_house_holds : PySem.Challenge.rw_meetwall_k67_texts_that_write_no_house.Holds := by
  w_on; o_law; k_head; (case hw => w_witness2)
  k_fill
  refine L2.walk_of (l := PySem.Challenge.rw_meetwall_k67_texts_that_write_no_house) (n := 63) (k := 10) (x := "script") (CX := fun _ => L2.CX0) (sp := fun w => L2.DL.spLaw _) rfl (by decide) rfl ⟨rfl, by decide, by decide⟩ (fun w h Y => PySem.W.kIn_of Y) ?F (fun _ _ a ns hl hO hS => ⟨a, ns, rfl, L2.DL.only_fz hO hS, hl, fun _ => rfl⟩) (fun _ _ _ _ _ h => h)
  case F =>
    intro w mg fa h KX G hmg
    refine' L2.DL.G.all_mk KX G hmg ?a0 ?l0 ?c0 ?k0 ?a1 ?l1 ?c1 ?k1 ?a2 ?l2 ?c2 ?k2 ?a3 ?l3 ?c3 ?k3 ?a4 ?l4 ?c4 ?k4 ?a5 ?l5 ?c5 ?k5 ?a6 ?l6 ?c6 ?k6 ?a7 ?l7 ?c7 ?k7 ?a8 ?l8 ?c8 ?k8 ?a9 ?l9 ?c9 ?k9 ?a10 ?l10 ?c10 ?k10 ?a11 ?l11 ?c11 ?k11 ?a12 ?l12 ?c12 ?k12 ?a13 ?l13 ?c13 ?k13 ?a14 ?l14 ?c14 ?k14 ?a15 ?l15 ?c15 ?k15 ?a16 ?l16 ?c16 ?k16 ?a17 ?l17 ?c17 ?k17 ?a18 ?l18 ?c18 ?k18 ?a19 ?l19 ?c19 ?k19 ?a20 ?l20 ?c20 ?k20 ?a21 ?l21 ?c21 ?k21 ?a22 ?l22 ?c22 ?k22 ?a23 ?l23 ?c23 ?k23 ?a24 ?l24 ?c24 ?k24 ?a25 ?l25 ?c25 ?k25 ?a26 ?l26 ?c26 ?k26 ?a27 ?l27 ?c27 ?k27 ?a28 ?l28 ?c28 ?k28 ?a29 ?l29 ?c29 ?k29 ?a30 ?l30 ?c30 ?k30 ?a31 ?l31 ?c31 ?k31 ?a32 ?l32 ?c32 ?k32 ?a33 ?l33 ?c33 ?k33 ?a34 ?l34 ?c34 ?k34 ?a35 ?l35 ?c35 ?k35 ?z_isinstance ?z_int ?z_bool ?z_str ?z_len ?z_all ?z_tuple ?z_list ?z_enumerate ?z_sorted ?z_range ?z_dict ?z_ValueError ?z_LETTERS ?z_MODES ?z_MOST_DEEDS ?z_MOST_HANDS ?z_MOST_IN_ALL ?z_MOST_BOXES ?z_WALLS_AT_MOST ?z_MOST_FIRSTS ?z_MOST_SCRIPTS ?z_MOST_FIGURES ?z_FIGURES ?lk_MODES ?ac_NoHouse ?ac_NoText ?ac_WallError ?ac_NoHand ?ac_NoDeed ?ac_NoCount ?ac_NoRow ?ac_NoName ?ac_NoWall ?ac_NoStand ?ac_TooMany ?ex_NoHouse ?ek_NoHouse ?es_NoHouse ?et_NoHouse ?xg_NoHouse ?xk_NoHouse ?xd_NoHouse ?xa_NoHouse ?xm_NoHouse ?ex_NoText ?ek_NoText ?es_NoText ?et_NoText ?xg_NoText ?xk_NoText ?xd_NoText ?xa_NoText ?xm_NoText ?x_n ?x_t ?tm_WallError_NoHouse ?tm_WallError_NoText ?ki_NoHand_NoHouse ?ki_NoHand_NoText ?ki_NoDeed_NoHouse ?ki_NoDeed_NoText ?ki_NoCount_NoHouse ?ki_NoCount_NoText ?ki_NoRow_NoHouse ?ki_NoRow_NoText ?ki_NoName_NoHouse ?ki_NoName_NoText ?ki_NoHouse_NoHouse ?ki_NoHouse_NoText ?ki_NoWall_NoHouse ?ki_NoWall_NoText ?ki_NoText_NoHouse ?ki_NoText_NoText ?ki_NoStand_NoHouse ?ki_NoStand_NoText ?ki_TooMany_NoHouse ?ki_TooMany_NoText ?ki_ValueError_NoHouse ?ki_ValueError_NoText
    (case a0 => k_is); (case l0 => k_is); (case c0 => k_is); (case k0 => k_is); (case a1 => k_is); (case l1 => k_is); (case c1 => k_is); (case k1 => k_is); (case a2 => k_is); (case l2 => k_is); (case c2 => k_is); (case k2 => k_is); (case a3 => k_is); (case l3 => k_is); (case c3 => k_is); (case k3 => k_is); (case a4 => k_is); (case l4 => k_is); (case c4 => k_is); (case k4 => k_is); (case a5 => k_is); (case l5 => k_is); (case c5 => k_is); (case k5 => k_is); (case a6 => k_is); (case l6 => k_is); (case c6 => k_is); (case k6 => k_is); (case a7 => k_is); (case l7 => k_is); (case c7 => k_is); (case k7 => k_is); (case a8 => k_is); (case l8 => k_is); (case c8 => k_is); (case k8 => k_is); (case a9 => k_is); (case l9 => k_is); (case c9 => k_is); (case k9 => k_is); (case a10 => k_is); (case l10 => k_is); (case c10 => k_is); (case k10 => k_is); (case a11 => k_is); (case l11 => k_is); (case c11 => k_is); (case k11 => k_is); (case a12 => k_is); (case l12 => k_is); (case c12 => k_is); (case k12 => k_is); (case a13 => k_is); (case l13 => k_is); (case c13 => k_is); (case k13 => k_is); (case a14 => k_is); (case l14 => k_is); (case c14 => k_is); (case k14 => k_is); (case a15 => k_is); (case l15 => k_is); (case c15 => k_is); (case k15 => k_is); (case a16 => k_is); (case l16 => k_is); (case c16 => k_is); (case k16 => k_is); (case a17 => k_is); (case l17 => k_is); (case c17 => k_is); (case k17 => k_is); (case a18 => k_is); (case l18 => k_is); (case c18 => k_is); (case k18 => k_is); (case a19 => k_is); (case l19 => k_is); (case c19 => k_is); (case k19 => k_is); (case a20 => k_is); (case l20 => k_is); (case c20 => k_is); (case k20 => k_is); (case a21 => k_is); (case l21 => k_is); (case c21 => k_is); (case k21 => k_is); (case a22 => k_is); (case l22 => k_is); (case c22 => k_is); (case k22 => k_is); (case a23 => k_is); (case l23 => k_is); (case c23 => k_is); (case k23 => k_is); (case a24 => k_is); (case l24 => k_is); (case c24 => k_is); (case k24 => k_is); (case a25 => k_is); (case l25 => k_is); (case c25 => k_is); (case k25 => k_is); (case a26 => k_is); (case l26 => k_is); (case c26 => k_is); (case k26 => k_is); (case a27 => k_is); (case l27 => k_is); (case c27 => k_is); (case k27 => k_is); (case a28 => k_is); (case l28 => k_is); (case c28 => k_is); (case k28 => k_is); (case a29 => k_is); (case l29 => k_is); (case c29 => k_is); (case k29 => k_is); (case a30 => k_is); (case l30 => k_is); (case c30 => k_is); (case k30 => k_is); (case a31 => k_is); (case l31 => k_is); (case c31 => k_is); (case k31 => k_is); (case a32 => k_is); (case l32 => k_is); (case c32 => k_is); (case k32 => k_is); (case a33 => k_is); (case l33 => k_is); (case c33 => k_is); (case k33 => k_is); (case a34 => k_is); (case l34 => k_is); (case c34 => k_is); (case k34 => k_is); (case a35 => k_is); (case l35 => k_is); (case c35 => k_is); (case k35 => k_is); (case z_isinstance => k_is); (case z_int => k_is); (case z_bool => k_is); (case z_str => k_is); (case z_len => k_is); (case z_all => k_is); (case z_tuple => k_is); (case z_list => k_is); (case z_enumerate => k_is); (case z_sorted => k_is); (case z_range => k_is); (case z_dict => k_is); (case z_ValueError => k_is); (case z_LETTERS => k_is); (case z_MODES => k_is); (case z_MOST_DEEDS => k_is); (case z_MOST_HANDS => k_is); (case z_MOST_IN_ALL => k_is); (case z_MOST_BOXES => k_is); (case z_WALLS_AT_MOST => k_is); (case z_MOST_FIRSTS => k_is); (case z_MOST_SCRIPTS => k_is); (case z_MOST_FIGURES => k_is); (case z_FIGURES => k_is); (case lk_MODES => k_is); (case ac_NoHouse => k_is); (case ac_NoText => k_is); (case ac_WallError => k_is); (case ac_NoHand => k_is); (case ac_NoDeed => k_is); (case ac_NoCount => k_is); (case ac_NoRow => k_is); (case ac_NoName => k_is); (case ac_NoWall => k_is); (case ac_NoStand => k_is); (case ac_TooMany => k_is); (case ex_NoHouse => k_exc); (case ek_NoHouse => k_is); (case es_NoHouse => k_is); (case et_NoHouse => k_is); (case xg_NoHouse => k_is); (case xk_NoHouse => k_is); (case xd_NoHouse => k_is); (case xa_NoHouse => k_is); (case xm_NoHouse => k_is); (case ex_NoText => k_exc); (case ek_NoText => k_is); (case es_NoText => k_is); (case et_NoText => k_is); (case xg_NoText => k_is); (case xk_NoText => k_is); (case xd_NoText => k_is); (case xa_NoText => k_is); (case xm_NoText => k_is); (case x_n => k_is); (case x_t => k_is); (case tm_WallError_NoHouse => first | rfl | k_is); (case tm_WallError_NoText => first | rfl | k_is); (case ki_NoHand_NoHouse => first | rfl | k_is); (case ki_NoHand_NoText => first | rfl | k_is); (case ki_NoDeed_NoHouse => first | rfl | k_is); (case ki_NoDeed_NoText => first | rfl | k_is); (case ki_NoCount_NoHouse => first | rfl | k_is); (case ki_NoCount_NoText => first | rfl | k_is); (case ki_NoRow_NoHouse => first | rfl | k_is); (case ki_NoRow_NoText => first | rfl | k_is); (case ki_NoName_NoHouse => first | rfl | k_is); (case ki_NoName_NoText => first | rfl | k_is); (case ki_NoHouse_NoHouse => first | rfl | k_is); (case ki_NoHouse_NoText => first | rfl | k_is); (case ki_NoWall_NoHouse => first | rfl | k_is); (case ki_NoWall_NoText => first | rfl | k_is); (case ki_NoText_NoHouse => first | rfl | k_is); (case ki_NoText_NoText => first | rfl | k_is); (case ki_NoStand_NoHouse => first | rfl | k_is); (case ki_NoStand_NoText => first | rfl | k_is); (case ki_TooMany_NoHouse => first | rfl | k_is); (case ki_TooMany_NoText => first | rfl | k_is); (case ki_ValueError_NoHouse => first | rfl | k_is); (case ki_ValueError_NoText => first | rfl | k_is)

