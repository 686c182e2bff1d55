import PyProof.Rows.All
import Wide.All
import OpenK.AllK
import Wide.FinOn
import HandS.ForMost
import KE.KDictKeyed
import HandS.Flow
import HandS.Wide
import HandS.TupAny
import HandS.StrMore
import HandS.SortRule
import HandS.IsInst
import HandS.Zip
import KE.KTupSum
import HandS.NoneIn
import KE.KUnpackStar
import HandS.Style
import HandS.Words
import KE.KeyNested
import KE.KDictDisplayH
import KE.KDictZip
import KE.GoesZip
import KE.GoesMore
import KE.GoesEnum
import HandS.More
import PySem.Challenge.RW_wirelooker_k79_whole_unlike_by_soonest
section
set_option Elab.async false
set_option linter.all false
set_option maxRecDepth 100000
/-! AL0: values as trees, the abstract heap of the few objects that change, what they stand for. -/
namespace AL
open PySem PySem.Spec PyProof.Rows L2

/-- a value that never changes: a tree -/
inductive D where
  | non | bl (b : Bool) | int (i : Int) | str (x : Str)
  | tup (ds : List D) | lst (ds : List D)
  | dk (kvs : List (Key × Int)) | ins (ds : List D)
/-- a value: a tree, or a changing object by its number -/
inductive AV where
  | dat (d : D) | ref (n : Nat)
/-- a changing object -/
inductive AO where
  | lst (ds : List D) | dK (kvs : List (Key × D)) | dN (ks : List NestedKey) | ins (fs : List (Str × AV))
abbrev AH := List AO
abbrev En := List (Option AV)

/-- what is fixed: the written part, the class of the instances, the names of a frozen instance's fields -/
structure Wo where
  P : Program
  w : World
  K : PySem.W.Frag
  C : Addr
abbrev NS := Addr → Prop

def KL (K : PySem.W.Frag) (a : Addr) (xs : List V) : Prop :=
  ∃ (o : Obj) (its : Array Value) (n : Nat), K.lookup a = some o ∧ o.cls = .type "list" ∧ o.dict = none ∧ o.data = .seq its n ∧ its.size ≤ sizeLine ∧ Vals xs its.toList
def KT (K : PySem.W.Frag) (a : Addr) (xs : List V) : Prop :=
  ∃ (o : Obj) (its : Array Value) (n : Nat), K.lookup a = some o ∧ o.cls = .type "tuple" ∧ o.data = .seq its n ∧ its.size ≤ sizeLine ∧ Vals xs its.toList
/-- a frozen list, tuple -/
def FL (K : PySem.W.Frag) (N : NS) (H : Hp) (a : Addr) (xs : List V) : Prop := (Rd H a (.lst xs) ∧ ¬ N a) ∨ KL K a xs
def FT (K : PySem.W.Frag) (N : NS) (H : Hp) (a : Addr) (xs : List V) : Prop := (Rd H a (.tup xs) ∧ ¬ N a) ∨ KT K a xs
theorem FL.sq {K : PySem.W.Frag} {N : NS} {H : Hp} {a : Addr} {xs : List V} (h : FL K N H a xs) : SqL K H a xs := h.elim (fun z => .inl z.1) .inr
theorem FT.sq {K : PySem.W.Frag} {N : NS} {H : Hp} {a : Addr} {xs : List V} (h : FT K N H a xs) : SqT K H a xs := h.elim (fun z => .inl z.1) .inr

def insN : List Str := ["rows_of", "tops"]

mutual
inductive RV (W : Wo) (N : NS) (H : Hp) : D → V → Prop
  | non : RV W N H .non .non
  | bl (b : Bool) : RV W N H (.bl b) (.bl b)
  | int (i : Int) : RV W N H (.int i) (.int i)
  | str (x : Str) : RV W N H (.str x) (.str x)
  | tup {p : Addr} {xs : List V} {ds : List D} : FT W.K N H p xs → RVs W N H ds xs → RV W N H (.tup ds) (.ref p)
  | lst {p : Addr} {xs : List V} {ds : List D} : FL W.K N H p xs → RVs W N H ds xs → RV W N H (.lst ds) (.ref p)
  | dk {p : Addr} {kvs : List (Key × Int)} : H p = some (.dK (kvs.map fun q => (q.1, V.int q.2))) → ¬ N p → RV W N H (.dk kvs) (.ref p)
  | ins {p dx : Addr} {xs : List V} {ds : List D} : H p = some (.ins W.C dx (insN.zip xs)) → ¬ N p → xs.length = insN.length → RVs W N H ds xs → RV W N H (.ins ds) (.ref p)
inductive RVs (W : Wo) (N : NS) (H : Hp) : List D → List V → Prop
  | nil : RVs W N H [] []
  | cons {d : D} {v : V} {ds : List D} {vs : List V} : RV W N H d v → RVs W N H ds vs → RVs W N H (d :: ds) (v :: vs)
end

section
variable {W : Wo} {N N' : NS} {H H' : Hp}

theorem FL.mono {a : Addr} {xs : List V} (h : FL W.K N H a xs) (k : ∀ a o, H a = some o → ¬ N a → H' a = some o ∧ ¬ N' a) : FL W.K N' H' a xs := by
  rcases h with ⟨h | ⟨o, h⟩, n⟩ | h
  · exact .inl ⟨.inl (k _ _ h n).1, (k _ _ h n).2⟩
  · exact .inl ⟨.inr ⟨o, (k _ _ h n).1⟩, (k _ _ h n).2⟩
  · exact .inr h
theorem FT.mono {a : Addr} {xs : List V} (h : FT W.K N H a xs) (k : ∀ a o, H a = some o → ¬ N a → H' a = some o ∧ ¬ N' a) : FT W.K N' H' a xs := by
  rcases h with ⟨h | ⟨o, h⟩, n⟩ | h
  · exact .inl ⟨.inl (k _ _ h n).1, (k _ _ h n).2⟩
  · exact .inl ⟨.inr ⟨o, (k _ _ h n).1⟩, (k _ _ h n).2⟩
  · exact .inr h
mutual
theorem RV.mono (k : ∀ a o, H a = some o → ¬ N a → H' a = some o ∧ ¬ N' a) : ∀ (d : D) (v : V), RV W N H d v → RV W N' H' d v
  | .non, _, h => by cases h; exact .non
  | .bl b, _, h => by cases h; exact .bl b
  | .int i, _, h => by cases h; exact .int i
  | .str x, _, h => by cases h; exact .str x
  | .tup ds, _, h => by
    cases h with
    | tup h1 h2 => exact .tup (h1.mono k) (RVs.mono k ds _ h2)
  | .lst ds, _, h => by
    cases h with
    | lst h1 h2 => exact .lst (h1.mono k) (RVs.mono k ds _ h2)
  | .dk kvs, _, h => by
    cases h with
    | dk h1 h2 => exact .dk (k _ _ h1 h2).1 (k _ _ h1 h2).2
  | .ins ds, _, h => by
    cases h with
    | ins h1 h2 h3 h4 => exact .ins (k _ _ h1 h2).1 (k _ _ h1 h2).2 h3 (RVs.mono k ds _ h4)
theorem RVs.mono (k : ∀ a o, H a = some o → ¬ N a → H' a = some o ∧ ¬ N' a) : ∀ (ds : List D) (vs : List V), RVs W N H ds vs → RVs W N' H' ds vs
  | [], _, h => by cases h; exact .nil
  | d :: ds, _, h => by
    cases h with
    | cons h1 h2 => exact .cons (RV.mono k d _ h1) (RVs.mono k ds _ h2)
end
theorem RVs.length : ∀ {ds : List D} {vs : List V}, RVs W N H ds vs → ds.length = vs.length
  | [], _, h => by cases h; rfl
  | _ :: ds, _, h => by
    cases h with
    | cons _ h2 => rw [List.length_cons, List.length_cons, RVs.length h2]
theorem RVs.get : ∀ {ds : List D} {vs : List V} {i : Nat} {d : D}, RVs W N H ds vs → ds[i]? = some d → ∃ v, vs[i]? = some v ∧ RV W N H d v
  | [], _, _, _, _, e => by simp at e
  | _ :: _, _, 0, _, h, e => by
    cases h with
    | cons h1 h2 => simp at e; subst e; exact ⟨_, rfl, h1⟩
  | _ :: ds, _, i + 1, d, h, e => by
    cases h with
    | cons h1 h2 =>
      obtain ⟨v, q1, q2⟩ := RVs.get (i := i) h2 (by simpa using e)
      exact ⟨v, by simpa using q1, q2⟩
theorem RVs.getV : ∀ {ds : List D} {vs : List V} {i : Nat} {v : V}, RVs W N H ds vs → vs[i]? = some v → ∃ d, ds[i]? = some d ∧ RV W N H d v
  | [], _, _, _, h, e => by cases h; simp at e
  | _ :: _, _, 0, _, h, e => by
    cases h with
    | cons h1 h2 => simp at e; subst e; exact ⟨_, rfl, h1⟩
  | _ :: ds, _, i + 1, d, h, e => by
    cases h with
    | cons h1 h2 =>
      obtain ⟨v, q1, q2⟩ := RVs.getV (i := i) h2 (by simpa using e)
      exact ⟨v, by simpa using q1, q2⟩
theorem RVs.append : ∀ {ds es : List D} {vs us : List V}, RVs W N H ds vs → RVs W N H es us → RVs W N H (ds ++ es) (vs ++ us)
  | [], _, _, _, h, g => by cases h; exact g
  | _ :: ds, _, _, _, h, g => by
    cases h with
    | cons h1 h2 => exact .cons h1 (RVs.append h2 g)
theorem RVs.take : ∀ {ds : List D} {vs : List V} (n : Nat), RVs W N H ds vs → RVs W N H (ds.take n) (vs.take n)
  | _, _, 0, _ => by simp; exact .nil
  | [], _, n + 1, h => by cases h; exact .nil
  | _ :: ds, _, n + 1, h => by
    cases h with
    | cons h1 h2 => exact .cons h1 (RVs.take n h2)
theorem RVs.drop : ∀ {ds : List D} {vs : List V} (n : Nat), RVs W N H ds vs → RVs W N H (ds.drop n) (vs.drop n)
  | _, _, 0, h => h
  | [], _, n + 1, h => by cases h; exact .nil
  | _ :: ds, _, n + 1, h => by
    cases h with
    | cons h1 h2 => exact RVs.drop n h2
theorem RVs.set {d : D} {v : V} (r : RV W N H d v) : ∀ {ds : List D} {vs : List V} (i : Nat), RVs W N H ds vs → RVs W N H (ds.set i d) (vs.set i v)
  | [], _, _, h => by cases h; exact .nil
  | _ :: ds, _, 0, h => by
    cases h with
    | cons h1 h2 => exact .cons r h2
  | _ :: ds, _, i + 1, h => by
    cases h with
    | cons h1 h2 => exact .cons h1 (RVs.set r i h2)
theorem RVs.dropLast : ∀ {ds : List D} {vs : List V}, RVs W N H ds vs → RVs W N H ds.dropLast vs.dropLast := fun {ds vs} h => by
  rw [List.dropLast_eq_take, List.dropLast_eq_take, h.length]
  exact h.take _
theorem RVs.ints : ∀ {ns : List Int} {vs : List V}, RVs W N H (ns.map D.int) vs → vs = ns.map V.int
  | [], _, h => by cases h; rfl
  | n :: ns, _, h => by
    cases h with
    | cons h1 h2 =>
      cases h1
      rw [RVs.ints h2]; rfl
theorem RVs.bls : ∀ {ns : List Bool} {vs : List V}, RVs W N H (ns.map D.bl) vs → vs = ns.map V.bl
  | [], _, h => by cases h; rfl
  | n :: ns, _, h => by
    cases h with
    | cons h1 h2 =>
      cases h1
      rw [RVs.bls h2]; rfl
theorem RVs.strs : ∀ {ns : List Str} {vs : List V}, RVs W N H (ns.map D.str) vs → vs = ns.map V.str
  | [], _, h => by cases h; rfl
  | n :: ns, _, h => by
    cases h with
    | cons h1 h2 =>
      cases h1
      rw [RVs.strs h2]; rfl
end

/-- the ghost: which addresses may change (of any frame), which of them are known here, by number -/
structure Gh where
  N : NS
  io : List Addr

/-- a value -/
inductive RA (W : Wo) (g : Gh) (H : Hp) : AV → V → Prop
  | dat {d : D} {v : V} : RV W g.N H d v → RA W g H (.dat d) v
  | ref {n : Nat} {a : Addr} : g.io[n]? = some a → RA W g H (.ref n) (.ref a)
inductive RAs (W : Wo) (g : Gh) (H : Hp) : List AV → List V → Prop
  | nil : RAs W g H [] []
  | cons {d : AV} {v : V} {ds : List AV} {vs : List V} : RA W g H d v → RAs W g H ds vs → RAs W g H (d :: ds) (v :: vs)
inductive RKs (W : Wo) (N : NS) (H : Hp) : List (Key × D) → List (Key × V) → Prop
  | nil : RKs W N H [] []
  | cons {k : Key} {d : D} {v : V} {ds : List (Key × D)} {vs : List (Key × V)} : RV W N H d v → RKs W N H ds vs → RKs W N H ((k, d) :: ds) ((k, v) :: vs)
inductive RFs (W : Wo) (g : Gh) (H : Hp) : List (Str × AV) → List (Str × V) → Prop
  | nil : RFs W g H [] []
  | cons {k : Str} {d : AV} {v : V} {ds : List (Str × AV)} {vs : List (Str × V)} : RA W g H d v → RFs W g H ds vs → RFs W g H ((k, d) :: ds) ((k, v) :: vs)

/-- the keys of a dict of tuples: what must be of its one object -/
def dnP (W : Wo) (a : Addr) (xs : List (NestedKey × Addr)) : Heap → Prop := fun h =>
  ∃ o es ep, h.get? a = some o ∧ o.ExactDict ∧ o.data = .dict es ep ∧ es.toList = (xs.map fun x => (x.1, x.2, Value.bool true)).map (entryOfKey (nestedKind W.P W.w)) ∧ (xs.map (·.1)).Nodup

mutual
def toKey : D → Option NestedKey
  | .non => some NestedKey.none
  | .bl b => some (NestedKey.num (if b = true then 1 else 0))
  | .int i => some (NestedKey.num i)
  | .str x => some (NestedKey.text x)
  | .tup ds => match toKeys ds with
    | some ks => some (NestedKey.tup ks)
    | none => none
  | .lst _ => none
  | .dk _ => none
  | .ins _ => none
def toKeys : List D → Option (List NestedKey)
  | [] => some []
  | d :: ds => match toKey d, toKeys ds with
    | some k, some ks => some (k :: ks)
    | _, _ => none
end

/-- what stands at a changing object's address -/
def RO (W : Wo) (g : Gh) (H : Hp) (a : Addr) : AO → Prop
  | .lst ds => ∃ xs, H a = some (.lst xs) ∧ RVs W g.N H ds xs
  | .dK kvs => ∃ ys, H a = some (.dK ys) ∧ RKs W g.N H kvs ys
  | .dN ks => ∃ xs : List (NestedKey × Addr), H a = some (.ext (dnP W a xs)) ∧ xs.map (·.1) = ks ∧ xs.length ≤ sizeLine ∧ (a == sysModules) = false ∧ ∀ x ∈ xs, ∃ d, (toKey d = some x.1 ∧ x.1.depth ≤ 8) ∧ RV W g.N H d (.ref x.2)
  | .ins fs => ∃ dx ys, H a = some (.ins W.C dx ys) ∧ RFs W g H fs ys

structure MH (W : Wo) (g : Gh) (h : AH) (H : Hp) : Prop where
  len : g.io.length = h.length
  nd : g.io.Nodup
  sub : ∀ a ∈ g.io, g.N a
  nn : ∀ a, g.N a → ∃ o, H a = some o
  obj : ∀ (n : Nat) (a : Addr) (o : AO), g.io[n]? = some a → h[n]? = some o → RO W g H a o

structure Ext (g : Gh) (H : Hp) (g' : Gh) (H' : Hp) : Prop where
  pre : ∃ more, g'.io = g.io ++ more
  sub : ∀ a, g.N a → g'.N a
  new : ∀ a, g'.N a → g.N a ∨ H a = none
  nw : ∀ a ∈ g'.io, a ∈ g.io ∨ H a = none
  fr : ∀ a o, H a = some o → a ∉ g.io → H' a = some o

section
variable {W : Wo} {g g1 g2 : Gh} {H H1 H2 : Hp} {h h1 : AH}
theorem Ext.refl (g : Gh) (H : Hp) : Ext g H g H := ⟨⟨[], by simp⟩, fun _ x => x, fun _ x => .inl x, fun _ x => .inl x, fun _ _ x _ => x⟩
theorem Ext.trans (a : Ext g H g1 H1) (b : Ext g1 H1 g2 H2) (hs : ∀ x ∈ g.io, g.N x) : Ext g H g2 H2 := by
  have back : ∀ x, H1 x = none → ¬ g.N x → H x = none := fun x e n => by
    cases q : H x with
    | none => rfl
    | some o =>
      have := a.fr x o q fun z => n (hs x z)
      rw [e] at this; cases this
  refine ⟨?_, fun x n => b.sub x (a.sub x n), fun x n => ?_, fun x n => ?_, fun x o e n => ?_⟩
  · obtain ⟨m1, e1⟩ := a.pre
    obtain ⟨m2, e2⟩ := b.pre
    exact ⟨m1 ++ m2, by rw [e2, e1, List.append_assoc]⟩
  · rcases b.new x n with z | z
    · exact a.new x z
    · by_cases q : g.N x
      · exact .inl q
      · exact .inr (back x z q)
  · rcases b.nw x n with z | z
    · exact a.nw x z
    · by_cases q : x ∈ g.io
      · exact .inl q
      · refine .inr ?_
        cases q2 : H x with
        | none => rfl
        | some o =>
          have := a.fr x o q2 q
          rw [z] at this; cases this
  · have e1 := a.fr x o e n
    refine b.fr x o e1 fun z => ?_
    rcases a.nw x z with y | y
    · exact n y
    · rw [e] at y; cases y
theorem Ext.keep (e : Ext g H g1 H1) (m : MH W g h H) : ∀ a o, H a = some o → ¬ g.N a → H1 a = some o ∧ ¬ g1.N a := fun a o q n =>
  ⟨e.fr a o q fun z => n (m.sub a z), fun z => (e.new a z).elim n fun y => by rw [q] at y; cases y⟩
theorem RV.ext {d : D} {v : V} (r : RV W g.N H d v) (e : Ext g H g1 H1) (m : MH W g h H) : RV W g1.N H1 d v := RV.mono (e.keep m) d v r
theorem RVs.ext {d : List D} {v : List V} (r : RVs W g.N H d v) (e : Ext g H g1 H1) (m : MH W g h H) : RVs W g1.N H1 d v := RVs.mono (e.keep m) d v r
theorem RA.ext {d : AV} {v : V} (r : RA W g H d v) (e : Ext g H g1 H1) (m : MH W g h H) : RA W g1 H1 d v := by
  cases r with
  | dat r => exact .dat (r.ext e m)
  | ref r =>
    obtain ⟨more, q⟩ := e.pre
    refine .ref ?_
    rw [q, List.getElem?_append_left]
    · exact r
    · exact (List.getElem?_eq_some_iff.mp r).1
theorem RAs.ext (e : Ext g H g1 H1) (m : MH W g h H) : ∀ {d : List AV} {v : List V}, RAs W g H d v → RAs W g1 H1 d v
  | _, _, .nil => .nil
  | _, _, .cons r q => .cons (r.ext e m) (RAs.ext e m q)
theorem RKs.mono {N N' : NS} (k : ∀ a o, H a = some o → ¬ N a → H1 a = some o ∧ ¬ N' a) : ∀ {d : List (Key × D)} {v : List (Key × V)}, RKs W N H d v → RKs W N' H1 d v
  | _, _, .nil => .nil
  | _, _, .cons r q => .cons (RV.mono k _ _ r) (RKs.mono k q)
theorem RFs.ext (e : Ext g H g1 H1) (m : MH W g h H) : ∀ {d : List (Str × AV)} {v : List (Str × V)}, RFs W g H d v → RFs W g1 H1 d v
  | _, _, .nil => .nil
  | _, _, .cons r q => .cons (r.ext e m) (RFs.ext e m q)
/-- an object that stays as it is -/
theorem RO.ext {a : Addr} {o : AO} (r : RO W g H a o) (e : Ext g H g1 H1) (m : MH W g h H) (k : ∀ u, H a = some u → H1 a = some u) : RO W g1 H1 a o := by
  cases o with
  | lst ds => obtain ⟨xs, q, r⟩ := r; exact ⟨xs, k _ q, r.ext e m⟩
  | dK kvs => obtain ⟨xs, q, r⟩ := r; exact ⟨xs, k _ q, r.mono (e.keep m)⟩
  | dN ks =>
    obtain ⟨xs, q, r1, r2, r3, r⟩ := r
    refine ⟨xs, k _ q, r1, r2, r3, fun x hx => ?_⟩
    obtain ⟨d, z1, z2⟩ := r x hx
    exact ⟨d, z1, z2.ext e m⟩
  | ins fs => obtain ⟨dx, ys, q, r⟩ := r; exact ⟨dx, ys, k _ q, r.ext e m⟩
/-- a new object beside: nothing known changes -/
theorem Ext.laid {p : Addr} {o : HO} (hp : H p = none) : Ext g H g (upd H p o) :=
  ⟨⟨[], by simp⟩, fun _ x => x, fun _ x => .inl x, fun _ x => .inl x, fun a u e _ => by rw [upd_ne (ne_of_none e hp)]; exact e⟩
theorem MH.same (m : MH W g h H) (e : Ext g H g H1) (k : ∀ a ∈ g.io, ∀ u, H a = some u → H1 a = some u) (n2 : ∀ a, g.N a → ∃ o, H1 a = some o) : MH W g h H1 :=
  ⟨m.len, m.nd, m.sub, n2, fun n a o e1 e2 => (m.obj n a o e1 e2).ext e m (k a (List.mem_of_getElem? e1))⟩
theorem MH.laid {p : Addr} {o : HO} (m : MH W g h H) (hp : H p = none) : MH W g h (upd H p o) := by
  refine m.same (Ext.laid hp) (fun a ha u e => by rw [upd_ne (ne_of_none e hp)]; exact e) fun a n => ?_
  obtain ⟨u, e⟩ := m.nn a n
  exact ⟨u, by rw [upd_ne (ne_of_none e hp)]; exact e⟩
theorem MH.nfresh (m : MH W g h H) {p : Addr} (hp : H p = none) : ¬ g.N p := fun n => by
  obtain ⟨o, e⟩ := m.nn p n
  rw [hp] at e; cases e
/-- a new changing object -/
def Gh.add (g : Gh) (p : Addr) : Gh := ⟨fun a => g.N a ∨ a = p, g.io ++ [p]⟩
theorem Ext.add {p : Addr} {o : HO} (hp : H p = none) : Ext g H (g.add p) (upd H p o) :=
  ⟨⟨[p], rfl⟩, fun _ x => .inl x, fun a x => x.elim .inl fun e => .inr (by rw [e]; exact hp), fun a x => (List.mem_append.mp x).elim .inl fun e => .inr (by rw [List.mem_singleton.mp e]; exact hp),
    fun a u e _ => by rw [upd_ne (ne_of_none e hp)]; exact e⟩
theorem MH.add {p : Addr} {o : HO} {ao : AO} (m : MH W g h H) (hp : H p = none) (r : RO W (g.add p) (upd H p o) p ao) : MH W (g.add p) (h ++ [ao]) (upd H p o) := by
  have hpi : p ∉ g.io := fun z => m.nfresh hp (m.sub p z)
  refine ⟨by simp [Gh.add, m.len], ?_, fun a x => ?_, fun a x => ?_, fun n a o' e1 e2 => ?_⟩
  · show (g.io ++ [p]).Nodup
    rw [List.nodup_append]
    exact ⟨m.nd, by simp, fun a ha b hb => by rw [List.mem_singleton.mp hb]; exact fun e => hpi (e ▸ ha)⟩
  · rcases List.mem_append.mp x with x | x
    · exact .inl (m.sub a x)
    · exact .inr (List.mem_singleton.mp x)
  · rcases x with x | x
    · obtain ⟨u, e⟩ := m.nn a x
      exact ⟨u, by rw [upd_ne (ne_of_none e hp)]; exact e⟩
    · exact ⟨o, by rw [x, upd_same]⟩
  · by_cases hn : n < g.io.length
    · have e1' : g.io[n]? = some a := by
        have : (g.io ++ [p])[n]? = some a := e1
        rwa [List.getElem?_append_left hn] at this
      rw [List.getElem?_append_left (by rw [← m.len]; exact hn)] at e2
      exact (m.obj n a o' e1' e2).ext (Ext.add hp) m fun u e => by rw [upd_ne (ne_of_none e hp)]; exact e
    · have e1' : (g.io ++ [p])[n]? = some a := e1
      rw [List.getElem?_append_right (by omega)] at e1'
      rw [List.getElem?_append_right (by rw [← m.len]; omega)] at e2
      have z : n - g.io.length = 0 := by
        cases q : n - g.io.length with
        | zero => rfl
        | succ k => rw [q] at e1'; simp at e1'
      rw [z] at e1'
      rw [← m.len, z] at e2
      simp at e1' e2
      subst e1' e2
      exact r
/-- a changing object is written -/
theorem Ext.wr {n : Nat} {a : Addr} {o : HO} (ha : g.io[n]? = some a) : Ext g H g (upd H a o) :=
  ⟨⟨[], by simp⟩, fun _ x => x, fun _ x => .inl x, fun _ x => .inl x, fun b u e z => by
    rw [upd_ne (fun q => z (by rw [q]; exact List.mem_of_getElem? ha))]; exact e⟩
theorem MH.wr {n : Nat} {a : Addr} {o : HO} {ao : AO} (m : MH W g h H) (ha : g.io[n]? = some a) (r : RO W g (upd H a o) a ao) : MH W g (h.set n ao) (upd H a o) := by
  have hn : n < h.length := by rw [← m.len]; exact (List.getElem?_eq_some_iff.mp ha).1
  refine ⟨by simpa using m.len, m.nd, m.sub, fun b x => ?_, fun k b o' e1 e2 => ?_⟩
  · by_cases q : b = a
    · exact ⟨o, by rw [q, upd_same]⟩
    · obtain ⟨u, e⟩ := m.nn b x
      exact ⟨u, by rw [upd_ne q]; exact e⟩
  · by_cases q : k = n
    · subst q
      rw [ha] at e1; cases e1
      rw [List.getElem?_set_self hn] at e2
      cases e2
      exact r
    · rw [List.getElem?_set_ne (Ne.symm q)] at e2
      have hab : b ≠ a := fun z => by
        subst z
        obtain ⟨l1, g1⟩ := List.getElem?_eq_some_iff.mp e1
        obtain ⟨l2, g2⟩ := List.getElem?_eq_some_iff.mp ha
        exact q ((List.getElem_inj m.nd).mp (g1.trans g2.symm))
      exact (m.obj k b o' e1 e2).ext (Ext.wr ha) m fun u e => by rw [upd_ne hab]; exact e
end
end AL
end
section
set_option Elab.async false
set_option linter.all false
set_option maxRecDepth 100000
/-! AL1: judgements over trees, expressions. -/
namespace AL
open PySem PySem.Spec PyProof.Rows L2

abbrev AT := En → AH → (AV → AH → Prop) → Prop
abbrev AA := En → AH → (List AV → AH → Prop) → Prop
abbrev AB := En → AH → (Bool → AH → Prop) → Prop
abbrev AG := AV → En → AH → (En → AH → Prop) → Prop
abbrev AGs := List AV → En → AH → (En → AH → Prop) → Prop
abbrev AS := (En → AH → Prop) → (AV → AH → Prop) → En → AH → Prop

structure RE (W : Wo) (g : Gh) (H : Hp) (ρ : En) (σ : L2.St) : Prop where
  len : ρ.length = σ.length
  gt : ∀ (i : Nat) (d : AV), ρ[i]? = some (some d) → ∃ v, σ[i]? = some (some v) ∧ RA W g H d v

section
variable {W : Wo} {g g1 g2 : Gh} {H H1 H2 : Hp} {h h1 : AH} {ρ : En} {σ : L2.St}
theorem RE.ext (r : RE W g H ρ σ) (e : Ext g H g1 H1) (m : MH W g h H) : RE W g1 H1 ρ σ :=
  ⟨r.len, fun i d q => let ⟨v, q1, q2⟩ := r.gt i d q; ⟨v, q1, q2.ext e m⟩⟩
theorem RE.set {i : Nat} {d : AV} {v : V} (r : RE W g H ρ σ) (q : RA W g H d v) : RE W g H (ρ.set i (some d)) (σ.set i (some v)) := by
  refine ⟨by simp [r.len], fun j e hj => ?_⟩
  by_cases hji : i = j
  · subst hji
    by_cases hl : i < ρ.length
    · rw [List.getElem?_set_self hl] at hj
      cases hj
      exact ⟨v, by rw [List.getElem?_set_self (by rw [← r.len]; exact hl)], q⟩
    · rw [List.getElem?_eq_none (by simpa using hl)] at hj
      cases hj
  · rw [List.getElem?_set_ne hji] at hj
    obtain ⟨u, e1, e2⟩ := r.gt j e hj
    exact ⟨u, by rw [List.getElem?_set_ne hji]; exact e1, e2⟩
theorem RAs.dats : ∀ {ds : List D} {vs : List V}, RAs W g H (ds.map .dat) vs → RVs W g.N H ds vs
  | [], _, h => by cases h; exact .nil
  | _ :: _, _, h => by
    cases h with
    | cons h1 h2 =>
      cases h1 with
      | dat h1 => exact .cons h1 (RAs.dats h2)
theorem RVs.dats : ∀ {ds : List D} {vs : List V}, RVs W g.N H ds vs → RAs W g H (ds.map .dat) vs
  | [], _, h => by cases h; exact .nil
  | _ :: _, _, h => by
    cases h with
    | cons h1 h2 => exact .cons (.dat h1) (RVs.dats h2)
end

def datL : List AV → Option (List D)
  | [] => some []
  | .dat d :: r => (datL r).map (d :: ·)
  | .ref _ :: _ => none
theorem datL_eq : ∀ {vs : List AV} {ds : List D}, datL vs = some ds → vs = ds.map .dat
  | [], _, h => by cases h; rfl
  | .dat d :: r, ds, h => by
    unfold datL at h
    cases q : datL r with
    | none => rw [q] at h; cases h
    | some es =>
      rw [q] at h
      cases h
      rw [datL_eq q]; rfl
  | .ref _ :: _, _, h => by cases h
@[simp] theorem datL_nil : datL [] = some [] := rfl
@[simp] theorem datL_cons (d : D) (r : List AV) : datL (.dat d :: r) = (datL r).map (d :: ·) := rfl
theorem datL_map : ∀ ds : List D, datL (ds.map .dat) = some ds
  | [] => rfl
  | d :: ds => by rw [List.map_cons, datL_cons, datL_map ds]; rfl

/-! ### the judgements, over the hand layer's -/
/-- how a reading over trees stands for one over the layer -/
def cE (W : Wo) (t : AT) : TE := fun σ H Q => ∃ g h ρ R, MH W g h H ∧ RE W g H ρ σ ∧ t ρ h R ∧
  ∀ v H' g' h' d, Ext g H g' H' → MH W g' h' H' → RA W g' H' d v → R d h' → Q v H'
def cA (W : Wo) (t : AA) : TA := fun σ H Q => ∃ g h ρ R, MH W g h H ∧ RE W g H ρ σ ∧ t ρ h R ∧
  ∀ v H' g' h' d, Ext g H g' H' → MH W g' h' H' → RAs W g' H' d v → R d h' → Q v H'
def cT (W : Wo) (t : AB) : TT := fun σ H Q => ∃ g h ρ R, MH W g h H ∧ RE W g H ρ σ ∧ t ρ h R ∧
  ∀ b H' g' h', Ext g H g' H' → MH W g' h' H' → R b h' → Q b H'
def cG (W : Wo) (t : AG) : TG := fun v σ H Q => ∃ g h ρ d R, MH W g h H ∧ RE W g H ρ σ ∧ RA W g H d v ∧ t d ρ h R ∧
  ∀ σ' H' g' h' ρ', Ext g H g' H' → MH W g' h' H' → RE W g' H' ρ' σ' → R ρ' h' → Q σ' H'
def cGs (W : Wo) (t : AGs) : TGs := fun v σ H Q => ∃ g h ρ d R, MH W g h H ∧ RE W g H ρ σ ∧ RAs W g H d v ∧ t d ρ h R ∧
  ∀ σ' H' g' h' ρ', Ext g H g' H' → MH W g' h' H' → RE W g' H' ρ' σ' → R ρ' h' → Q σ' H'
def cS (W : Wo) (t : AS) : TS := fun D σ H => ∃ g h ρ nx rt, MH W g h H ∧ RE W g H ρ σ ∧ t nx rt ρ h ∧
  (∀ σ' H' g' h' ρ', Ext g H g' H' → MH W g' h' H' → RE W g' H' ρ' σ' → nx ρ' h' → D.nx σ' H') ∧
  (∀ v H' g' h' d, Ext g H g' H' → MH W g' h' H' → RA W g' H' d v → rt d h' → D.rt v H')
/-- operators, calls, by values -/
abbrev AR1 := AV → AH → (AV → AH → Prop) → Prop
abbrev AR2 := AV → AV → AH → (AV → AH → Prop) → Prop
abbrev ARs := List AV → AH → (AV → AH → Prop) → Prop
def cR1 (W : Wo) (r : AR1) : V → Hp → VK → Prop := fun x H Q => ∃ g h d R, MH W g h H ∧ RA W g H d x ∧ r d h R ∧
  ∀ v H' g' h' z, Ext g H g' H' → MH W g' h' H' → RA W g' H' z v → R z h' → Q v H'
def cR2 (W : Wo) (r : AR2) : R2 := fun x y H Q => ∃ g h d e R, MH W g h H ∧ RA W g H d x ∧ RA W g H e y ∧ r d e h R ∧
  ∀ v H' g' h' z, Ext g H g' H' → MH W g' h' H' → RA W g' H' z v → R z h' → Q v H'
def cRs (W : Wo) (r : ARs) : List V → Hp → VK → Prop := fun xs H Q => ∃ g h ds R, MH W g h H ∧ RAs W g H ds xs ∧ r ds h R ∧
  ∀ v H' g' h' z, Ext g H g' H' → MH W g' h' H' → RA W g' H' z v → R z h' → Q v H'

abbrev wo (X : Cx) (C : Addr) : Wo := ⟨X.prog, X.w, X.K, C⟩
abbrev ME (X : Cx) (C : Addr) (e : Expr) (t : AT) : Prop := PE X e (cE (wo X C) t)
abbrev MA (X : Cx) (C : Addr) (es : List Expr) (t : AA) : Prop := PA X es (cA (wo X C) t)
abbrev MT (X : Cx) (C : Addr) (e : Expr) (t : AB) : Prop := PT X e (cT (wo X C) t)
abbrev MW (X : Cx) (C : Addr) (e : Expr) (t : AB) : Prop := PW X e (cT (wo X C) t)
abbrev MG (X : Cx) (C : Addr) (e : Expr) (t : AG) : Prop := PG X e (cG (wo X C) t)
abbrev MGs (X : Cx) (C : Addr) (e : List Expr) (t : AGs) : Prop := PGs X e (cGs (wo X C) t)
abbrev MS (X : Cx) (C : Addr) (s : Stmt) (t : AS) : Prop := PS X s (cS (wo X C) t)
abbrev MSs (X : Cx) (C : Addr) (s : List Stmt) (t : AS) : Prop := PSs X s (cS (wo X C) t)

theorem PE.imp {X : Cx} {e : Expr} {t t' : TE} (h : PE X e t) (k : ∀ σ H Q, t' σ H Q → t σ H Q) : PE X e t' := ⟨fun p s σ H Q I w => h.run p s σ H Q I (k _ _ _ w)⟩
theorem PA.imp {X : Cx} {e : List Expr} {t t' : TA} (h : PA X e t) (k : ∀ σ H Q, t' σ H Q → t σ H Q) : PA X e t' := ⟨fun p q s σ H Q I w => h.run p q s σ H Q I (k _ _ _ w)⟩
theorem PT.imp {X : Cx} {e : Expr} {t t' : TT} (h : PT X e t) (k : ∀ σ H Q, t' σ H Q → t σ H Q) : PT X e t' := ⟨fun p s σ H Q I w => h.run p s σ H Q I (k _ _ _ w)⟩
theorem PW.imp {X : Cx} {e : Expr} {t t' : TT} (h : PW X e t) (k : ∀ σ H Q, t' σ H Q → t σ H Q) : PW X e t' := ⟨fun wh p s σ H Q I w => h.run wh p s σ H Q I (k _ _ _ w)⟩
theorem PG.imp {X : Cx} {e : Expr} {t t' : TG} (h : PG X e t) (k : ∀ v σ H Q, t' v σ H Q → t v σ H Q) : PG X e t' := ⟨fun p s σ H v u Q I r w => h.run p s σ H v u Q I r (k _ _ _ _ w)⟩
theorem PGs.imp {X : Cx} {e : List Expr} {t t' : TGs} (h : PGs X e t) (k : ∀ v σ H Q, t' v σ H Q → t v σ H Q) : PGs X e t' := ⟨fun p s σ H v u Q I r w => h.run p s σ H v u Q I r (k _ _ _ _ w)⟩
theorem PS.imp {X : Cx} {e : Stmt} {t t' : TS} (h : PS X e t) (k : ∀ D σ H, t' D σ H → t D σ H) : PS X e t' := ⟨fun p s σ H D I w => h.run p s σ H D I (k _ _ _ w)⟩
theorem PSs.imp {X : Cx} {e : List Stmt} {t t' : TS} (h : PSs X e t) (k : ∀ D σ H, t' D σ H → t D σ H) : PSs X e t' := ⟨fun p s σ H D I w => h.run p s σ H D I (k _ _ _ w)⟩
theorem OpR.imp {X : Cx} {f : Value → Value → Sem Value} {r r' : R2} (h : OpR X f r) (k : ∀ x y H Q, r' x y H Q → r x y H Q) : OpR X f r' :=
  fun p s σ H x y v u Q I rx ry w => h p s σ H x y v u Q I rx ry (k _ _ _ _ w)

section
variable {W : Wo} {g : Gh} {H : Hp} {h : AH}
/-- what a data value gives: nothing changes -/
theorem retD {d : D} {v : V} {R : AV → AH → Prop} {Q : VK} (m : MH W g h H) (r : RV W g.N H d v) (q : R (.dat d) h)
    (k : ∀ v H' g' h' z, Ext g H g' H' → MH W g' h' H' → RA W g' H' z v → R z h' → Q v H') : Q v H := k v H g h _ (Ext.refl g H) m (.dat r) q
theorem retT {ds : List D} {xs : List V} {p : Addr} {R : AV → AH → Prop} {Q : VK} (m : MH W g h H) (r : RVs W g.N H ds xs) (hp : H p = none) (q : R (.dat (.tup ds)) h)
    (k : ∀ v H' g' h' z, Ext g H g' H' → MH W g' h' H' → RA W g' H' z v → R z h' → Q v H') : Q (.ref p) (upd H p (.tup xs)) :=
  k _ _ g h _ (Ext.laid hp) (m.laid hp) (.dat (.tup (.inl ⟨.inl upd_same, m.nfresh hp⟩) (r.ext (Ext.laid hp) m))) q
theorem retL {ds : List D} {xs : List V} {p : Addr} {R : AV → AH → Prop} {Q : VK} (m : MH W g h H) (r : RVs W g.N H ds xs) (hp : H p = none) (q : R (.dat (.lst ds)) h)
    (k : ∀ v H' g' h' z, Ext g H g' H' → MH W g' h' H' → RA W g' H' z v → R z h' → Q v H') : Q (.ref p) (upd H p (.lst xs)) :=
  k _ _ g h _ (Ext.laid hp) (m.laid hp) (.dat (.lst (.inl ⟨.inl upd_same, m.nfresh hp⟩) (r.ext (Ext.laid hp) m))) q
/-- a new list that will change -/
theorem retM {ds : List D} {xs : List V} {p : Addr} {R : AV → AH → Prop} {Q : VK} (m : MH W g h H) (r : RVs W g.N H ds xs) (hp : H p = none) (q : R (.ref h.length) (h ++ [.lst ds]))
    (k : ∀ v H' g' h' z, Ext g H g' H' → MH W g' h' H' → RA W g' H' z v → R z h' → Q v H') : Q (.ref p) (upd H p (.lst xs)) := by
  refine k _ _ (g.add p) _ (.ref h.length) (Ext.add hp) (m.add (ao := .lst ds) hp ⟨xs, upd_same, r.ext (Ext.add hp) m⟩) (.ref ?_) q
  show (g.io ++ [p])[h.length]? = some p
  rw [← m.len]; simp
end

section
variable {X : Cx} {C : Addr} {pos : Pos}
/-! ### names, constants -/
def eV (i : Nat) : AT := fun ρ h R => match ρ[i]? with | some (some d) => R d h | _ => False
def eC (d : D) : AT := fun _ h R => R (.dat d) h
theorem me_v (i : Nat) {x : Str} (hN : X.N[i]? = some x := by rfl) (hv : Vis X.env.scope x := by first | exact Or.inl rfl | exact Or.inr (Or.inl rfl) | exact Or.inr (Or.inr rfl)) (hd : (x == ("__debug__" : Str)) = false := by decide)
    (hcd : (x == ("__classdict__" : Str)) = false := by decide) : ME X C (.Name x pos) (eV i) := by
  refine PE.imp (pv i hN hv hd hcd) fun σ H Q ⟨g, h, ρ, R, m, re, ht, k⟩ => ?_
  unfold eV at ht
  split at ht
  · rename_i d e
    obtain ⟨v, e1, r⟩ := re.gt i d e
    exact ⟨v, e1, k v H g h d (Ext.refl g H) m r ht⟩
  · cases ht
theorem me_int {i : Int} {j} : ME X C (.Constant (.int i) j pos) (eC (.int i)) := PE.imp pe_int fun σ H Q ⟨g, h, ρ, R, m, re, ht, k⟩ => retD m (.int i) ht k
theorem me_bl {b : Bool} {j} : ME X C (.Constant (.bool b) j pos) (eC (.bl b)) := PE.imp pe_bl fun σ H Q ⟨g, h, ρ, R, m, re, ht, k⟩ => retD m (.bl b) ht k
theorem me_str {x : Str} {j} : ME X C (.Constant (.str x) j pos) (eC (.str x)) := PE.imp pe_str fun σ H Q ⟨g, h, ρ, R, m, re, ht, k⟩ => retD m (.str x) ht k
theorem me_non {j} : ME X C (.Constant .none j pos) (eC .non) := PE.imp pe_non fun σ H Q ⟨g, h, ρ, R, m, re, ht, k⟩ => retD m .non ht k

/-! ### argument lists, displays -/
def aNil : AA := fun _ h R => R [] h
def aCons (t : AT) (u : AA) : AA := fun ρ h R => t ρ h fun d h1 => u ρ h1 fun ds h2 => R (d :: ds) h2
theorem ma_nil : MA X C [] aNil := PA.imp pa_nil fun σ H Q ⟨g, h, ρ, R, m, re, ht, k⟩ => k [] H g h [] (Ext.refl g H) m .nil ht
theorem ma_cons {e : Expr} {es : List Expr} {t : AT} {u : AA} (ha : ME X C e t) (hr : MA X C es u) (hs : starEach (e :: es) X.env = (false, eval e X.env) :: starEach es X.env := by rfl) : MA X C (e :: es) (aCons t u) := by
  refine PA.imp (pa_cons ha hr hs) fun σ H Q ⟨g, h, ρ, R, m, re, ht, k⟩ => ?_
  refine ⟨g, h, ρ, _, m, re, ht, fun v H1 g1 h1 d1 e1 m1 r1 q1 => ⟨g1, h1, ρ, _, m1, re.ext e1 m, q1, fun vs H2 g2 h2 ds e2 m2 r2 q2 => ?_⟩⟩
  exact k _ H2 g2 h2 _ (e1.trans e2 m.sub) m2 (.cons (r1.ext e2 m1) r2) q2
def eTup (t : AA) : AT := fun ρ h R => t ρ h fun vs h1 => match datL vs with | some ds => ds.length ≤ sizeLine ∧ R (.dat (.tup ds)) h1 | none => False
def eLst (t : AA) : AT := fun ρ h R => t ρ h fun vs h1 => match datL vs with | some ds => ds.length ≤ sizeLine ∧ R (.dat (.lst ds)) h1 | none => False
/-- a list that will change -/
def eLstM (t : AA) : AT := fun ρ h R => t ρ h fun vs h1 => match datL vs with | some ds => ds.length ≤ sizeLine ∧ R (.ref h1.length) (h1 ++ [.lst ds]) | none => False
theorem me_tup {es : List Expr} {t : AA} {x1} (ha : MA X C es t) : ME X C (.Tuple es x1 pos) (eTup t) := by
  refine PE.imp (pe_tup ha) fun σ H Q ⟨g, h, ρ, R, m, re, ht, k⟩ => ⟨g, h, ρ, _, m, re, ht, fun vs H1 g1 h1 ds e1 m1 r1 q1 => ?_⟩
  split at q1
  · rename_i es' he
    rw [datL_eq he] at r1
    have r2 := r1.dats
    refine ⟨by rw [← r2.length]; exact q1.1, fun p hp => retT m1 r2 hp q1.2 fun v H' g' h' z e => k v H' g' h' z (e1.trans e m.sub)⟩
  · cases q1
theorem me_lst {es : List Expr} {t : AA} (ha : MA X C es t) : ME X C (.List es pos) (eLst t) := by
  refine PE.imp (pe_lst ha) fun σ H Q ⟨g, h, ρ, R, m, re, ht, k⟩ => ⟨g, h, ρ, _, m, re, ht, fun vs H1 g1 h1 ds e1 m1 r1 q1 => ?_⟩
  split at q1
  · rename_i es' he
    rw [datL_eq he] at r1
    have r2 := r1.dats
    refine ⟨by rw [← r2.length]; exact q1.1, fun p hp => retL m1 r2 hp q1.2 fun v H' g' h' z e => k v H' g' h' z (e1.trans e m.sub)⟩
  · cases q1
theorem me_lstM {es : List Expr} {t : AA} (ha : MA X C es t) : ME X C (.List es pos) (eLstM t) := by
  refine PE.imp (pe_lst ha) fun σ H Q ⟨g, h, ρ, R, m, re, ht, k⟩ => ⟨g, h, ρ, _, m, re, ht, fun vs H1 g1 h1 ds e1 m1 r1 q1 => ?_⟩
  split at q1
  · rename_i es' he
    rw [datL_eq he] at r1
    have r2 := r1.dats
    refine ⟨by rw [← r2.length]; exact q1.1, fun p hp => retM m1 r2 hp q1.2 fun v H' g' h' z e => k v H' g' h' z (e1.trans e m.sub)⟩
  · cases q1

/-! ### operators -/
def eOp (r : AR2) (ta tb : AT) : AT := fun ρ h R => ta ρ h fun d h1 => tb ρ h1 fun e h2 => r d e h2 R
def eUn (r : AR1) (ta : AT) : AT := fun ρ h R => ta ρ h fun d h1 => r d h1 R
theorem cR_op {r : AR2} {ta tb : AT} {σ : L2.St} {H : Hp} {Q : VK} {W : Wo} (w : cE W (eOp r ta tb) σ H Q) : tOp (cR2 W r) (cE W ta) (cE W tb) σ H Q := by
  obtain ⟨g, h, ρ, R, m, re, ht, k⟩ := w
  refine ⟨g, h, ρ, _, m, re, ht, fun v H1 g1 h1 d1 e1 m1 r1 q1 => ⟨g1, h1, ρ, _, m1, re.ext e1 m, q1, fun u H2 g2 h2 d2 e2 m2 r2 q2 => ?_⟩⟩
  exact ⟨g2, h2, d1, d2, R, m2, r1.ext e2 m1, r2, q2, fun v H3 g3 h3 z e3 => k v H3 g3 h3 z ((e1.trans e2 m.sub).trans e3 m.sub)⟩
theorem me_op {op : Operator} {a b : Expr} {r : AR2} {ta tb : AT} (ho : OpR X (binaryOp op) (cR2 (wo X C) r)) (ha : ME X C a ta) (hb : ME X C b tb) : ME X C (.BinOp a op b pos) (eOp r ta tb) :=
  PE.imp (pe_op ho ha hb) fun σ H Q w => cR_op w
theorem me_cmp {op : CmpOp} {a b : Expr} {r : AR2} {ta tb : AT} (ho : OpR X (compareOp op) (cR2 (wo X C) r)) (ha : ME X C a ta) (hb : ME X C b tb) (hm : behindInMarks op b = false := by first | exact nobehind _ (by decide) (by decide) | rfl) : ME X C (.Compare a [op] [b] pos) (eOp r ta tb) :=
  PE.imp (pe_cmpR ho ha hb hm) fun σ H Q w => cR_op w
theorem me_un {op : UnaryOp} {a : Expr} {r : AR1} {ta : AT} (ho : UnR X (unaryOp op) (cR1 (wo X C) r)) (ha : ME X C a ta) : ME X C (.UnaryOp op a pos) (eUn r ta) := by
  refine PE.imp (pe_un ho ha) fun σ H Q ⟨g, h, ρ, R, m, re, ht, k⟩ => ⟨g, h, ρ, _, m, re, ht, fun v H1 g1 h1 d1 e1 m1 r1 q1 => ?_⟩
  exact ⟨g1, h1, d1, R, m1, r1, q1, fun v H3 g3 h3 z e3 => k v H3 g3 h3 z (e1.trans e3 m.sub)⟩
/-- .. by ints -/
def rII (f : Int → Int → D) : AR2 := fun d e h R => match d, e with | .dat (.int i), .dat (.int j) => R (.dat (f i j)) h | _, _ => False
def rIIc (c : Int → Int → Prop) (f : Int → Int → D) : AR2 := fun d e h R => match d, e with | .dat (.int i), .dat (.int j) => c i j ∧ R (.dat (f i j)) h | _, _ => False
theorem RA.inv_int {W : Wo} {g : Gh} {H : Hp} {i : Int} {x : V} (r : RA W g H (.dat (.int i)) x) : x = .int i := by
  cases r with
  | dat r => cases r; rfl
theorem RA.inv_str {W : Wo} {g : Gh} {H : Hp} {i : Str} {x : V} (r : RA W g H (.dat (.str i)) x) : x = .str i := by
  cases r with
  | dat r => cases r; rfl
theorem RA.inv_bl {W : Wo} {g : Gh} {H : Hp} {i : Bool} {x : V} (r : RA W g H (.dat (.bl i)) x) : x = .bl i := by
  cases r with
  | dat r => cases r; rfl
theorem RA.inv_non {W : Wo} {g : Gh} {H : Hp} {x : V} (r : RA W g H (.dat .non) x) : x = .non := by
  cases r with
  | dat r => cases r; rfl
theorem RA.inv_tup {W : Wo} {g : Gh} {H : Hp} {ds : List D} {x : V} (r : RA W g H (.dat (.tup ds)) x) : ∃ p xs, x = .ref p ∧ FT W.K g.N H p xs ∧ RVs W g.N H ds xs := by
  cases r with
  | dat r => cases r with | tup h1 h2 => exact ⟨_, _, rfl, h1, h2⟩
theorem RA.inv_lst {W : Wo} {g : Gh} {H : Hp} {ds : List D} {x : V} (r : RA W g H (.dat (.lst ds)) x) : ∃ p xs, x = .ref p ∧ FL W.K g.N H p xs ∧ RVs W g.N H ds xs := by
  cases r with
  | dat r => cases r with | lst h1 h2 => exact ⟨_, _, rfl, h1, h2⟩
theorem RA.inv_ref {W : Wo} {g : Gh} {H : Hp} {n : Nat} {x : V} (r : RA W g H (.ref n) x) : ∃ a, x = .ref a ∧ g.io[n]? = some a := by
  cases r with
  | ref r => exact ⟨_, rfl, r⟩
theorem op_II {F : Value → Value → Sem Value} {f : Int → Int → D} {fv : Int → Int → V} (ho : OpR X F (rI0 fv)) (hf : ∀ i j W N H, RV W N H (f i j) (fv i j)) : OpR X F (cR2 (wo X C) (rII f)) := by
  refine OpR.imp ho fun x y H Q ⟨g, h, d, e, R, m, r1, r2, q, k⟩ => ?_
  unfold rII at q
  split at q
  · exact ⟨_, _, r1.inv_int, r2.inv_int, retD m (hf _ _ _ _ _) q k⟩
  · cases q
theorem op_IIc {F : Value → Value → Sem Value} {c : Int → Int → Prop} {f : Int → Int → D} {fv : Int → Int → V} (ho : OpR X F (rI c fv)) (hf : ∀ i j W N H, RV W N H (f i j) (fv i j)) : OpR X F (cR2 (wo X C) (rIIc c f)) := by
  refine OpR.imp ho fun x y H Q ⟨g, h, d, e, R, m, r1, r2, q, k⟩ => ?_
  unfold rIIc at q
  split at q
  · exact ⟨_, _, r1.inv_int, r2.inv_int, q.1, retD m (hf _ _ _ _ _) q.2 k⟩
  · cases q
def rSub : AR2 := rII fun i j => .int (i - j)
def rMul : AR2 := rIIc CMul fun i j => .int (i * j)
def rMod : AR2 := rIIc (fun _ j => j ≠ 0) fun i j => .int (i.fmod j)
def rFdiv : AR2 := rIIc CDivN fun i j => .int (i.fdiv j)
def rPow : AR2 := rIIc CPow fun i j => .int (i ^ j.toNat)
def rLt : AR2 := rII fun i j => .bl (decide (i < j))
def rLe : AR2 := rII fun i j => .bl (decide (i ≤ j))
def rGt : AR2 := rII fun i j => .bl (decide (j < i))
def rGe : AR2 := rII fun i j => .bl (decide (j ≤ i))
theorem o_sub : OpR X (binaryOp .Sub) (cR2 (wo X C) rSub) := op_II op_sub fun i j _ _ _ => .int _
theorem o_mul : OpR X (binaryOp .Mult) (cR2 (wo X C) rMul) := op_IIc op_mul fun i j _ _ _ => .int _
theorem o_mod : OpR X (binaryOp .Mod) (cR2 (wo X C) rMod) := op_IIc op_modN fun i j _ _ _ => .int _
theorem o_fdiv : OpR X (binaryOp .FloorDiv) (cR2 (wo X C) rFdiv) := op_IIc op_fdivN fun i j _ _ _ => .int _
theorem o_pow : OpR X (binaryOp .Pow) (cR2 (wo X C) rPow) := op_IIc op_pow fun i j _ _ _ => .int _
theorem o_lt : OpR X (compareOp .Lt) (cR2 (wo X C) rLt) := op_II op_lt fun i j _ _ _ => .bl _
theorem o_le : OpR X (compareOp .LtE) (cR2 (wo X C) rLe) := op_II op_le fun i j _ _ _ => .bl _
theorem o_gt : OpR X (compareOp .Gt) (cR2 (wo X C) rGt) := op_II op_gt fun i j _ _ _ => .bl _
theorem o_ge : OpR X (compareOp .GtE) (cR2 (wo X C) rGe) := op_II op_ge fun i j _ _ _ => .bl _
def rNeg : AR1 := fun d h R => match d with | .dat (.int i) => R (.dat (.int (-i))) h | _ => False
theorem u_neg : UnR X (unaryOp .USub) (cR1 (wo X C) rNeg) := by
  intro p s σ H x v Q I rx ⟨g, h, d, R, m, r1, q, k⟩
  unfold rNeg at q
  split at q
  · obtain rfl := r1.inv_int
    exact un_neg p s σ H _ v Q I rx ⟨_, rfl, retD m (.int _) q k⟩
  · cases q
/-- is None, is not None -/
def isNon : AV → Bool
  | .dat .non => true
  | _ => false
def rIsN (neg : Bool) : AR2 := fun d e h R => match e with | .dat .non => R (.dat (.bl (if neg = true then !isNon d else isNon d))) h | _ => False
theorem RA.non_iff {W : Wo} {g : Gh} {H : Hp} {d : AV} {x : V} (r : RA W g H d x) : decide (x = .non) = isNon d := by
  cases r with
  | dat r => cases r <;> rfl
  | ref r => rfl
theorem o_is : OpR X (compareOp .Is) (cR2 (wo X C) (rIsN false)) := by
  refine OpR.imp op_isN fun x y H Q ⟨g, h, d, e, R, m, r1, r2, q, k⟩ => ?_
  unfold rIsN at q
  split at q
  · refine ⟨r2.inv_non, ?_⟩
    rw [r1.non_iff]
    exact retD m (.bl _) q k
  · cases q
theorem o_isnot : OpR X (compareOp .IsNot) (cR2 (wo X C) (rIsN true)) := by
  refine OpR.imp op_notN fun x y H Q ⟨g, h, d, e, R, m, r1, r2, q, k⟩ => ?_
  unfold rIsN at q
  split at q
  · refine ⟨r2.inv_non, ?_⟩
    rw [r1.non_iff]
    exact retD m (.bl _) q k
  · cases q

/-! ### tests -/
def tst (t : AT) : AB := fun ρ h R => t ρ h fun d h1 => match d with | .dat (.bl b) => R b h1 | _ => False
theorem mt_cmp {op : CmpOp} {a b : Expr} {r : AR2} {ta tb : AT} (ho : OpR X (compareOp op) (cR2 (wo X C) r)) (ha : ME X C a ta) (hb : ME X C b tb) (hm : behindInMarks op b = false := by first | exact nobehind _ (by decide) (by decide) | rfl) : MT X C (.Compare a [op] [b] pos) (tst (eOp r ta tb)) := by
  refine PT.imp (pt_cmpR ho ha hb hm) fun σ H Q ⟨g, h, ρ, R, m, re, ht, k⟩ => ?_
  refine cR_op (W := wo X C) ⟨g, h, ρ, _, m, re, ht, fun v H' g' h' d e1 m1 r1 q => ?_⟩
  split at q
  · exact ⟨_, r1.inv_bl, k _ H' g' h' e1 m1 q⟩
  · cases q
theorem mt_val {e : Expr} {t : AT} (he : ME X C e t) (hw : ∀ whole, isTrue e X.env whole = (do let v ← whole; standAt e.pos; holding [v] (truthy v)) := by intro _; rfl) : MT X C e (tst t) := by
  refine PT.imp (pt_val he hw) fun σ H Q ⟨g, h, ρ, R, m, re, ht, k⟩ => ⟨g, h, ρ, _, m, re, ht, fun v H' g' h' d e1 m1 r1 q => ?_⟩
  split at q
  · exact ⟨_, r1.inv_bl, k _ H' g' h' e1 m1 q⟩
  · cases q
def tAnd (t u : AB) : AB := fun ρ h R => t ρ h fun b h1 => if b = true then u ρ h1 R else R false h1
def tOr (t u : AB) : AB := fun ρ h R => t ρ h fun b h1 => if b = true then R true h1 else u ρ h1 R
def tNot (t : AB) : AB := fun ρ h R => t ρ h fun b h1 => R (!b) h1
theorem mw_and1 {a : Expr} {t : AB} (ha : MT X C a t) : MW X C (.BoolOp .And [a] pos) t := pw_and1 ha
theorem mw_or1 {a : Expr} {t : AB} (ha : MT X C a t) : MW X C (.BoolOp .Or [a] pos) t := pw_or1 ha
theorem mw_and {a b : Expr} {rest : List Expr} {t u : AB} (ha : MT X C a t) (hb : MW X C (.BoolOp .And (b :: rest) pos) u) : MW X C (.BoolOp .And (a :: b :: rest) pos) (tAnd t u) := by
  refine PW.imp (pw_and ha hb) fun σ H Q ⟨g, h, ρ, R, m, re, ht, k⟩ => ⟨g, h, ρ, _, m, re, ht, fun b H1 g1 h1 e1 m1 q => ?_⟩
  cases b with
  | true =>
    rw [if_pos rfl] at q ⊢
    exact ⟨g1, h1, ρ, R, m1, re.ext e1 m, q, fun b H' g' h' e => k b H' g' h' (e1.trans e m.sub)⟩
  | false =>
    rw [if_neg Bool.false_ne_true] at q ⊢
    exact k _ _ _ _ e1 m1 q
theorem mw_or {a b : Expr} {rest : List Expr} {t u : AB} (ha : MT X C a t) (hb : MW X C (.BoolOp .Or (b :: rest) pos) u) : MW X C (.BoolOp .Or (a :: b :: rest) pos) (tOr t u) := by
  refine PW.imp (pw_or ha hb) fun σ H Q ⟨g, h, ρ, R, m, re, ht, k⟩ => ⟨g, h, ρ, _, m, re, ht, fun b H1 g1 h1 e1 m1 q => ?_⟩
  cases b with
  | false =>
    rw [if_neg Bool.false_ne_true] at q ⊢
    exact ⟨g1, h1, ρ, R, m1, re.ext e1 m, q, fun b H' g' h' e => k b H' g' h' (e1.trans e m.sub)⟩
  | true =>
    rw [if_pos rfl] at q ⊢
    exact k _ _ _ _ e1 m1 q
theorem mt_not {a : Expr} {t : AB} (ha : MT X C a t) : MT X C (.UnaryOp .Not a pos) (tNot t) :=
  PT.imp (pt_not ha) fun σ H Q ⟨g, h, ρ, R, m, re, ht, k⟩ => ⟨g, h, ρ, _, m, re, ht, fun b H1 g1 h1 e1 m1 q => k _ _ _ _ e1 m1 q⟩
/-- .. as values -/
def eAnd (t u : AT) : AT := fun ρ h R => t ρ h fun d h1 => match d with | .dat (.bl true) => u ρ h1 R | .dat (.bl false) => R (.dat (.bl false)) h1 | _ => False
def eOr (t u : AT) : AT := fun ρ h R => t ρ h fun d h1 => match d with | .dat (.bl true) => R (.dat (.bl true)) h1 | .dat (.bl false) => u ρ h1 R | _ => False
def eNot (t : AT) : AT := fun ρ h R => t ρ h fun d h1 => match d with | .dat (.bl b) => R (.dat (.bl (!b))) h1 | _ => False
theorem me_one {op} {a : Expr} {t : AT} (ha : ME X C a t) : ME X C (.BoolOp op [a] pos) t := pe_one ha
theorem me_and {a b : Expr} {rest : List Expr} {t u : AT} (ha : ME X C a t) (hb : ME X C (.BoolOp .And (b :: rest) pos) u) : ME X C (.BoolOp .And (a :: b :: rest) pos) (eAnd t u) := by
  refine PE.imp (pe_and ha hb) fun σ H Q ⟨g, h, ρ, R, m, re, ht, k⟩ => ⟨g, h, ρ, _, m, re, ht, fun v H1 g1 h1 d e1 m1 r1 q => ?_⟩
  split at q
  · refine ⟨true, r1.inv_bl, ?_⟩
    rw [if_pos rfl]
    exact ⟨g1, h1, ρ, R, m1, re.ext e1 m, q, fun b H' g' h' z e => k b H' g' h' z (e1.trans e m.sub)⟩
  · refine ⟨false, r1.inv_bl, ?_⟩
    rw [if_neg Bool.false_ne_true]
    exact k _ _ _ _ _ e1 m1 (.dat (.bl false)) q
  · cases q
theorem me_or {a b : Expr} {rest : List Expr} {t u : AT} (ha : ME X C a t) (hb : ME X C (.BoolOp .Or (b :: rest) pos) u) : ME X C (.BoolOp .Or (a :: b :: rest) pos) (eOr t u) := by
  refine PE.imp (pe_or ha hb) fun σ H Q ⟨g, h, ρ, R, m, re, ht, k⟩ => ⟨g, h, ρ, _, m, re, ht, fun v H1 g1 h1 d e1 m1 r1 q => ?_⟩
  split at q
  · refine ⟨true, r1.inv_bl, ?_⟩
    rw [if_pos rfl]
    exact k _ _ _ _ _ e1 m1 (.dat (.bl true)) q
  · refine ⟨false, r1.inv_bl, ?_⟩
    rw [if_neg Bool.false_ne_true]
    exact ⟨g1, h1, ρ, R, m1, re.ext e1 m, q, fun b H' g' h' z e => k b H' g' h' z (e1.trans e m.sub)⟩
  · cases q
theorem me_not {a : Expr} {t : AT} (ha : ME X C a t) : ME X C (.UnaryOp .Not a pos) (eNot t) := by
  refine PE.imp (pe_not ha) fun σ H Q ⟨g, h, ρ, R, m, re, ht, k⟩ => ⟨g, h, ρ, _, m, re, ht, fun v H1 g1 h1 d e1 m1 r1 q => ?_⟩
  split at q
  · exact ⟨_, r1.inv_bl, k _ _ _ _ _ e1 m1 (.dat (.bl _)) q⟩
  · cases q
def eIf (c : AB) (t u : AT) : AT := fun ρ h R => c ρ h fun b h1 => if b = true then t ρ h1 R else u ρ h1 R
theorem me_if {c a b : Expr} {tc : AB} {t u : AT} (hc : MT X C c tc) (ha : ME X C a t) (hb : ME X C b u) : ME X C (.IfExp c a b pos) (eIf tc t u) := by
  refine PE.imp (pe_ifExp hc ha hb) fun σ H Q ⟨g, h, ρ, R, m, re, ht, k⟩ => ⟨g, h, ρ, _, m, re, ht, fun b H1 g1 h1 e1 m1 q => ?_⟩
  cases b with
  | true =>
    rw [if_pos rfl] at q ⊢
    exact ⟨g1, h1, ρ, R, m1, re.ext e1 m, q, fun b H' g' h' z e => k b H' g' h' z (e1.trans e m.sub)⟩
  | false =>
    rw [if_neg Bool.false_ne_true] at q ⊢
    exact ⟨g1, h1, ρ, R, m1, re.ext e1 m, q, fun b H' g' h' z e => k b H' g' h' z (e1.trans e m.sub)⟩
/-- a op1 b op2 c -/
def eChain (r r' : AR2) (ta tb tc : AT) : AT := fun ρ h R => ta ρ h fun d h1 => tb ρ h1 fun e h2 => r d e h2 fun z h3 => match z with
  | .dat (.bl true) => tc ρ h3 fun f h4 => r' e f h4 R
  | .dat (.bl false) => R (.dat (.bl false)) h3
  | _ => False
theorem cR_chain {r r' : AR2} {ta tb tc : AT} {σ : L2.St} {H : Hp} {Q : VK} {W : Wo} (w : cE W (eChain r r' ta tb tc) σ H Q) : tChain (cR2 W r) (cR2 W r') (cE W ta) (cE W tb) (cE W tc) σ H Q := by
  obtain ⟨g, h, ρ, R, m, re, ht, k⟩ := w
  refine ⟨g, h, ρ, _, m, re, ht, fun v H1 g1 h1 d1 e1 m1 r1 q1 => ⟨g1, h1, ρ, _, m1, re.ext e1 m, q1, fun u H2 g2 h2 d2 e2 m2 r2 q2 => ?_⟩⟩
  refine ⟨g2, h2, d1, d2, _, m2, r1.ext e2 m1, r2, q2, fun v H3 g3 h3 z e3 m3 r3 q3 => ?_⟩
  have e13 := (e1.trans e2 m.sub).trans e3 m.sub
  split at q3
  · refine ⟨true, r3.inv_bl, ?_⟩
    rw [if_pos rfl]
    refine ⟨g3, h3, ρ, _, m3, re.ext e13 m, q3, fun w H4 g4 h4 d4 e4 m4 r4 q4 => ?_⟩
    exact ⟨g4, h4, d2, d4, R, m4, (r2.ext e3 m2).ext e4 m3, r4, q4, fun v H5 g5 h5 z e5 => k v H5 g5 h5 z ((e13.trans e4 m.sub).trans e5 m.sub)⟩
  · refine ⟨false, r3.inv_bl, ?_⟩
    rw [if_neg Bool.false_ne_true]
    exact k _ _ _ _ _ e13 m3 (.dat (.bl false)) q3
  · cases q3
theorem me_chain {op op' : CmpOp} {a b c : Expr} {r r' : AR2} {ta tb tc : AT} (ho : OpR X (compareOp op) (cR2 (wo X C) r)) (ho' : OpR X (compareOp op') (cR2 (wo X C) r')) (ha : ME X C a ta) (hb : ME X C b tb) (hc : ME X C c tc)
    (hm : lastMarks [op, op'] [b, c] = false := by with_unfolding_all rfl) : ME X C (.Compare a [op, op'] [b, c] pos) (eChain r r' ta tb tc) :=
  PE.imp (pe_chain ho ho' ha hb hc hm) fun σ H Q w => cR_chain w
theorem mt_chain {op op' : CmpOp} {a b c : Expr} {r r' : AR2} {ta tb tc : AT} (ho : OpR X (compareOp op) (cR2 (wo X C) r)) (ho' : OpR X (compareOp op') (cR2 (wo X C) r')) (ha : ME X C a ta) (hb : ME X C b tb) (hc : ME X C c tc)
    (hm : lastMarks [op, op'] [b, c] = false := by with_unfolding_all rfl) : MT X C (.Compare a [op, op'] [b, c] pos) (tst (eChain r r' ta tb tc)) := by
  refine PT.imp (pt_chain ho ho' ha hb hc hm) fun σ H Q ⟨g, h, ρ, R, m, re, ht, k⟩ => ?_
  refine cR_chain (W := wo X C) ⟨g, h, ρ, _, m, re, ht, fun v H' g' h' d e1 m1 r1 q => ?_⟩
  split at q
  · exact ⟨_, r1.inv_bl, k _ H' g' h' e1 m1 q⟩
  · cases q
end
end AL
end
section
set_option Elab.async false
set_option linter.all false
set_option maxRecDepth 100000
set_option maxHeartbeats 1000000
/-! AL2: operators on trees, subscripts, calls of built-ins. -/
namespace AL
open PySem PySem.Spec PyProof.Rows L2

/-! ### data for == -/
mutual
def toPy : D → PyData
  | .non => .none
  | .bl b => .bool b
  | .int i => .int i
  | .str x => .str x
  | .tup ds => .tuple (toPys ds)
  | .lst ds => .list (toPys ds)
  | .dk _ => .dict []
  | .ins _ => .dict []
def toPys : List D → List PyData
  | [] => []
  | d :: ds => toPy d :: toPys ds
end
mutual
theorem dp_of {W : Wo} {N : NS} {H : Hp} : ∀ (d : D) (v : V), RV W N H d v → (toPy d).canLay0 = true → Dp W.K H v (toPy d)
  | .non, _, h, _ => by cases h; exact .non
  | .bl b, _, h, _ => by cases h; exact .bl b
  | .int i, _, h, _ => by cases h; exact .int i
  | .str x, _, h, _ => by cases h; exact .str x
  | .tup ds, _, h, c => by
    cases h with
    | tup h1 h2 => exact .tup h1.sq (dps_of ds _ h2 c)
  | .lst ds, _, h, c => by
    cases h with
    | lst h1 h2 => exact .lst h1.sq (dps_of ds _ h2 c)
  | .dk _, _, _, c => by cases c
  | .ins _, _, _, c => by cases c
theorem dps_of {W : Wo} {N : NS} {H : Hp} : ∀ (d : List D) (v : List V), RVs W N H d v → PyData.canLayAll0 (toPys d) = true → DpAll W.K H v (toPys d)
  | [], _, h, _ => by cases h; exact .nil
  | d :: ds, _, h, c => by
    cases h with
    | cons h1 h2 =>
      have c' : ((toPy d).canLay0 && PyData.canLayAll0 (toPys ds)) = true := c
      rw [Bool.and_eq_true] at c'
      exact .cons (dp_of d _ h1 c'.1) (dps_of ds _ h2 c'.2)
end
/-- may be compared -/
def okD (d : D) : Prop := SeqAt.shaped (toPy d) = true
def eqD (d e : D) : Bool := PyData.eqv (toPy d) (toPy e)

section
variable {X : Cx} {C : Addr} {pos : Pos}
/-! ### + -/
def rAdd : AR2 := fun d e h R => match d, e with
  | .dat (.int i), .dat (.int j) => R (.dat (.int (i + j))) h
  | .dat (.str x), .dat (.str y) => x.length + y.length ≤ sizeLine ∧ R (.dat (.str (x ++ y))) h
  | .dat (.tup xs), .dat (.tup ys) => xs.length + ys.length ≤ sizeLine ∧ R (.dat (.tup (xs ++ ys))) h
  | .dat (.lst xs), .dat (.lst ys) => xs.length + ys.length ≤ sizeLine ∧ R (.dat (.lst (xs ++ ys))) h
  | _, _ => False
def rCatL (K : PySem.W.Frag) : R2 := fun x y H Q => ∃ l b xs zs, x = .ref l ∧ y = .ref b ∧ SqL K H l xs ∧ SqL K H b zs ∧ xs.length + zs.length ≤ sizeLine ∧ ∀ p, H p = none → Q (.ref p) (upd H p (.lst (xs ++ zs)))
theorem op_catL : OpR X (binaryOp .Add) (rCatL X.K) := by
  intro pins s σ H x y v u Q I rx ry h
  obtain ⟨l, b, xs, zs, rfl, rfl, hH, hB, hz, q⟩ := h
  cases rx
  cases ry
  obtain ⟨its, r, hl, _⟩ := I.list hH
  obtain ⟨its2, r2, hl2, _⟩ := I.list hB
  obtain ⟨⟨cls, dd, data, sl⟩, n, ho, hc, hdd, hd⟩ := hl
  obtain ⟨⟨cls2, dd2, data2, sl2⟩, n2, ho2, hc2, hdd2, hd2⟩ := hl2
  simp only at hc hd hc2 hd2
  subst hc hd hc2 hd2
  have e : its.toArray ++ its2.toArray = (its ++ its2).toArray := by simp
  refine concat_meets ⟨_, ho, rfl⟩ ⟨_, ho2, rfl⟩ noFill_list_add seq_list_add PySem.F.slot_list_add PySem.F.entry_list_add (PySem.F.args_list_add_2 _ _)
    (list_addW l b its.toArray its2.toArray n n2 dd dd2 sl sl2 (by rw [List.size_toArray, List.size_toArray, ← r.length, ← r2.length]; exact hz)) ⟨ho, ho2, ?_⟩
  rw [e]
  exact ⟨.ref _, _, I.lnew (t' := s.toks) (r.append r2) (by rw [List.length_append]; omega), rfl, q _ I.fresh⟩
theorem o_add : OpR X (binaryOp .Add) (cR2 (wo X C) rAdd) := by
  intro p s σ H x y v u Q I rx ry ⟨g, h, d, e, R, m, r1, r2, q, k⟩
  unfold rAdd at q
  split at q
  · obtain rfl := r1.inv_int
    obtain rfl := r2.inv_int
    exact op_add p s σ H _ _ v u Q I rx ry ⟨_, _, rfl, rfl, retD m (.int _) q k⟩
  · obtain rfl := r1.inv_str
    obtain rfl := r2.inv_str
    exact op_add_str p s σ H _ _ v u Q I rx ry ⟨_, _, rfl, rfl, q.1, retD m (.str _) q.2 k⟩
  · obtain ⟨a, xs, rfl, f1, s1⟩ := r1.inv_tup
    obtain ⟨b, ys, rfl, f2, s2⟩ := r2.inv_tup
    have l1 := s1.length
    have l2 := s2.length
    refine op_catA p s σ H _ _ v u Q I rx ry ⟨a, b, xs, ys, rfl, rfl, f1.sq, f2.sq, by rw [← l1, ← l2]; exact q.1, fun z => ?_, fun _ z => ?_, fun _ _ pp hp => ?_⟩
    · subst z
      cases s1
      exact retD m (.tup f2 s2) q.2 k
    · subst z
      cases s2
      have q2 := q.2
      rw [List.append_nil] at q2
      exact retD m (.tup f1 s1) q2 k
    · exact retT m (s1.append s2) hp q.2 k
  · obtain ⟨a, xs, rfl, f1, s1⟩ := r1.inv_lst
    obtain ⟨b, ys, rfl, f2, s2⟩ := r2.inv_lst
    exact op_catL p s σ H _ _ v u Q I rx ry ⟨a, b, xs, ys, rfl, rfl, f1.sq, f2.sq, by rw [← s1.length, ← s2.length]; exact q.1, fun pp hp => retL m (s1.append s2) hp q.2 k⟩
  · cases q

/-! ### ==, != -/
def rEqN (neg : Bool) : AR2 := fun d e h R => match d, e with
  | .dat (.int i), .dat (.int j) => R (.dat (.bl (if neg = true then !decide (i = j) else decide (i = j)))) h
  | .dat (.str i), .dat (.str j) => R (.dat (.bl (if neg = true then !decide (i = j) else decide (i = j)))) h
  | .dat (.bl i), .dat (.bl j) => R (.dat (.bl (if neg = true then !decide (i = j) else decide (i = j)))) h
  | .dat d, .dat e => okD d ∧ okD e ∧ R (.dat (.bl (if neg = true then !eqD d e else eqD d e))) h
  | _, _ => False
theorem dcv_int {i j : Int} : decide (V.int i = V.int j) = decide (i = j) := by
  by_cases h : i = j
  · subst h; simp
  · rw [decide_eq_false h, decide_eq_false fun e => h (V.int.inj e)]
theorem dcv_str {i j : Str} : decide (V.str i = V.str j) = decide (i = j) := by
  by_cases h : i = j
  · subst h; simp
  · rw [decide_eq_false h, decide_eq_false fun e => h (V.str.inj e)]
theorem dcv_bl {i j : Bool} : decide (V.bl i = V.bl j) = decide (i = j) := by
  by_cases h : i = j
  · subst h; simp
  · rw [decide_eq_false h, decide_eq_false fun e => h (V.bl.inj e)]
theorem RA.inv_dat {W : Wo} {g : Gh} {H : Hp} {d : D} {x : V} (r : RA W g H (.dat d) x) : RV W g.N H d x := by
  cases r with
  | dat r => exact r
theorem o_eq (hu : X.A.units + 64 < cLine) : OpR X (compareOp .Eq) (cR2 (wo X C) (rEqN false)) := by
  intro p s σ H x y v u Q I rx ry ⟨g, h, d, e, R, m, r1, r2, q, k⟩
  unfold rEqN at q
  split at q
  · obtain rfl := r1.inv_int
    obtain rfl := r2.inv_int
    exact op_eq p s σ H _ _ v u Q I rx ry ⟨rfl, by rw [dcv_int]; exact retD m (.bl _) q k⟩
  · obtain rfl := r1.inv_str
    obtain rfl := r2.inv_str
    exact op_eq p s σ H _ _ v u Q I rx ry ⟨rfl, by rw [dcv_str]; exact retD m (.bl _) q k⟩
  · obtain rfl := r1.inv_bl
    obtain rfl := r2.inv_bl
    exact op_eq p s σ H _ _ v u Q I rx ry ⟨rfl, by rw [dcv_bl]; exact retD m (.bl _) q k⟩
  · exact op_eqD hu p s σ H _ _ v u Q I rx ry ⟨_, _, dp_of _ _ r1.inv_dat (SeqAt.canLay_of_shaped q.1), dp_of _ _ r2.inv_dat (SeqAt.canLay_of_shaped q.2.1), q.1, q.2.1, retD m (.bl _) q.2.2 k⟩
  · cases q
theorem o_ne (hu : X.A.units + 64 < cLine) : OpR X (compareOp .NotEq) (cR2 (wo X C) (rEqN true)) := by
  intro p s σ H x y v u Q I rx ry ⟨g, h, d, e, R, m, r1, r2, q, k⟩
  unfold rEqN at q
  split at q
  · obtain rfl := r1.inv_int
    obtain rfl := r2.inv_int
    exact op_ne p s σ H _ _ v u Q I rx ry ⟨rfl, by rw [dcv_int]; exact retD m (.bl _) q k⟩
  · obtain rfl := r1.inv_str
    obtain rfl := r2.inv_str
    exact op_ne p s σ H _ _ v u Q I rx ry ⟨rfl, by rw [dcv_str]; exact retD m (.bl _) q k⟩
  · obtain rfl := r1.inv_bl
    obtain rfl := r2.inv_bl
    exact op_ne p s σ H _ _ v u Q I rx ry ⟨rfl, by rw [dcv_bl]; exact retD m (.bl _) q k⟩
  · exact op_neD hu p s σ H _ _ v u Q I rx ry ⟨_, _, dp_of _ _ r1.inv_dat (SeqAt.canLay_of_shaped q.1), dp_of _ _ r2.inv_dat (SeqAt.canLay_of_shaped q.2.1), q.1, q.2.1, retD m (.bl _) q.2.2 k⟩
  · cases q

/-! ### a text among texts -/
def strL : List D → Option (List Str)
  | [] => some []
  | .str x :: r => (strL r).map (x :: ·)
  | _ :: _ => none
theorem strL_eq : ∀ {ds : List D} {ss : List Str}, strL ds = some ss → ds = ss.map .str
  | [], _, h => by cases h; rfl
  | d :: r, ss, h => by
    cases d <;> unfold strL at h <;> try cases h
    cases q : strL r with
    | none => rw [q] at h; cases h
    | some es =>
      rw [q] at h
      cases h
      rw [strL_eq q]; rfl
theorem strL_map : ∀ ss : List Str, strL (ss.map .str) = some ss
  | [] => rfl
  | s :: ss => by
    rw [List.map_cons]
    unfold strL
    rw [strL_map ss]; rfl
theorem inV_strs (x : Str) : ∀ ss : List Str, inV (.str x) (ss.map .str) = decide (x ∈ ss)
  | [] => rfl
  | s :: ss => by
    have ih := inV_strs x ss
    unfold inV at ih ⊢
    rw [List.map_cons, List.any_cons, ih]
    show ((s == x) || _) = _
    rw [Bool.beq_eq_decide_eq]
    by_cases h : s = x
    · subst h; simp
    · have h' : ¬ x = s := fun e => h e.symm
      simp [h, h']
theorem flat_strs : ∀ ss : List Str, (ss.map V.str).all flatV = true
  | [] => rfl
  | s :: ss => by rw [List.map_cons, List.all_cons, flat_strs ss]; rfl
/-- the items of a tree or of a changing list -/
def itemsOf (h : AH) : AV → Option (List D)
  | .dat (.tup ds) => some ds
  | .dat (.lst ds) => some ds
  | .dat _ => none
  | .ref n => match h[n]? with
    | some (.lst ds) => some ds
    | _ => none
theorem itemsOf_sq {W : Wo} {g : Gh} {H : Hp} {h : AH} {d : AV} {x : V} {ds : List D} (m : MH W g h H) (r : RA W g H d x) (e : itemsOf h d = some ds) :
    ∃ p xs, x = .ref p ∧ (SqL W.K H p xs ∨ SqT W.K H p xs) ∧ RVs W g.N H ds xs := by
  unfold itemsOf at e
  split at e
  · cases e
    obtain ⟨p, xs, rfl, f, s⟩ := r.inv_tup
    exact ⟨p, xs, rfl, .inr f.sq, s⟩
  · cases e
    obtain ⟨p, xs, rfl, f, s⟩ := r.inv_lst
    exact ⟨p, xs, rfl, .inl f.sq, s⟩
  · cases e
  · rename_i n
    split at e
    · rename_i ds' hq
      cases e
      obtain ⟨a, rfl, ha⟩ := r.inv_ref
      obtain ⟨xs, hH, s⟩ := m.obj n a _ ha hq
      exact ⟨a, xs, rfl, .inl (SqL.of hH), s⟩
    · cases e
def rInS (neg : Bool) : AR2 := fun d e h R => match d, (itemsOf h e).bind strL with
  | .dat (.str x), some ss => R (.dat (.bl (if neg = true then !decide (x ∈ ss) else decide (x ∈ ss)))) h
  | _, _ => False
theorem o_inS : OpR X (compareOp .In) (cR2 (wo X C) (rInS false)) := by
  intro p s σ H x y v u Q I rx ry ⟨g, h, d, e, R, m, r1, r2, q, k⟩
  unfold rInS at q
  split at q
  · rename_i z ss he
    obtain rfl := r1.inv_str
    obtain ⟨ds, h1, h2⟩ := Option.bind_eq_some_iff.mp he
    obtain rfl := strL_eq h2
    obtain ⟨pp, xs, rfl, sq, s2⟩ := itemsOf_sq m r2 h1
    obtain rfl := s2.strs
    exact op_in_seq p s σ H _ _ v u Q I rx ry ⟨pp, _, rfl, sq, rfl, flat_strs ss, by rw [inV_strs]; exact retD m (.bl _) q k⟩
  · cases q
theorem o_notinS : OpR X (compareOp .NotIn) (cR2 (wo X C) (rInS true)) := by
  intro p s σ H x y v u Q I rx ry ⟨g, h, d, e, R, m, r1, r2, q, k⟩
  unfold rInS at q
  split at q
  · rename_i z ss he
    obtain rfl := r1.inv_str
    obtain ⟨ds, h1, h2⟩ := Option.bind_eq_some_iff.mp he
    obtain rfl := strL_eq h2
    obtain ⟨pp, xs, rfl, sq, s2⟩ := itemsOf_sq m r2 h1
    obtain rfl := s2.strs
    exact op_notIn_seq p s σ H _ _ v u Q I rx ry ⟨pp, _, rfl, sq, rfl, flat_strs ss, by rw [inV_strs]; exact retD m (.bl _) q k⟩
  · cases q

/-! ### subscripts -/
def rIx : AR2 := fun d e h R => match d, e with
  | .dat (.str x), .dat (.int i) => x.length ≤ sizeLine ∧ (match atI x.cps.toList i with | some c => R (.dat (.str ⟨#[c]⟩)) h | none => False)
  | d, .dat (.int i) => (match (itemsOf h d).bind fun ds => atI ds i with | some z => R (.dat z) h | none => False)
  | _, _ => False
theorem atI_RVs {W : Wo} {N : NS} {H : Hp} {ds : List D} {xs : List V} {i : Int} {z : D} (r : RVs W N H ds xs) (e : atI ds i = some z) : ∃ v, atI xs i = some v ∧ RV W N H z v := by
  unfold atI at e ⊢
  rw [← r.length]
  obtain ⟨j, h1, h2⟩ := Option.bind_eq_some_iff.mp e
  obtain ⟨v, h3, h4⟩ := r.get h2
  exact ⟨v, Option.bind_eq_some_iff.mpr ⟨j, h1, h3⟩, h4⟩
theorem i_ix : IxR X (cR2 (wo X C) rIx) := by
  intro value slice p s σ H x y v u Q I rx ry ⟨g, h, d, e, R, m, r1, r2, q, k⟩ hs
  unfold rIx at q
  split at q
  · obtain rfl := r1.inv_str
    obtain rfl := r2.inv_int
    obtain ⟨q1, q2⟩ := q
    split at q2
    · rename_i c hc
      exact ix_str value slice p s σ H _ _ v u Q I rx ry ⟨_, _, c, rfl, rfl, q1, hc, retD m (.str _) q2 k⟩ hs
    · cases q2
  · obtain rfl := r2.inv_int
    split at q
    · rename_i z hz
      obtain ⟨ds, h1, h2⟩ := Option.bind_eq_some_iff.mp hz
      obtain ⟨pp, xs, rfl, sq, s2⟩ := itemsOf_sq m r1 h1
      obtain ⟨w, h3, h4⟩ := atI_RVs s2 h2
      rcases sq with sq | sq
      · exact ix_list value slice p s σ H _ _ v u Q I rx ry ⟨pp, xs, _, w, rfl, rfl, sq, h3, retD m h4 q k⟩ hs
      · exact ix_tup value slice p s σ H _ _ v u Q I rx ry ⟨pp, xs, _, w, rfl, rfl, sq, h3, retD m h4 q k⟩ hs
    · cases q
  · cases q
theorem me_ix {a b : Expr} {ta tb : AT} (ha : ME X C a ta) (hb : ME X C b tb) (hs : PlainIx b := by exact fun _ _ => rfl) : ME X C (.Subscript a b pos) (eOp rIx ta tb) :=
  PE.imp (pe_ix i_ix ha hb hs) fun σ H Q w => cR_op w

/-! ### slices -/
abbrev AO1 := En → AH → (Option Int → AH → Prop) → Prop
def cO (W : Wo) (t : AO1) : TO := fun σ H Q => ∃ g h ρ R, MH W g h H ∧ RE W g H ρ σ ∧ t ρ h R ∧ ∀ o H' g' h', Ext g H g' H' → MH W g' h' H' → R o h' → Q o H'
abbrev MO (X : Cx) (C : Addr) (e : Option Expr) (t : AO1) : Prop := PO X e (cO (wo X C) t)
def oNone : AO1 := fun _ h R => R none h
def oSome (t : AT) : AO1 := fun ρ h R => t ρ h fun d h1 => match d with | .dat (.int i) => R (some i) h1 | _ => False
theorem mo_none : MO X C none oNone := ⟨fun p s σ H Q I ⟨g, h, ρ, R, m, re, ht, k⟩ => po_none.run p s σ H Q I (k none H g h (Ext.refl g H) m ht)⟩
theorem mo_some {e : Expr} {t : AT} (he : ME X C e t) : MO X C (some e) (oSome t) := by
  refine ⟨fun p s σ H Q I ⟨g, h, ρ, R, m, re, ht, k⟩ => (po_some he).run p s σ H Q I ⟨g, h, ρ, _, m, re, ht, fun v H1 g1 h1 d e1 m1 r1 q => ?_⟩⟩
  split at q
  · exact ⟨_, r1.inv_int, k _ H1 g1 h1 e1 m1 q⟩
  · cases q
def cutD (xs : List D) (lo hi : Option Int) : List D := (xs.drop (HT.sIx xs.length 0 lo)).take (HT.sIx xs.length xs.length hi - HT.sIx xs.length 0 lo)
theorem cut_RVs {W : Wo} {N : NS} {H : Hp} {ds : List D} {xs : List V} (lo hi : Option Int) (r : RVs W N H ds xs) : RVs W N H (cutD ds lo hi) (cutV xs lo hi) := by
  unfold cutD cutV
  rw [← r.length]
  exact (r.drop _).take _
def rSl : AV → Option Int → Option Int → AH → (AV → AH → Prop) → Prop := fun d lo hi h R => match d with
  | .dat (.tup xs) => R (.dat (.tup (cutD xs lo hi))) h
  | .dat (.lst xs) => R (.dat (.lst (cutD xs lo hi))) h
  | .dat (.str x) => x.length ≤ sizeLine ∧ R (.dat (.str (cutS x lo hi))) h
  | _ => False
def cSl (W : Wo) (r : AV → Option Int → Option Int → AH → (AV → AH → Prop) → Prop) : V → Option Int → Option Int → Hp → VK → Prop := fun x lo hi H Q => ∃ g h d R, MH W g h H ∧ RA W g H d x ∧ r d lo hi h R ∧
  ∀ v H' g' h' z, Ext g H g' H' → MH W g' h' H' → RA W g' H' z v → R z h' → Q v H'
theorem cut_whole {α : Type} {xs : List α} {a b : Nat} (h1 : a = 0) (h2 : b = xs.length) : (xs.drop a).take (b - a) = xs := by
  subst h1 h2; simp
theorem sl_all : SlR X (cSl (wo X C) rSl) := by
  intro p s σ H x v vl vu lo hi sl Q I rx hs pl pu ⟨g, h, d, R, m, r1, q, k⟩
  unfold rSl at q
  split at q
  · obtain ⟨a, xs, rfl, f1, s1⟩ := r1.inv_tup
    refine sl_tupA p s σ H _ v vl vu lo hi sl Q I rx hs pl pu ⟨a, xs, rfl, f1.sq, fun ⟨w1, w2⟩ => ?_, fun _ pp hp => retT m (cut_RVs lo hi s1) hp q k⟩
    rw [← s1.length] at w1 w2
    have e : cutD _ lo hi = _ := cut_whole w1 w2
    rw [e] at q
    exact retD m (.tup f1 s1) q k
  · obtain ⟨a, xs, rfl, f1, s1⟩ := r1.inv_lst
    exact sl_list p s σ H _ v vl vu lo hi sl Q I rx hs pl pu ⟨a, xs, rfl, f1.sq, fun pp hp => retL m (cut_RVs lo hi s1) hp q k⟩
  · obtain rfl := r1.inv_str
    exact sl_str p s σ H _ v vl vu lo hi sl Q I rx hs pl pu ⟨_, rfl, q.1, retD m (.str _) q.2 k⟩
  · cases q
def eSl (te : AT) (tl th : AO1) : AT := fun ρ h R => te ρ h fun d h1 => tl ρ h1 fun lo h2 => th ρ h2 fun hi h3 => rSl d lo hi h3 R
theorem me_sl {e : Expr} {lo hi : Option Expr} {te : AT} {tl th : AO1} {p2 : Pos} (he : ME X C e te) (hl : MO X C lo tl) (hh : MO X C hi th) : ME X C (.Subscript e (.Slice lo hi none p2) pos) (eSl te tl th) := by
  refine PE.imp (pe_slice (sl_all (C := C)) he hl hh) fun σ H Q ⟨g, h, ρ, R, m, re, ht, k⟩ => ?_
  refine ⟨g, h, ρ, _, m, re, ht, fun v H1 g1 h1 d e1 m1 r1 q1 => ⟨g1, h1, ρ, _, m1, re.ext e1 m, q1, fun o H2 g2 h2 e2 m2 q2 => ?_⟩⟩
  have e12 := e1.trans e2 m.sub
  refine ⟨g2, h2, ρ, _, m2, re.ext e12 m, q2, fun o2 H3 g3 h3 e3 m3 q3 => ?_⟩
  exact ⟨g3, h3, d, R, m3, (r1.ext e2 m1).ext e3 m2, q3, fun v H5 g5 h5 z e5 => k v H5 g5 h5 z ((e12.trans e3 m.sub).trans e5 m.sub)⟩
end
end AL
end
section
set_option Elab.async false
set_option linter.all false
set_option maxRecDepth 100000
set_option maxHeartbeats 1000000
/-! AL3: calls of built-ins on trees. -/
namespace AL
open PySem PySem.Spec PyProof.Rows L2

section
variable {X : Cx} {C : Addr} {pos : Pos}
def eCall (r : ARs) (t : AA) : AT := fun ρ h R => t ρ h fun ds h1 => r ds h1 R
theorem cR_call {r : ARs} {ta : AA} {σ : L2.St} {H : Hp} {Q : VK} {W : Wo} (w : cE W (eCall r ta) σ H Q) : tCB (cRs W r) (cA W ta) σ H Q := by
  obtain ⟨g, h, ρ, R, m, re, ht, k⟩ := w
  exact ⟨g, h, ρ, _, m, re, ht, fun v H1 g1 h1 d1 e1 m1 r1 q1 => ⟨g1, h1, d1, R, m1, r1, q1, fun v H3 g3 h3 z e3 => k v H3 g3 h3 z (e1.trans e3 m.sub)⟩⟩
theorem me_callB {x : Str} {p : Pos} {e : Expr} {es : List Expr} {r : ARs} {t : AA} {id : String} (hc : CallR X (.builtin id) (cRs (wo X C) r)) (hm : X.mg x = none) (ha : MA X C (e :: es) t)
    (hv : bootBuiltins x = some (.builtin id) := by decide +kernel) (hg : Gl X x := by rfl) (hn : x ≠ "__name__" := by decide) (hdb : (x == ("__debug__" : Str)) = false := by decide)
    (he : starEach (e :: es) X.env = (false, eval e X.env) :: starEach es X.env := by rfl) (hpl : (backTo pos (starEach es X.env)).any (·.1) = false := by rfl) : ME X C (.Call (.Name x p) (e :: es) [] pos) (eCall r t) :=
  PE.imp (pe_callB hc hg hm hv ha hn hdb he hpl) fun σ H Q w => cR_call w
theorem me_callT {x : Str} {p : Pos} {e : Expr} {es : List Expr} {r : ARs} {t : AA} {T : String} (hc : CallR X (.type T) (cRs (wo X C) r)) (hm : X.mg x = none) (ha : MA X C (e :: es) t)
    (hv : bootBuiltins x = some (.type T) := by decide +kernel) (hg : Gl X x := by rfl) (hn : x ≠ "__name__" := by decide) (hdb : (x == ("__debug__" : Str)) = false := by decide)
    (he : starEach (e :: es) X.env = (false, eval e X.env) :: starEach es X.env := by rfl) (hpl : (backTo pos (starEach es X.env)).any (·.1) = false := by rfl) : ME X C (.Call (.Name x p) (e :: es) [] pos) (eCall r t) :=
  PE.imp (pe_callTy hc hg hm hv ha hn hdb he hpl) fun σ H Q w => cR_call w

theorem RAs.one {W : Wo} {g : Gh} {H : Hp} {d : AV} {xs : List V} (r : RAs W g H [d] xs) : ∃ x, xs = [x] ∧ RA W g H d x := by
  cases r with
  | cons r q => cases q; exact ⟨_, rfl, r⟩
theorem RAs.two {W : Wo} {g : Gh} {H : Hp} {d e : AV} {xs : List V} (r : RAs W g H [d, e] xs) : ∃ x y, xs = [x, y] ∧ RA W g H d x ∧ RA W g H e y := by
  cases r with
  | cons r q =>
    obtain ⟨y, rfl, q2⟩ := q.one
    exact ⟨_, _, rfl, r, q2⟩

/-! ### len -/
def rLen : ARs := fun vs h R => match vs with
  | [.dat (.str x)] => x.length ≤ sizeLine ∧ R (.dat (.int x.length)) h
  | [v] => (match itemsOf h v with | some ds => R (.dat (.int ds.length)) h | none => False)
  | _ => False
theorem c_len : CallR X (.builtin "len") (cRs (wo X C) rLen) := by
  intro p s σ H xs us Q I rx ⟨g, h, ds, R, m, r1, q, k⟩
  unfold rLen at q
  split at q
  · obtain ⟨x, rfl, r⟩ := r1.one
    obtain rfl := r.inv_str
    exact call_len_str p s σ H _ us Q I rx ⟨_, rfl, q.1, retD m (.int _) q.2 k⟩
  · obtain ⟨x, rfl, r⟩ := r1.one
    split at q
    · rename_i es he
      obtain ⟨pp, xs, rfl, sq, s2⟩ := itemsOf_sq m r he
      refine call_len_seq p s σ H _ us Q I rx ⟨pp, xs, rfl, sq, ?_⟩
      rw [← s2.length]
      exact retD m (.int _) q k
    · cases q
  · cases q

/-! ### int, max, min of two -/
def rInt : ARs := fun vs h R => match vs with
  | [.dat (.int i)] => R (.dat (.int i)) h
  | [.dat (.bl b)] => R (.dat (.int (if b = true then 1 else 0))) h
  | _ => False
theorem c_int : CallR X (.type "int") (cRs (wo X C) rInt) := by
  intro p s σ H xs us Q I rx ⟨g, h, ds, R, m, r1, q, k⟩
  unfold rInt at q
  split at q
  · obtain ⟨x, rfl, r⟩ := r1.one
    obtain rfl := r.inv_int
    exact call_int1 p s σ H _ us Q I rx (.inl ⟨_, rfl, retD m (.int _) q k⟩)
  · obtain ⟨x, rfl, r⟩ := r1.one
    obtain rfl := r.inv_bl
    exact call_int1 p s σ H _ us Q I rx (.inr ⟨_, rfl, retD m (.int _) q k⟩)
  · cases q
def rMax2 : ARs := fun vs h R => match vs with
  | [.dat (.int i), .dat (.int j)] => R (.dat (.int (if j > i then j else i))) h
  | _ => False
def rMin2 : ARs := fun vs h R => match vs with
  | [.dat (.int i), .dat (.int j)] => R (.dat (.int (if j < i then j else i))) h
  | _ => False
theorem c_max2 (hc : X.calm = true) : CallR X (.builtin "max") (cRs (wo X C) rMax2) := by
  intro p s σ H xs us Q I rx ⟨g, h, ds, R, m, r1, q, k⟩
  unfold rMax2 at q
  split at q
  · obtain ⟨x, y, rfl, r, r'⟩ := r1.two
    obtain rfl := r.inv_int
    obtain rfl := r'.inv_int
    exact call_max2 hc p s σ H _ us Q I rx ⟨_, _, rfl, retD m (.int _) q k⟩
  · cases q
theorem c_min2 (hc : X.calm = true) : CallR X (.builtin "min") (cRs (wo X C) rMin2) := by
  intro p s σ H xs us Q I rx ⟨g, h, ds, R, m, r1, q, k⟩
  unfold rMin2 at q
  split at q
  · obtain ⟨x, y, rfl, r, r'⟩ := r1.two
    obtain rfl := r.inv_int
    obtain rfl := r'.inv_int
    exact call_min2 hc p s σ H _ us Q I rx ⟨_, _, rfl, retD m (.int _) q k⟩
  · cases q

/-! ### ints, bools among items -/
def intL : List D → Option (List Int)
  | [] => some []
  | .int x :: r => (intL r).map (x :: ·)
  | _ :: _ => none
theorem intL_eq : ∀ {ds : List D} {ss : List Int}, intL ds = some ss → ds = ss.map .int
  | [], _, h => by cases h; rfl
  | d :: r, ss, h => by
    cases d <;> unfold intL at h <;> try cases h
    cases q : intL r with
    | none => rw [q] at h; cases h
    | some es =>
      rw [q] at h
      cases h
      rw [intL_eq q]; rfl
theorem intL_map : ∀ ss : List Int, intL (ss.map .int) = some ss
  | [] => rfl
  | s :: ss => by
    rw [List.map_cons]
    unfold intL
    rw [intL_map ss]; rfl
def blL : List D → Option (List Bool)
  | [] => some []
  | .bl x :: r => (blL r).map (x :: ·)
  | _ :: _ => none
theorem blL_eq : ∀ {ds : List D} {ss : List Bool}, blL ds = some ss → ds = ss.map .bl
  | [], _, h => by cases h; rfl
  | d :: r, ss, h => by
    cases d <;> unfold blL at h <;> try cases h
    cases q : blL r with
    | none => rw [q] at h; cases h
    | some es =>
      rw [q] at h
      cases h
      rw [blL_eq q]; rfl
theorem blL_map : ∀ ss : List Bool, blL (ss.map .bl) = some ss
  | [] => rfl
  | s :: ss => by
    rw [List.map_cons]
    unfold blL
    rw [blL_map ss]; rfl
/-- sum of a list or a tuple of ints -/
theorem sum_tup {pins : List (Addr × Obj)} {σ : L2.St} {H : Hp} {s : Shared} {Q : VK} (hc : X.calm = true) (I : Inv X pins σ H s) {a : Addr} {ns : List Int} (hs : SqT X.K H a (ns.map V.int)) (q : Q (.int ns.sum) H) :
    wpAny (model X.prog X.w) X.A (call (.builtin "sum") [.ref a]) (EP X pins σ Q) X.xe s := by
  obtain ⟨its, rv, ht, _⟩ := I.tuple hs
  have hi := rv.ints
  obtain ⟨xs, e⟩ := hi.allInts.items
  have hn : numsOf its.toArray.toList = ns := by rw [show its.toArray.toList = its from rfl, hi.numsOf]
  have ht' : s.heap.IsTuple a its.toArray := ht
  rw [e] at ht' hn
  rw [nums_intItems] at hn
  refine PySem.W.ktm_sumG (I.ok.hd hc) ht' fun h' tk t' hk => ?_
  rw [preSum_eq, List.take_of_length_le (by simp), hn]
  exact ⟨.int _, H, I.kept hk, ⟨_, rfl⟩, q⟩
def rSum : ARs := fun vs h R => match vs with
  | [v] => (match (itemsOf h v).bind intL with | some ns => R (.dat (.int ns.sum)) h | none => False)
  | _ => False
theorem c_sum (hc : X.calm = true) : CallR X (.builtin "sum") (cRs (wo X C) rSum) := by
  intro p s σ H xs us Q I rx ⟨g, h, ds, R, m, r1, q, k⟩
  unfold rSum at q
  split at q
  · obtain ⟨x, rfl, r⟩ := r1.one
    split at q
    · rename_i ns he
      obtain ⟨es, h1, h2⟩ := Option.bind_eq_some_iff.mp he
      obtain rfl := intL_eq h2
      obtain ⟨pp, xs, rfl, sq, s2⟩ := itemsOf_sq m r h1
      obtain rfl := s2.ints
      rcases sq with sq | sq
      · exact cr_sum hc p s σ H _ us Q I rx ⟨pp, ns, rfl, sq, retD m (.int _) q k⟩
      · rw [Vals.ref1 rx]
        exact sum_tup hc I sq (retD m (.int _) q k)
    · cases q
  · cases q
/-- any of a tuple of bools -/
theorem any_tup {pins : List (Addr × Obj)} {σ : L2.St} {H : Hp} {s : Shared} {Q : VK} (hc : X.calm = true) (I : Inv X pins σ H s) {a : Addr} {bs : List Bool} (hs : SqT X.K H a (bs.map V.bl)) (q : Q (.bl (bs.any id)) H) :
    wpAny (model X.prog X.w) X.A (call (.builtin "any") [.ref a]) (EP X pins σ Q) X.xe s := by
  obtain ⟨its, rv, ht, _⟩ := I.tuple hs
  have hb := rv.bls
  have ht' : s.heap.IsTuple a its.toArray := ht
  have hne : a ≠ s.heap.objs.size := by obtain ⟨_, e, _⟩ := ht; exact Nat.ne_of_lt (Heap.lt_size e)
  refine call_any_walk (wpAny_pyIter_tuple ht' ?_)
  refine ⟨_, _, _, _, _, _, _, rfl, Walks.tuple (A := X.A.in1) (I.ok.hd hc) s.heap.objs.size a hne its.toArray, ⟨⟨_, Heap.get?_push_size _ rfl, rfl, rfl⟩, ht'.at fun o e => Heap.get?_push_of_some _ e⟩, truth_bools hb, fun h' tk hk => ?_⟩
  refine ⟨.bl _, H, I.kept fun b o eo => hk b o (fun hmem => ?_) (Heap.get?_push_of_some _ eo), ?_, q⟩
  · rcases List.mem_cons.mp hmem with e1 | hmem
    · exact absurd (e1 ▸ Heap.lt_size eo) (Nat.lt_irrefl _)
    · cases hmem
  · show Value.bool _ = Value.bool _
    rw [← L2.any_range, hb, List.size_toArray, List.length_map]
def rAny : ARs := fun vs h R => match vs with
  | [v] => (match (itemsOf h v).bind blL with | some ns => R (.dat (.bl (ns.any id))) h | none => False)
  | _ => False
theorem c_any (hc : X.calm = true) : CallR X (.builtin "any") (cRs (wo X C) rAny) := by
  intro p s σ H xs us Q I rx ⟨g, h, ds, R, m, r1, q, k⟩
  unfold rAny at q
  split at q
  · obtain ⟨x, rfl, r⟩ := r1.one
    split at q
    · rename_i ns he
      obtain ⟨es, h1, h2⟩ := Option.bind_eq_some_iff.mp he
      obtain rfl := blL_eq h2
      obtain ⟨pp, xs, rfl, sq, s2⟩ := itemsOf_sq m r h1
      obtain rfl := s2.bls
      rcases sq with sq | sq
      · exact cr_any hc p s σ H _ us Q I rx ⟨pp, ns, rfl, sq, retD m (.bl _) q k⟩
      · rw [Vals.ref1 rx]
        exact any_tup hc I sq (retD m (.bl _) q k)
    · cases q
  · cases q
/-- min of a list of ints -/
def rMinL : ARs := fun vs h R => match vs with
  | [.dat (.lst ds)] => (match intL ds with | some ns => 0 < ns.length ∧ ∀ i, i ∈ ns → (∀ y, y ∈ ns → i ≤ y) → R (.dat (.int i)) h | none => False)
  | _ => False
theorem c_minL (hc : X.calm = true) : CallR X (.builtin "min") (cRs (wo X C) rMinL) := by
  intro p s σ H xs us Q I rx ⟨g, h, ds, R, m, r1, q, k⟩
  unfold rMinL at q
  split at q
  · obtain ⟨x, rfl, r⟩ := r1.one
    obtain ⟨pp, xs, rfl, sq, s2⟩ := r.inv_lst
    split at q
    · rename_i ns he
      obtain rfl := intL_eq he
      obtain rfl := s2.ints
      exact cr_min hc p s σ H _ us Q I rx ⟨pp, ns, rfl, sq.sq, q.1, fun i h1 h2 => retD m (.int i) (q.2 i h1 h2) k⟩
    · cases q
  · cases q

/-! ### tuple, list, sorted -/
def rTuple : ARs := fun vs h R => match vs with
  | [v] => (match itemsOf h v with | some ds => R (.dat (.tup ds)) h | none => False)
  | _ => False
theorem c_tuple : CallR X (.type "tuple") (cRs (wo X C) rTuple) := by
  intro p s σ H xs us Q I rx ⟨g, h, ds, R, m, r1, q, k⟩
  unfold rTuple at q
  split at q
  · obtain ⟨x, rfl, r⟩ := r1.one
    split at q
    · rename_i es he
      unfold itemsOf at he
      split at he
      · cases he
        obtain ⟨pp, xs, rfl, f, s2⟩ := r.inv_tup
        exact call_tuple_of p s σ H _ us Q I rx ⟨pp, xs, rfl, .inr ⟨f.sq, retD m (.tup f s2) q k⟩⟩
      · cases he
        obtain ⟨pp, xs, rfl, f, s2⟩ := r.inv_lst
        exact call_tuple_of p s σ H _ us Q I rx ⟨pp, xs, rfl, .inl ⟨f.sq, fun l hl => retT m s2 hl q k⟩⟩
      · cases he
      · rename_i n
        split at he
        · rename_i ds' hq
          cases he
          obtain ⟨a, rfl, ha⟩ := r.inv_ref
          obtain ⟨xs, hH, s2⟩ := m.obj n a _ ha hq
          exact call_tuple_of p s σ H _ us Q I rx ⟨a, xs, rfl, .inl ⟨SqL.of hH, fun l hl => retT m s2 hl q k⟩⟩
        · cases he
    · cases q
  · cases q
/-- list(t): a list that will change -/
def rListM : ARs := fun vs h R => match vs with
  | [v] => (match itemsOf h v with | some ds => R (.ref h.length) (h ++ [.lst ds]) | none => False)
  | _ => False
theorem c_listM : CallR X (.type "list") (cRs (wo X C) rListM) := by
  intro p s σ H xs us Q I rx ⟨g, h, ds, R, m, r1, q, k⟩
  unfold rListM at q
  split at q
  · obtain ⟨x, rfl, r⟩ := r1.one
    split at q
    · rename_i es he
      obtain ⟨pp, xs, rfl, sq, s2⟩ := itemsOf_sq m r he
      exact call_list_of p s σ H _ us Q I rx ⟨pp, xs, rfl, sq, fun l hl => retM m s2 hl q k⟩
    · cases q
  · cases q
/-- pairs of ints -/
def pD (p : Int × Int) : D := .tup [.int p.1, .int p.2]
def prI : D → Option (Int × Int)
  | .tup [.int a, .int b] => some (a, b)
  | _ => none
theorem prI_eq {d : D} {p : Int × Int} (h : prI d = some p) : d = pD p := by
  unfold prI at h
  split at h
  · cases h; rfl
  · cases h
def pairL : List D → Option (List (Int × Int))
  | [] => some []
  | d :: r => match prI d, pairL r with
    | some p, some ps => some (p :: ps)
    | _, _ => none
theorem pairL_eq : ∀ {ds : List D} {ss : List (Int × Int)}, pairL ds = some ss → ds = ss.map pD
  | [], _, h => by cases h; rfl
  | d :: r, ss, h => by
    unfold pairL at h
    split at h
    · rename_i p ps e1 e2
      cases h
      rw [prI_eq e1, pairL_eq e2]; rfl
    · cases h
theorem pairL_map : ∀ ss : List (Int × Int), pairL (ss.map pD) = some ss
  | [] => rfl
  | p :: ss => by
    rw [List.map_cons]
    unfold pairL
    rw [pairL_map ss]; rfl
def lexLe (p q : Int × Int) : Prop := p.1 < q.1 ∨ (p.1 = q.1 ∧ p.2 ≤ q.2)
def rSorted : ARs := fun vs h R => match vs with
  | [.dat (.lst ds)] => (match pairL ds with | some ps => ∀ qs : List (Int × Int), qs.Perm ps → qs.Pairwise lexLe → R (.dat (.lst (qs.map pD))) h | none => False)
  | _ => False
/-- the pair at a value -/
def prOf (h : Heap) (v : Value) : Int × Int := match v with
  | .ref t => (match h.get? t with
    | some o => (match o.data with
      | .seq its _ => (match its.toList with | [.int i _, .int j _] => (i, j) | _ => (0, 0))
      | _ => (0, 0))
    | none => (0, 0))
  | _ => (0, 0)
theorem pr_one {pins : List (Addr × Obj)} {σ : L2.St} {H : Hp} {s : Shared} {N : NS} (I : Inv X pins σ H s) {p : Int × Int} {x : V} {v : Value} (r : RV (wo X C) N H (pD p) x) (rx : RelV x v) :
    prOf s.heap v = p ∧ Srt.IsPair s.heap v p.1 p.2 := by
  cases r with
  | tup f s2 =>
    have e := RVs.ints (ns := [p.1, p.2]) s2
    subst e
    obtain ⟨its, rv, ht, _⟩ := I.tuple f.sq
    obtain ⟨t, u, rfl⟩ := Vals.int2 rv
    cases rx
    obtain ⟨o, ho, hc, n, hd⟩ := ht
    refine ⟨?_, _, o, t, u, n, rfl, ho, hc, hd⟩
    unfold prOf
    simp only [ho, hd]
theorem pr_all {pins : List (Addr × Obj)} {σ : L2.St} {H : Hp} {s : Shared} {N : NS} (I : Inv X pins σ H s) : ∀ {ps : List (Int × Int)} {xs : List V} {its : List Value}, RVs (wo X C) N H (ps.map pD) xs → Vals xs its →
    its.map (prOf s.heap) = ps ∧ ∀ v ∈ its, Srt.IsPair s.heap v (prOf s.heap v).1 (prOf s.heap v).2 ∧ ∃ x, RelV x v ∧ RV (wo X C) N H (pD (prOf s.heap v)) x
  | [], _, _, h, r => by
    cases h
    cases r
    exact ⟨rfl, fun v hv => nomatch hv⟩
  | p :: ps, _, _, h, r => by
    cases h with
    | cons h1 h2 =>
      cases r with
      | cons r1 r2 =>
        obtain ⟨e1, e2⟩ := pr_one I h1 r1
        obtain ⟨e3, e4⟩ := pr_all I h2 r2
        refine ⟨by rw [List.map_cons, e1, e3], fun v hv => ?_⟩
        rcases List.mem_cons.mp hv with rfl | hv
        · rw [e1]; exact ⟨e2, _, r1, h1⟩
        · exact e4 v hv
theorem pr_back {H : Hp} {s : Shared} {N : NS} : ∀ (out : List Value), (∀ v ∈ out, ∃ x, RelV x v ∧ RV (wo X C) N H (pD (prOf s.heap v)) x) → ∃ xs, Vals xs out ∧ RVs (wo X C) N H ((out.map (prOf s.heap)).map pD) xs
  | [], _ => ⟨[], .nil, .nil⟩
  | v :: r, h => by
    obtain ⟨x, h1, h2⟩ := h v List.mem_cons_self
    obtain ⟨xs, h3, h4⟩ := pr_back r fun v hv => h v (List.mem_cons_of_mem _ hv)
    exact ⟨x :: xs, .cons h1 h3, .cons h2 h4⟩
theorem c_sorted : CallR X (.builtin "sorted") (cRs (wo X C) rSorted) := by
  intro p s σ H xs us Q I rx ⟨g, h, ds, R, m, r1, q, k⟩
  unfold rSorted at q
  split at q
  · obtain ⟨x, rfl, r⟩ := r1.one
    obtain ⟨pp, xs, rfl, f, s2⟩ := r.inv_lst
    split at q
    · rename_i ps he
      obtain rfl := pairL_eq he
      obtain ⟨its, rv, hl, hz⟩ := I.list f.sq
      rw [Vals.ref1 rx]
      obtain ⟨e1, e2⟩ := pr_all I s2 rv
      refine SrtO.sorted_pairsO (k := prOf s.heap) hl.isList (by rw [← rv.length]; exact hz) (fun v hv => (e2 v hv).1) fun h' d out h1 h2 kp hd hn => ?_
      obtain ⟨n, hn⟩ := hn
      obtain ⟨ys, v2, s3⟩ := pr_back (s := s) out fun v hv => (e2 v (h2.perm.mem_iff.mp hv)).2
      have hlen : ys.length ≤ sizeLine := by rw [v2.length, h2.perm.length_eq, ← rv.length]; exact hz
      refine ⟨.ref d, upd H d (.lst ys), I.laid (t' := s.toks) kp hd ⟨hlen, out, n, v2, hn⟩, rfl, ?_⟩
      refine retL m s3 (I.hok.fresh hd) (q (out.map (prOf s.heap)) (by rw [← e1]; exact h2.perm.map _) ?_) k
      rw [List.pairwise_map]
      refine List.Pairwise.imp (fun {a b} hab => ?_) h1
      have hab' : ¬ _ := SrtO.lexB_no.mp hab
      unfold lexLe
      omega
    · cases q
  · cases q

/-! ### isinstance of a tree, one built-in class or a tuple of two -/
def tyD : D → Option String
  | .non => some "NoneType"
  | .bl _ => some "bool"
  | .int _ => some "int"
  | .str _ => some "str"
  | .tup _ => some "tuple"
  | .lst _ => some "list"
  | _ => none
def isi1 (t n : String) : Bool := t == n || (t == "bool" && n == "int")
theorem ty_of {W : Wo} {N : NS} {H : Hp} {d : D} {x : V} {t : String} (r : RV W N H d x) (e : tyD d = some t) : TyX W.K H x (.type t) := by
  cases r with
  | non => cases e; exact .base .non
  | bl b => cases e; exact .base (.bl b)
  | int i => cases e; exact .base (.int i)
  | str x => cases e; exact .base (.str x)
  | tup f _ =>
    cases e
    rcases f with ⟨f | ⟨o, f⟩, _⟩ | ⟨o, its, n, ho, hc, _⟩
    · exact .base (.tup f)
    · exact .fTuple f
    · exact .kTuple ho hc
  | lst f _ =>
    cases e
    rcases f with ⟨f | ⟨o, f⟩, _⟩ | ⟨o, its, n, ho, hc, _⟩
    · exact .base (.lst f)
    · exact .base (.frz f)
    · exact .kList ho hc
  | dk _ _ => cases e
  | ins _ _ _ _ => cases e
theorem kitB_of {t n : String} (ht : t ∈ ["NoneType", "bool", "int", "str", "tuple", "list"]) (hn : n ∈ ["tuple", "list", "bool", "int"]) : kitB t n = some (isi1 t n) := by
  have all : (["NoneType", "bool", "int", "str", "tuple", "list"].all fun t => ["tuple", "list", "bool", "int"].all fun n => kitB t n == some (isi1 t n)) = true := by decide +kernel
  exact eq_of_beq (List.all_eq_true.mp (List.all_eq_true.mp all t ht) n hn)
theorem tyD_mem {d : D} {t : String} (e : tyD d = some t) : t ∈ ["NoneType", "bool", "int", "str", "tuple", "list"] := by
  cases d <;> cases e <;> decide
def eIsi (t : AT) (n : String) : AT := fun ρ h R => t ρ h fun d h1 => match d with
  | .dat d => (match tyD d with | some ty => R (.dat (.bl (isi1 ty n))) h1 | none => False)
  | .ref _ => False
def eIsi2 (t : AT) (n1 n2 : String) : AT := fun ρ h R => t ρ h fun d h1 => match d with
  | .dat d => (match tyD d with | some ty => R (.dat (.bl (isi1 ty n1 || isi1 ty n2))) h1 | none => False)
  | .ref _ => False
theorem me_isi {p p2 : Pos} {e : Expr} {t : AT} {n : String} {x : Str} (hm : X.mg "isinstance" = none) (he : ME X C e t) (hmx : X.mg x = none)
    (hn : n ∈ ["tuple", "list", "bool", "int"] := by decide) (hv : bootBuiltins x = some (.type n) := by decide +kernel) (hx : Gl X x := by rfl) (hnx : x ≠ "__name__" := by decide) (hdx : (x == ("__debug__" : Str)) = false := by decide)
    (hg : Gl X "isinstance" := by rfl)
    (hs : starEach [e, .Name x p2] X.env = (false, eval e X.env) :: starEach [.Name x p2] X.env := by rfl) (hpl : (backTo pos (starEach [.Name x p2] X.env)).any (·.1) = false := by rfl) (hs2 : starEach [.Name x p2] X.env = (false, eval (.Name x p2) X.env) :: starEach [] X.env := by rfl) :
    ME X C (.Call (.Name "isinstance" p) [e, .Name x p2] [] pos) (eIsi t n) := by
  refine PE.imp (pe_callB call_isi hg hm (by decide +kernel) (pa_cons he (pa_cons (pe_bltn (v := .ty n) hx hmx hv rfl hnx hdx) pa_nil hs2) hs) (by decide) (by decide) hs hpl) fun σ H Q ⟨g, h, ρ, R, m, re, ht, k⟩ => ?_
  refine ⟨g, h, ρ, _, m, re, ht, fun v H1 g1 h1 d1 e1 m1 r1 q1 => ?_⟩
  split at q1
  · rename_i d
    split at q1
    · rename_i ty hty
      exact ⟨v, .ty n, .type ty, .type n, _, rfl, .ty n, ty_of r1.inv_dat hty, kit_ty (kitB_of (tyD_mem hty) hn), retD m1 (.bl _) q1 fun v H3 g3 h3 z e3 => k v H3 g3 h3 z (e1.trans e3 m.sub)⟩
    · cases q1
  · cases q1
theorem me_isi2 {p p1 p2 p3 : Pos} {kk : Nat} {e : Expr} {t : AT} {n1 n2 : String} {x1 x2 : Str} (hm : X.mg "isinstance" = none) (he : ME X C e t) (hm1 : X.mg x1 = none) (hm2 : X.mg x2 = none)
    (hn1 : n1 ∈ ["tuple", "list", "bool", "int"] := by decide) (hn2 : n2 ∈ ["tuple", "list", "bool", "int"] := by decide) (hv1 : bootBuiltins x1 = some (.type n1) := by decide +kernel) (hv2 : bootBuiltins x2 = some (.type n2) := by decide +kernel)
    (hx1 : Gl X x1 := by rfl) (hx2 : Gl X x2 := by rfl) (hnx1 : x1 ≠ "__name__" := by decide) (hdx1 : (x1 == ("__debug__" : Str)) = false := by decide) (hnx2 : x2 ≠ "__name__" := by decide) (hdx2 : (x2 == ("__debug__" : Str)) = false := by decide)
    (hg : Gl X "isinstance" := by rfl)
    (hs : starEach [e, .Tuple [.Name x1 p1, .Name x2 p2] kk p3] X.env = (false, eval e X.env) :: starEach [.Tuple [.Name x1 p1, .Name x2 p2] kk p3] X.env := by rfl)
    (hpl : (backTo pos (starEach [.Tuple [.Name x1 p1, .Name x2 p2] kk p3] X.env)).any (·.1) = false := by rfl)
    (hs2 : starEach [.Tuple [.Name x1 p1, .Name x2 p2] kk p3] X.env = (false, eval (.Tuple [.Name x1 p1, .Name x2 p2] kk p3) X.env) :: starEach [] X.env := by rfl)
    (hs3 : starEach [.Name x1 p1, .Name x2 p2] X.env = (false, eval (.Name x1 p1) X.env) :: starEach [.Name x2 p2] X.env := by rfl) (hs4 : starEach [.Name x2 p2] X.env = (false, eval (.Name x2 p2) X.env) :: starEach [] X.env := by rfl) :
    ME X C (.Call (.Name "isinstance" p) [e, .Tuple [.Name x1 p1, .Name x2 p2] kk p3] [] pos) (eIsi2 t n1 n2) := by
  refine PE.imp (pe_callB call_isiT hg hm (by decide +kernel) (pa_cons he (pa_cons (pe_tup (pa_cons (pe_bltn (v := .ty n1) hx1 hm1 hv1 rfl hnx1 hdx1) (pa_cons (pe_bltn (v := .ty n2) hx2 hm2 hv2 rfl hnx2 hdx2) pa_nil hs4) hs3)) pa_nil hs2) hs) (by decide) (by decide) hs hpl) fun σ H Q ⟨g, h, ρ, R, m, re, ht, k⟩ => ?_
  refine ⟨g, h, ρ, _, m, re, ht, fun v H1 g1 h1 d1 e1 m1 r1 q1 => ?_⟩
  refine ⟨by show 2 ≤ sizeLine; decide, fun tp hp => ?_⟩
  split at q1
  · rename_i d
    split at q1
    · rename_i ty hty
      have m2 : MH (wo X C) g1 h1 (upd H1 tp (.tup [.ty n1, .ty n2])) := m1.laid hp
      have e2 : Ext g1 H1 g1 (upd H1 tp (.tup [.ty n1, .ty n2])) := Ext.laid hp
      refine ⟨v, tp, [.ty n1, .ty n2], .type ty, [.type n1, .type n2], _, rfl, upd_same, .cons (.ty n1) (.cons (.ty n2) .nil), ty_of (r1.ext e2 m1).inv_dat hty, ?_,
        retD m2 (.bl _) q1 fun v H3 g3 h3 z e3 => k v H3 g3 h3 z ((e1.trans e2 m.sub).trans e3 m.sub)⟩
      refine kitAny_cons (kit_ty (kitB_of (tyD_mem hty) hn1)) (fun e => ?_) fun e => by rw [e]; rfl
      refine kitAny_cons (kit_ty (kitB_of (tyD_mem hty) hn2)) (fun e2 => ?_) fun e2 => by rw [e2, Bool.or_true]
      rw [e, e2]; rfl
    · cases q1
  · cases q1
end
end AL
end
section
set_option Elab.async false
set_option linter.all false
set_option maxRecDepth 100000
set_option maxHeartbeats 1000000
/-! AL4: targets, statements. -/
namespace AL
open PySem PySem.Spec PyProof.Rows L2

section
variable {X : Cx} {C : Addr} {pos : Pos}
/-! ### targets -/
def gN (i : Nat) : AG := fun d ρ h R => R (ρ.set i (some d)) h
theorem mg_name {i : Nat} {x : Str} (hN : X.N.Nodup) (hi : X.N[i]? = some x := by rfl) (hx : Loc X.env.scope x := by first | exact Or.inl rfl | exact Or.inr rfl) (hf : X.fn x = true ∨ X.env.scope.names.lookup x = some .local := by first | exact .inl rfl | exact .inr rfl | assumption) :
    MG X C (.Name x pos) (gN i) :=
  PG.imp (pg_name hN hi hx hf) fun v σ H Q ⟨g, h, ρ, d, R, m, re, r, ht, k⟩ => k _ _ _ _ _ (Ext.refl g H) m (re.set r) ht
def gNil : AGs := fun vs ρ h R => vs = [] ∧ R ρ h
def gCons (t : AG) (u : AGs) : AGs := fun vs ρ h R => match vs with | d :: r => t d ρ h fun ρ1 h1 => u r ρ1 h1 R | [] => False
theorem mgs_nil : MGs X C [] gNil := by
  refine PGs.imp pgs_nil fun v σ H Q ⟨g, h, ρ, d, R, m, re, r, ht, k⟩ => ?_
  obtain ⟨e, ht⟩ := ht
  subst e
  cases r
  exact ⟨rfl, k _ _ _ _ _ (Ext.refl g H) m re ht⟩
theorem mgs_cons {e : Expr} {es : List Expr} {t : AG} {u : AGs} (h1 : MG X C e t) (h2 : MGs X C es u)
    (hs : (assignEach (e :: es) X.env).map (·.2) = assign e X.env :: (assignEach es X.env).map (·.2) := by rfl) : MGs X C (e :: es) (gCons t u) := by
  refine PGs.imp (pgs_cons h1 h2 hs) fun v σ H Q ⟨g, h, ρ, d, R, m, re, r, ht, k⟩ => ?_
  unfold gCons at ht
  split at ht
  · cases r with
    | cons r1 r2 =>
      refine ⟨_, _, rfl, g, h, ρ, _, _, m, re, r1, ht, fun σ1 H1 g1 h1 ρ1 e1 m1 re1 q1 => ?_⟩
      exact ⟨g1, h1, ρ1, _, R, m1, re1, r2.ext e1 m, q1, fun σ2 H2 g2 h2 ρ2 e2 => k σ2 H2 g2 h2 ρ2 (e1.trans e2 m.sub)⟩
  · cases ht
/-- (a, b, ..) = a tuple, a list of that length -/
def gTup (n : Nat) (t : AGs) : AG := fun d ρ h R => match d with | .dat (.tup ds) => ds.length = n ∧ t (ds.map .dat) ρ h R | _ => False
def gUnl (n : Nat) (t : AGs) : AG := fun d ρ h R => match d with | .dat (.lst ds) => ds.length = n ∧ t (ds.map .dat) ρ h R | _ => False
theorem mg_tup {es : List Expr} {kk : Nat} {t : AGs} {n : Nat} (hc : X.calm = true) (h : MGs X C es t)
    (hn : (assignEach es X.env).length = n := by rfl) (hst : (assignEach es X.env).findIdx? (·.1) = none := by rfl) : MG X C (.Tuple es kk pos) (gTup n t) := by
  refine PG.imp (pg_tup hc h hn hst) fun v σ H Q ⟨g, h, ρ, d, R, m, re, r, ht, k⟩ => ?_
  unfold gTup at ht
  split at ht
  · obtain ⟨p, xs, rfl, f, s⟩ := r.inv_tup
    exact ⟨p, xs, rfl, f.sq, s.length.symm.trans ht.1, g, h, ρ, _, R, m, re, s.dats, ht.2, k⟩
  · cases ht
theorem mg_unl {es : List Expr} {kk : Nat} {t : AGs} {n : Nat} (hc : X.calm = true) (h : MGs X C es t)
    (hn : (assignEach es X.env).length = n := by rfl) (hst : (assignEach es X.env).findIdx? (·.1) = none := by rfl) : MG X C (.Tuple es kk pos) (gUnl n t) := by
  refine PG.imp (pg_unl hc h hn hst) fun v σ H Q ⟨g, h, ρ, d, R, m, re, r, ht, k⟩ => ?_
  unfold gUnl at ht
  split at ht
  · obtain ⟨p, xs, rfl, f, s⟩ := r.inv_lst
    exact ⟨p, xs, rfl, f.sq, s.length.symm.trans ht.1, g, h, ρ, _, R, m, re, s.dats, ht.2, k⟩
  · cases ht
end

/-! ### a, b, *rest = a tuple -/
section
variable {prog : Program} {w : World} {A : Around} {E : Value → Shared → Prop} {s : Shared}
theorem unpack_star {l : Addr} {items : Array Value} {i : Nat} {Q : List Value → Shared → Prop} (hl : IsTup s.heap l items) (hh : A.handled = none) (hn : i ≤ items.size) (hz : items.size ≤ 16384)
    (h : ∀ (h' : Heap) (tk : Nat), (∀ b o, s.heap.get? b = some o → h'.get? b = some o) →
      Q (items.toList.take i ++ [.ref h'.objs.size]) { s with heap := h'.push { cls := .type "list", data := .seq (items.toList.drop i).toArray }, toks := tk }) : wpAny (model prog w) A (unpackItems (.ref l) (i + 1) (some i)) Q E s := by
  have hlt : l ≠ s.heap.objs.size := by obtain ⟨o, ho, _⟩ := hl; exact Nat.ne_of_lt (Heap.lt_size ho)
  unfold unpackItems notIterableAtAll
  refine wpAny_bind (wpAny_bind (wpAny_specialOf hl.typeIs slot_tuple_iter.lookup (wpAny_pure ?_)))
  simp only [Bool.false_eq_true, if_false]
  refine wpAny_bind (wpAny_holding (iter_tuple hl ?_))
  refine wpAny_bind (wpAny_holding (draw_tuple hlt i 0 _ _ ⟨_, Heap.get?_push_size _ rfl, rfl, rfl⟩ (hl.push _) (by omega) fun h1 it1 s1 => ?_))
  have l1 : IsTup h1 l items := (hl.push _).extBut s1.extBut hlt
  rw [Nat.zero_add] at it1
  obtain ⟨oi, hoi, _⟩ := id it1
  obtain ⟨ol, hol, _⟩ := id l1
  rw [List.drop_zero]
  have lf : (items.toList.take i).length = i := by rw [List.length_take, Array.length_toList]; omega
  rw [if_neg (show ¬ ((items.toList.take i).length < i) by rw [lf]; omega)]
  have sz : items.size ≤ sizeLine := by rw [sizeLine_eq]; omega
  refine wpAny_bind (wpAny_holding (PySem.W.kun_collect (s := { s with heap := h1 }) (T := "tuple_iterator") (.inr (.inr (.inr rfl))) (Walks.tuple (A := A.in1) hh s.heap.objs.size l hlt items) (fun j u st => st.1.typeIs) (k := i) hn
    ⟨it1, l1⟩ (Heap.lt_size hoi) (Heap.lt_size hol) (fun h2 tk hk => ?_) sz))
  have m0 : i + 1 - 1 - i = 0 := by omega
  rw [m0]
  show wpAny _ _ (if (items.toList.drop i).length < 0 then _ else _) _ _ _
  rw [if_neg (Nat.not_lt_zero _), Nat.sub_zero, List.take_of_length_le (Nat.le_refl _), List.drop_eq_nil_of_le (Nat.le_refl _)]
  have keep2 : ∀ b o, s.heap.get? b = some o → h2.get? b = some o := fun b o e =>
    hk b o (Nat.ne_of_lt (Heap.lt_size e)) (s1.extBut b o (Nat.ne_of_lt (Heap.lt_size e)) (Heap.get?_push_of_some _ e))
  refine wpAny_bind (wpAny_newList ?_ ?_)
  · rw [List.append_nil]
    exact wpAny_pure (h h2 tk keep2)
  · rw [List.length_drop, Array.length_toList]; omega
end

section
variable {X : Cx} {C : Addr} {pos : Pos}
theorem mgs_star {e : Expr} {es : List Expr} {t : AG} {u : AGs} {p : Pos} (h1 : MG X C e t) (h2 : MGs X C es u) : MGs X C (.Starred e p :: es) (gCons t u) := by
  refine ⟨fun pins s σ H vs us Q I r ⟨g, h, ρ, d, R, m, re, ra, ht, k⟩ => ?_⟩
  unfold gCons at ht
  split at ht
  · cases ra with
    | cons r1 r2 =>
      cases r with
      | cons rv rr =>
        show wpAny _ _ (assignInOrder (assign e X.env :: (assignEach es X.env).map (·.2)) _) _ _ _
        refine assignInOrder_cons (thn (h1.run pins s σ H _ _ _ I rv ⟨g, h, ρ, _, _, m, re, r1, ht, fun σ1 H1 g1 h1 ρ1 e1 m1 re1 q1 => ?_⟩) fun _ s1 ⟨σ1, H1, I1, q1⟩ => h2.run pins s1 σ1 H1 _ _ Q I1 rr q1)
        exact ⟨g1, h1, ρ1, _, R, m1, re1, r2.ext e1 m, q1, fun σ2 H2 g2 h2 ρ2 e2 => k σ2 H2 g2 h2 ρ2 (e1.trans e2 m.sub)⟩
  · cases ht
def gStar (i : Nat) (t : AGs) : AG := fun d ρ h R => match d with
  | .dat (.tup ds) => i ≤ ds.length ∧ ds.length ≤ 16384 ∧ t ((ds.take i).map .dat ++ [.dat (.lst (ds.drop i))]) ρ h R
  | _ => False
theorem RAs.append {W : Wo} {g : Gh} {H : Hp} : ∀ {ds es : List AV} {vs us : List V}, RAs W g H ds vs → RAs W g H es us → RAs W g H (ds ++ es) (vs ++ us)
  | [], _, _, _, h, q => by cases h; exact q
  | _ :: ds, _, _, _, h, q => by
    cases h with
    | cons h1 h2 => exact .cons h1 (RAs.append h2 q)
theorem mg_star {es : List Expr} {kk : Nat} {t : AGs} {i : Nat} (hc : X.calm = true) (h : MGs X C es t)
    (hn : (assignEach es X.env).length = i + 1 := by rfl) (hst : (assignEach es X.env).findIdx? (·.1) = some i := by rfl) : MG X C (.Tuple es kk pos) (gStar i t) := by
  refine ⟨fun pins s σ H v u Q I r ⟨g, hh, ρ, d, R, m, re, ra, ht, k⟩ => ?_⟩
  unfold gStar at ht
  split at ht
  · obtain ⟨p, xs, rfl, f, s1⟩ := ra.inv_tup
    cases r
    obtain ⟨its, rv, tp, hz⟩ := I.tuple f.sq
    have l1 := s1.length
    have l2 := rv.length
    rw [assign_Tuple]
    refine wpAny_bind (wpAny_standAt ?_)
    unfold unpack
    rw [hn, hst]
    refine wpAny_bind (wpAny_holding (unpack_star tp (I.ok.hd hc) (by rw [List.size_toArray, ← l2, ← l1]; exact ht.1) (by rw [List.size_toArray, ← l2, ← l1]; exact ht.2.1) fun h' tk kp => ?_))
    have hzz : (xs.drop i).length ≤ sizeLine := by rw [List.length_drop]; omega
    have I0 : Inv X pins σ H { s with heap := h', toks := tk } := I.kept (t' := tk) kp
    have hp : H h'.objs.size = none := I0.hok.fresh (Nat.le_refl _)
    have I1 : Inv X pins σ (upd H h'.objs.size (.lst (xs.drop i))) { s with heap := h'.push { cls := .type "list", data := .seq (its.toArray.toList.drop i).toArray }, toks := tk } :=
      I0.laid (t' := tk) (o := .lst (xs.drop i)) (fun b ob q => Heap.get?_push_of_some _ q) (Nat.le_refl _) ⟨hzz, its.drop i, 0, rv.drop i, Heap.get?_push_size _ rfl⟩
    refine h.run pins _ σ _ (xs.take i ++ [.ref h'.objs.size]) _ Q I1 ((rv.take i).append (show Vals [V.ref h'.objs.size] [Value.ref h'.objs.size] from .cons rfl .nil)) ⟨g, hh, ρ, _, R, m.laid hp, re.ext (Ext.laid hp) m, ?_, ht.2.2, fun σ2 H2 g2 h2 ρ2 e2 => k σ2 H2 g2 h2 ρ2 ((Ext.laid hp).trans e2 m.sub)⟩
    refine RAs.append ((s1.take i).ext (Ext.laid hp) m).dats (.cons (.dat (.lst (.inl ⟨.inl upd_same, m.nfresh hp⟩) ((s1.drop i).ext (Ext.laid hp) m))) .nil)
  · cases ht
/-- o[i] = v: a list that changes -/
def setL : AV → AV → AV → AH → (AH → Prop) → Prop := fun o i v h R => match o, i, v with
  | .ref n, .dat (.int k), .dat d => (match h[n]? with
    | some (.lst ds) => (match ixN ds.length k with | some j => R (h.set n (.lst (ds.set j d))) | none => False)
    | _ => False)
  | _, _, _ => False
abbrev ASet := AV → AV → AV → AH → (AH → Prop) → Prop
def cSet (W : Wo) (t : ASet) : TSet := fun o i v H Q => ∃ g h d e f R, MH W g h H ∧ RA W g H d o ∧ RA W g H e i ∧ RA W g H f v ∧ t d e f h R ∧ ∀ H' g' h', Ext g H g' H' → MH W g' h' H' → R h' → Q H'
theorem p_setL : PSet X (cSet (wo X C) setL) := by
  intro p s σ H o i v ov iv u Q I ro ri rv ⟨g, h, d, e, f, R, m, r1, r2, r3, q, k⟩
  unfold setL at q
  split at q
  · rename_i n kk dd
    split at q
    · rename_i ds hq
      split at q
      · rename_i j hj
        obtain ⟨a, rfl, ha⟩ := r1.inv_ref
        obtain rfl := r2.inv_int
        obtain ⟨xs, hH, s2⟩ := m.obj n a _ ha hq
        refine set_list p s σ H _ _ v ov iv u Q I ro ri rv ⟨a, xs, kk, j, rfl, rfl, hH, by rw [← s2.length]; exact hj, ?_⟩
        have e := Ext.wr (g := g) (H := H) (o := .lst (xs.set j v)) ha
        exact k _ g _ e (m.wr (ao := .lst (ds.set j dd)) ha ⟨_, upd_same, (s2.ext e m).set (r3.ext e m).inv_dat j⟩) q
      · cases q
    · cases q
  · cases q
def gSub (to ti : AT) (t : ASet) : AG := fun v ρ h R => to ρ h fun o h1 => ti ρ h1 fun i h2 => t o i v h2 fun h3 => R ρ h3
theorem mg_sub {o i : Expr} {to ti : AT} {t : ASet} (ho : ME X C o to) (hi : ME X C i ti) (hs : PSet X (cSet (wo X C) t))
    (ha : ∀ v, assign (.Subscript o i pos) X.env v = (do
      let ov ← holding [v] (eval o X.env)
      let iv ← holding [v, ov] (eval i X.env)
      standAt pos
      holding [v, ov, iv] (setItem ov iv v)
      release [v, ov, iv] []) := by intro _; rfl) : MG X C (.Subscript o i pos) (gSub to ti t) := by
  refine PG.imp (pg_sub ho hi hs ha) fun v σ H Q ⟨g, h, ρ, d, R, m, re, r, ht, k⟩ => ?_
  refine ⟨g, h, ρ, _, m, re, ht, fun x H1 g1 h1 d1 e1 m1 r1 q1 => ⟨g1, h1, ρ, _, m1, re.ext e1 m, q1, fun y H2 g2 h2 d2 e2 m2 r2 q2 => ?_⟩⟩
  have e12 := e1.trans e2 m.sub
  exact ⟨g2, h2, d1, d2, d, _, m2, r1.ext e2 m1, r2, r.ext e12 m, q2, fun H3 g3 h3 e3 m3 q3 => k σ H3 g3 h3 ρ (e12.trans e3 m.sub) m3 (re.ext (e12.trans e3 m.sub) m) q3⟩

/-! ### statements -/
theorem cS_to {W : Wo} {t : AS} {D : Ends} {σ : L2.St} {H : Hp} {g : Gh} {h : AH} {ρ : En} {nx : En → AH → Prop} {rt : AV → AH → Prop} (m : MH W g h H) (re : RE W g H ρ σ) (ht : t nx rt ρ h)
    (kn : ∀ σ' H' g' h' ρ', Ext g H g' H' → MH W g' h' H' → RE W g' H' ρ' σ' → nx ρ' h' → D.nx σ' H')
    (kr : ∀ v H' g' h' d, Ext g H g' H' → MH W g' h' H' → RA W g' H' d v → rt d h' → D.rt v H') : cS W t D σ H := ⟨g, h, ρ, nx, rt, m, re, ht, kn, kr⟩
def sNext : AS := fun nx _ ρ h => nx ρ h
def sSeq (t u : AS) : AS := fun nx rt ρ h => t (fun ρ1 h1 => u nx rt ρ1 h1) rt ρ h
theorem mss_nil : MSs X C [] sNext := PSs.imp pss_nil fun D σ H ⟨g, h, ρ, nx, rt, m, re, ht, kn, kr⟩ => kn _ _ _ _ _ (Ext.refl g H) m re ht
theorem mss_cons {st : Stmt} {rest : List Stmt} {t u : AS} (h1 : MS X C st t) (h2 : MSs X C rest u) : MSs X C (st :: rest) (sSeq t u) := by
  refine PSs.imp (pss_cons h1 h2) fun D σ H ⟨g, h, ρ, nx, rt, m, re, ht, kn, kr⟩ => ?_
  refine ⟨g, h, ρ, _, rt, m, re, ht, fun σ1 H1 g1 h1 ρ1 e1 m1 re1 q1 => ?_, kr⟩
  exact ⟨g1, h1, ρ1, nx, rt, m1, re1, q1, fun σ2 H2 g2 h2 ρ2 e2 => kn σ2 H2 g2 h2 ρ2 (e1.trans e2 m.sub), fun v H2 g2 h2 d e2 => kr v H2 g2 h2 d (e1.trans e2 m.sub)⟩
theorem mss_one {st : Stmt} {t : AS} (h1 : MS X C st t) : MSs X C [st] t := pss_one h1
def sNever : AS := fun _ _ _ _ => False
theorem ms_never {st : Stmt} : MS X C st sNever := PS.imp ps_never fun D σ H ⟨g, h, ρ, nx, rt, m, re, ht, kn, kr⟩ => ht
theorem mss_never {sts : List Stmt} : MSs X C sts sNever := PSs.imp pss_never fun D σ H ⟨g, h, ρ, nx, rt, m, re, ht, kn, kr⟩ => ht
def sExpr (t : AT) : AS := fun nx _ ρ h => t ρ h fun _ h1 => nx ρ h1
theorem ms_expr {e : Expr} {t : AT} (he : ME X C e t) (hs : swapsWith e none pos.line X.env = pure false := by rfl) : MS X C (.Expr e pos) (sExpr t) :=
  PS.imp (ps_expr he hs) fun D σ H ⟨g, h, ρ, nx, rt, m, re, ht, kn, kr⟩ => ⟨g, h, ρ, _, m, re, ht, fun v H1 g1 h1 d e1 m1 r1 q1 => kn _ _ _ _ _ e1 m1 (re.ext e1 m) q1⟩
def sRet (t : AT) : AS := fun _ rt ρ h => t ρ h rt
theorem ms_ret {e : Expr} {t : AT} (he : ME X C e t) : MS X C (.Return (some e) pos) (sRet t) :=
  PS.imp (ps_ret he) fun D σ H ⟨g, h, ρ, nx, rt, m, re, ht, kn, kr⟩ => ⟨g, h, ρ, _, m, re, ht, fun v H1 g1 h1 d e1 m1 r1 q1 => kr _ _ _ _ _ e1 m1 r1 q1⟩
def sIf (c : AB) (t u : AS) : AS := fun nx rt ρ h => c ρ h fun b h1 => if b = true then t nx rt ρ h1 else u nx rt ρ h1
theorem ms_if {c : Expr} {a b : List Stmt} {tc : AB} {t u : AS} (hc : MT X C c tc) (ha : MSs X C a t) (hb : MSs X C b u) : MS X C (.If c a b pos) (sIf tc t u) := by
  refine PS.imp (ps_if hc ha hb) fun D σ H ⟨g, h, ρ, nx, rt, m, re, ht, kn, kr⟩ => ⟨g, h, ρ, _, m, re, ht, fun b H1 g1 h1 e1 m1 q1 => ?_⟩
  cases b with
  | true =>
    rw [if_pos rfl] at q1 ⊢
    exact ⟨g1, h1, ρ, nx, rt, m1, re.ext e1 m, q1, fun σ2 H2 g2 h2 ρ2 e2 => kn σ2 H2 g2 h2 ρ2 (e1.trans e2 m.sub), fun v H2 g2 h2 d e2 => kr v H2 g2 h2 d (e1.trans e2 m.sub)⟩
  | false =>
    rw [if_neg Bool.false_ne_true] at q1 ⊢
    exact ⟨g1, h1, ρ, nx, rt, m1, re.ext e1 m, q1, fun σ2 H2 g2 h2 ρ2 e2 => kn σ2 H2 g2 h2 ρ2 (e1.trans e2 m.sub), fun v H2 g2 h2 d e2 => kr v H2 g2 h2 d (e1.trans e2 m.sub)⟩
def sAsg (t : AT) (g : AG) : AS := fun nx _ ρ h => t ρ h fun d h1 => g d ρ h1 nx
theorem ms_asg {tg e : Expr} {t : AT} {gt : AG} (he : ME X C e t) (hg : MG X C tg gt) (hs : swapsWithSole [tg] e pos.line X.env = pure false := by rfl) (hw : swappedStores [tg] e X.env = pure none := by rfl)
    (h1 : (assignEach [tg] X.env).map (·.2) = [assign tg X.env] := by rfl) : MS X C (.Assign [tg] e pos) (sAsg t gt) := by
  refine PS.imp (ps_asg he hg hs hw h1) fun D σ H ⟨g, h, ρ, nx, rt, m, re, ht, kn, kr⟩ => ⟨g, h, ρ, _, m, re, ht, fun v H1 g1 h1 d e1 m1 r1 q1 => ?_⟩
  exact ⟨g1, h1, ρ, d, nx, m1, re.ext e1 m, r1, q1, fun σ2 H2 g2 h2 ρ2 e2 => kn σ2 H2 g2 h2 ρ2 (e1.trans e2 m.sub)⟩
theorem ms_set {i : Nat} {x : Str} {e : Expr} {t : AT} {pos' : Pos} (hN : X.N.Nodup) (he : ME X C e t) (hi : X.N[i]? = some x := by rfl) (hx : Loc X.env.scope x := by first | exact Or.inl rfl | exact Or.inr rfl)
    (hs : swapsWith e (some (.Name x pos')) pos.line X.env = pure false := by rfl) (hf : X.fn x = true ∨ X.env.scope.names.lookup x = some .local := by first | exact .inl rfl | exact .inr rfl | assumption) :
    MS X C (.Assign [.Name x pos'] e pos) (sAsg t (gN i)) := by
  refine PS.imp (ps_set hN hi hx he hs hf) fun D σ H ⟨g, h, ρ, nx, rt, m, re, ht, kn, kr⟩ => ⟨g, h, ρ, _, m, re, ht, fun v H1 g1 h1 d e1 m1 r1 q1 => ?_⟩
  exact kn _ _ _ _ _ e1 m1 ((re.ext e1 m).set r1) q1
def sAsg2 (t : AT) (g1 g2 : AG) : AS := fun nx _ ρ h => t ρ h fun d h1 => g1 d ρ h1 fun ρ2 h2 => g2 d ρ2 h2 nx
theorem ms_asg2 {t1 t2 e : Expr} {t : AT} {ga gb : AG} (he : ME X C e t) (h1 : MG X C t1 ga) (h2 : MG X C t2 gb) (ha : (assignEach [t1, t2] X.env).map (·.2) = [assign t1 X.env, assign t2 X.env] := by rfl) (hw : swappedStores [t1, t2] e X.env = pure none := by rfl) :
    MS X C (.Assign [t1, t2] e pos) (sAsg2 t ga gb) := by
  refine PS.imp (ps_asg2 he h1 h2 ha hw) fun D σ H ⟨g, h, ρ, nx, rt, m, re, ht, kn, kr⟩ => ⟨g, h, ρ, _, m, re, ht, fun v H1 g1 h1 d e1 m1 r1 q1 => ?_⟩
  refine ⟨g1, h1, ρ, d, _, m1, re.ext e1 m, r1, q1, fun σ2 H2 g2 h2 ρ2 e2 m2 re2 q2 => ?_⟩
  exact ⟨g2, h2, ρ2, d, nx, m2, re2, r1.ext e2 m1, q2, fun σ3 H3 g3 h3 ρ3 e3 => kn σ3 H3 g3 h3 ρ3 ((e1.trans e2 m.sub).trans e3 m.sub)⟩
def sPar (i j : Nat) (t : AA) : AS := fun nx _ ρ h => t ρ h fun ds h1 => match ds with | [d, e] => nx ((ρ.set i (some d)).set j (some e)) h1 | _ => False
theorem ms_par {i j : Nat} {x y : Str} {a b : Expr} {t : AA} {px py pt : Pos} {kt k2 pt2} (hc : X.calm = true) (hN : X.N.Nodup) (ha : MA X C [a, b] t) (hi : X.N[i]? = some x := by rfl) (hj : X.N[j]? = some y := by rfl) (hij : i ≠ j := by decide)
    (hx : X.env.scope.names.lookup x = some .local := by rfl) (hy : X.env.scope.names.lookup y = some .local := by rfl)
    (hw : swappedStores [.Tuple [.Name x px, .Name y py] kt pt] (.Tuple [a, b] k2 pt2) X.env = pure (some [x, y]) := by rfl)
    (hs : swapsWithSole [.Tuple [.Name x px, .Name y py] kt pt] (.Tuple [a, b] k2 pt2) pos.line X.env = pure false := by rfl) :
    MS X C (.Assign [.Tuple [.Name x px, .Name y py] kt pt] (.Tuple [a, b] k2 pt2) pos) (sPar i j t) := by
  refine PS.imp (ps_par hc hN hi hj hij hx hy ha hw hs) fun D σ H ⟨g, h, ρ, nx, rt, m, re, ht, kn, kr⟩ => ⟨g, h, ρ, _, m, re, ht, fun vs H1 g1 h1 ds e1 m1 r1 q1 => ?_⟩
  split at q1
  · obtain ⟨u, w, rfl, ru, rw'⟩ := r1.two
    exact ⟨u, w, rfl, kn _ _ _ _ _ e1 m1 (((re.ext e1 m).set ru).set rw') q1⟩
  · cases q1
/-! x, y, z = a, b, c with plain local names -/
theorem RAs.three {W : Wo} {g : Gh} {H : Hp} {d e f : AV} {xs : List V} (r : RAs W g H [d, e, f] xs) : ∃ x y z, xs = [x, y, z] ∧ RA W g H d x ∧ RA W g H e y ∧ RA W g H f z := by
  cases r with
  | cons r q =>
    obtain ⟨y, z, rfl, q1, q2⟩ := q.two
    exact ⟨_, _, _, rfl, r, q1, q2⟩
def sPar3 (i j l : Nat) (t : AA) : AS := fun nx _ ρ h => t ρ h fun ds h1 => match ds with | [d, e, f] => nx (((ρ.set i (some d)).set j (some e)).set l (some f)) h1 | _ => False
theorem ms_par3 {i j l : Nat} {x y z : Str} {a b c : Expr} {t : AA} {px py pz pt : Pos} {kt k2 pt2} (hc : X.calm = true) (hN : X.N.Nodup) (ha : MA X C [a, b, c] t) (hi : X.N[i]? = some x := by rfl) (hj : X.N[j]? = some y := by rfl) (hl : X.N[l]? = some z := by rfl) (hij : i ≠ j := by decide) (hil : i ≠ l := by decide) (hjl : j ≠ l := by decide)
    (hx : X.env.scope.names.lookup x = some .local := by rfl) (hy : X.env.scope.names.lookup y = some .local := by rfl) (hz : X.env.scope.names.lookup z = some .local := by rfl)
    (hw : swappedStores [.Tuple [.Name x px, .Name y py, .Name z pz] kt pt] (.Tuple [a, b, c] k2 pt2) X.env = pure (some [x, y, z]) := by rfl)
    (hs : swapsWithSole [.Tuple [.Name x px, .Name y py, .Name z pz] kt pt] (.Tuple [a, b, c] k2 pt2) pos.line X.env = pure false := by rfl) :
    MS X C (.Assign [.Tuple [.Name x px, .Name y py, .Name z pz] kt pt] (.Tuple [a, b, c] k2 pt2) pos) (sPar3 i j l t) := by
  refine PS.imp (ps_par3 hc hN hi hj hl hij hil hjl hx hy hz ha hw hs) fun D σ H ⟨g, h, ρ, nx, rt, m, re, ht, kn, kr⟩ => ⟨g, h, ρ, _, m, re, ht, fun vs H1 g1 h1 ds e1 m1 r1 q1 => ?_⟩
  split at q1
  · obtain ⟨u, v, w, rfl, ru, rv, rw'⟩ := r1.three
    exact ⟨u, v, w, rfl, kn _ _ _ _ _ e1 m1 ((((re.ext e1 m).set ru).set rv).set rw') q1⟩
  · cases q1
/-- x += e of ints -/
def sAug (i : Nat) (f : Int → Int → Int) (t : AT) : AS := fun nx _ ρ h => match ρ[i]? with
  | some (some (.dat (.int a))) => t ρ h fun d h1 => (match d with | .dat (.int b) => nx (ρ.set i (some (.dat (.int (f a b))))) h1 | _ => False)
  | _ => False
theorem ms_augadd {i : Nat} {x : Str} {e : Expr} {t : AT} {pos' : Pos} (hN : X.N.Nodup) (he : ME X C e t) (hi : X.N[i]? = some x := by rfl) (hx : Loc X.env.scope x := by first | exact Or.inl rfl | exact Or.inr rfl) (hf : X.fn x = true ∨ X.env.scope.names.lookup x = some .local := by first | exact .inl rfl | exact .inr rfl | assumption) :
    MS X C (.AugAssign (.Name x pos') .Add e pos) (sAug i (fun a b => a + b) t) := by
  refine PS.imp (ps_aug hN hi hx he ip_add hf) fun D σ H ⟨g, h, ρ, nx, rt, m, re, ht, kn, kr⟩ => ?_
  unfold sAug at ht
  split at ht
  · rename_i a e0
    obtain ⟨v, e1, r⟩ := re.gt i _ e0
    obtain rfl := r.inv_int
    refine ⟨_, e1, g, h, ρ, _, m, re, ht, fun v H1 g1 h1 d e1 m1 r1 q1 => ?_⟩
    split at q1
    · obtain rfl := r1.inv_int
      exact ⟨_, _, rfl, rfl, kn _ _ _ _ _ e1 m1 ((re.ext e1 m).set (.dat (.int _))) q1⟩
    · cases q1
  · cases ht
/-- while -/
def itW (c : AB) (t : AS) (nx : En → AH → Prop) (rt : AV → AH → Prop) : Nat → En → AH → Prop
  | 0 => fun _ _ => False
  | n + 1 => fun ρ h => c ρ h fun b h1 => if b = true then t (itW c t nx rt n) rt ρ h1 else nx ρ h1
def sWhile (c : AB) (t : AS) : AS := fun nx rt ρ h => ∃ n, itW c t nx rt n ρ h
theorem ms_while {c : Expr} {body : List Stmt} {tc : AB} {t : AS} (hp : PassesOwn (model X.prog X.w) X.A X.env X.xe) (hc : MT X C c tc) (hb : MSs X C body t) : MS X C (.While c body [] pos) (sWhile tc t) := by
  refine PS.imp (ps_while hp hc hb) fun D σ H ⟨g, h, ρ, nx, rt, m, re, ⟨n, ht⟩, kn, kr⟩ => ?_
  refine ⟨fun n σ' H' => ∃ g' h' ρ', Ext g H g' H' ∧ MH (wo X C) g' h' H' ∧ RE (wo X C) g' H' ρ' σ' ∧ itW tc t nx rt n ρ' h', ⟨n, g, h, ρ, Ext.refl g H, m, re, ht⟩, ?_⟩
  rintro n σ1 H1 ⟨g1, h1, ρ1, e1, m1, re1, ht1⟩
  cases n with
  | zero => cases ht1
  | succ n =>
    refine ⟨g1, h1, ρ1, _, m1, re1, ht1, fun b H2 g2 h2 e2 m2 q2 => ?_⟩
    have e12 := e1.trans e2 m.sub
    cases b with
    | true =>
      show (if true = true then _ else _)
      rw [if_pos rfl] at q2 ⊢
      refine ⟨fun σ' H' => ∃ g' h' ρ', Ext g H g' H' ∧ MH (wo X C) g' h' H' ∧ RE (wo X C) g' H' ρ' σ' ∧ itW tc t nx rt n ρ' h', fun σ' H' q => ⟨n, Nat.lt_succ_self n, q⟩, ?_⟩
      refine ⟨g2, h2, ρ1, _, rt, m2, re1.ext e2 m1, q2, fun σ3 H3 g3 h3 ρ3 e3 m3 re3 q3 => ⟨g3, h3, ρ3, e12.trans e3 m.sub, m3, re3, q3⟩, fun v H3 g3 h3 d e3 => kr v H3 g3 h3 d (e12.trans e3 m.sub)⟩
    | false =>
      show (if false = true then _ else _)
      rw [if_neg Bool.false_ne_true] at q2 ⊢
      exact kn _ _ _ _ _ e12 m2 (re1.ext e2 m1) q2
end
end AL
end
section
set_option Elab.async false
set_option linter.all false
set_option maxRecDepth 100000
set_option maxHeartbeats 1000000
/-! AL5: loops and comprehensions over what is told ahead. -/
namespace AL
open PySem PySem.Spec PyProof.Rows L2

/-- an iterator that yields just ds, whatever happens to changing objects -/
structure ItOk (W : Wo) (g : Gh) (H : Hp) (J : It) (ds : List D) : Prop where
  go : ∀ (i : Nat) (d : D) (g2 : Gh) (h2 : AH) (H2 : Hp), Ext g H g2 H2 → MH W g2 h2 H2 → ds[i]? = some d →
    J.go i H2 ∧ ∀ x H3, J.yld i H2 x H3 → Ext g2 H2 g2 H3 ∧ MH W g2 h2 H3 ∧ RV W g2.N H3 d x
  stop : ∀ (i : Nat) (g2 : Gh) (h2 : AH) (H2 : Hp), Ext g H g2 H2 → MH W g2 h2 H2 → ds.length ≤ i → J.stop i H2
abbrev AI := En → AH → (List D → AH → Prop) → Prop
def cI (W : Wo) (t : AI) : TI := fun σ H R => ∃ g h ρ S, MH W g h H ∧ RE W g H ρ σ ∧ t ρ h S ∧
  ∀ J H' g' h' ds, Ext g H g' H' → MH W g' h' H' → ItOk W g' H' J ds → S ds h' → R J H'
abbrev MI (X : Cx) (C : Addr) (tg iter : Expr) (t : AI) : Prop := PI X tg iter (cI (wo X C) t)
theorem PI.imp {X : Cx} {tg e : Expr} {t t' : TI} (h : PI X tg e t) (k : ∀ σ H R, t' σ H R → t σ H R) : PI X tg e t' := ⟨fun p s σ H R I w => h.run p s σ H R I (k _ _ _ w)⟩

section
variable {W : Wo} {g : Gh} {H : Hp} {h : AH}
theorem it_list {a : Addr} {xs : List V} {ds : List D} (m : MH W g h H) (f : FL W.K g.N H a xs) (r : RVs W g.N H ds xs) : ItOk W g H (Itl W.K a) ds where
  go := fun i d g2 h2 H2 e m2 q => by
    have f2 : FL W.K g2.N H2 a xs := f.mono (e.keep m)
    obtain ⟨v, q1, q2⟩ := (r.ext e m).get q
    refine ⟨⟨xs, v, f2.sq, q1⟩, fun x H3 ⟨e3, y⟩ => ?_⟩
    subst e3
    have z := y xs f2.sq
    rw [q1] at z; cases z
    exact ⟨Ext.refl _ _, m2, q2⟩
  stop := fun i g2 h2 H2 e m2 q => ⟨xs, (f.mono (e.keep m)).sq, by rw [← r.length]; exact q⟩
theorem it_tup {a : Addr} {xs : List V} {ds : List D} (m : MH W g h H) (f : FT W.K g.N H a xs) (r : RVs W g.N H ds xs) : ItOk W g H (Itt W.K a) ds where
  go := fun i d g2 h2 H2 e m2 q => by
    have f2 : FT W.K g2.N H2 a xs := f.mono (e.keep m)
    obtain ⟨v, q1, q2⟩ := (r.ext e m).get q
    refine ⟨⟨xs, v, f2.sq, q1⟩, fun x H3 ⟨e3, y⟩ => ?_⟩
    subst e3
    have z := y xs f2.sq
    rw [q1] at z; cases z
    exact ⟨Ext.refl _ _, m2, q2⟩
  stop := fun i g2 h2 H2 e m2 q => ⟨xs, (f.mono (e.keep m)).sq, by rw [← r.length]; exact q⟩
/-- lo, lo + c, .. n of them -/
def rgD (lo c : Int) (n : Nat) : List D := (List.range n).map fun i => D.int (lo + (i : Nat) * c)
theorem it_rgc (lo c : Int) (n : Nat) : ItOk W g H (Itc lo c n) (rgD lo c n) where
  go := fun i d g2 h2 H2 e m2 q => by
    unfold rgD at q
    rw [List.getElem?_map] at q
    obtain ⟨j, q1, rfl⟩ := Option.map_eq_some_iff.mp q
    obtain ⟨hl, rfl⟩ := List.getElem?_eq_some_iff.mp q1
    rw [List.length_range] at hl
    refine ⟨hl, fun x H3 ⟨e3, y⟩ => ?_⟩
    subst e3 y
    rw [List.getElem_range]
    exact ⟨Ext.refl _ _, m2, .int _⟩
  stop := fun i g2 h2 H2 e m2 q => by
    unfold rgD at q
    rw [List.length_map, List.length_range] at q
    exact q
theorem it_rg (lo : Int) (n : Nat) : ItOk W g H (Itr lo n) (rgD lo 1 n) where
  go := fun i d g2 h2 H2 e m2 q => by
    unfold rgD at q
    rw [List.getElem?_map] at q
    obtain ⟨j, q1, rfl⟩ := Option.map_eq_some_iff.mp q
    obtain ⟨hl, rfl⟩ := List.getElem?_eq_some_iff.mp q1
    rw [List.length_range] at hl
    refine ⟨hl, fun x H3 ⟨e3, y⟩ => ?_⟩
    subst e3 y
    rw [List.getElem_range, Int.mul_one]
    exact ⟨Ext.refl _ _, m2, .int _⟩
  stop := fun i g2 h2 H2 e m2 q => by
    unfold rgD at q
    rw [List.length_map, List.length_range] at q
    exact q
theorem RVs.two {d e : D} {x y : V} {N : NS} (r : RV W N H d x) (q : RV W N H e y) : RVs W N H [d, e] [x, y] := .cons r (.cons q .nil)
theorem new_pair {d e : D} {x y : V} {T : Addr} (m : MH W g h H) (r : RV W g.N H d x) (q : RV W g.N H e y) (n : H T = none) :
    Ext g H g (upd H T (.tup [x, y])) ∧ MH W g h (upd H T (.tup [x, y])) ∧ RV W g.N (upd H T (.tup [x, y])) (.tup [d, e]) (.ref T) :=
  ⟨Ext.laid n, m.laid n, .tup (.inl ⟨.inl upd_same, m.nfresh n⟩) ((RVs.two r q).ext (Ext.laid n) m)⟩
def enD : Nat → List D → List D
  | _, [] => []
  | n, d :: ds => .tup [.int (n : Nat), d] :: enD (n + 1) ds
theorem enD_get : ∀ {ds : List D} {n i : Nat} {d : D}, (enD n ds)[i]? = some d → ∃ e, ds[i]? = some e ∧ d = .tup [.int ((n + i : Nat) : Int), e]
  | [], _, _, _, q => by simp [enD] at q
  | d :: ds, n, 0, e, q => by simp [enD] at q; exact ⟨d, rfl, q.symm⟩
  | d :: ds, n, i + 1, e, q => by
    have q' : (enD (n + 1) ds)[i]? = some e := by simpa [enD] using q
    obtain ⟨z, q1, q2⟩ := enD_get q'
    exact ⟨z, by simpa using q1, by rw [q2]; congr 3; omega⟩
theorem enD_length : ∀ (ds : List D) (n : Nat), (enD n ds).length = ds.length
  | [], _ => rfl
  | _ :: ds, n => by unfold enD; rw [List.length_cons, enD_length ds, List.length_cons]
theorem it_enum {a : Addr} {xs : List V} {ds : List D} (m : MH W g h H) (f : FL W.K g.N H a xs) (r : RVs W g.N H ds xs) : ItOk W g H (Ite W.K a) (enD 0 ds) where
  go := fun i d g2 h2 H2 e m2 q => by
    have f2 : FL W.K g2.N H2 a xs := f.mono (e.keep m)
    obtain ⟨d', q0, rfl⟩ := enD_get q
    obtain ⟨v, q1, q2⟩ := (r.ext e m).get q0
    refine ⟨⟨xs, v, f2.sq, q1⟩, fun x H3 ⟨T, x1, ex, n, e3, y⟩ => ?_⟩
    subst ex e3
    have z := y xs f2.sq
    rw [q1] at z; cases z
    rw [Nat.zero_add]
    exact new_pair m2 (.int _) q2 n
  stop := fun i g2 h2 H2 e m2 q => ⟨xs, (f.mono (e.keep m)).sq, by rw [← r.length, ← enD_length ds 0]; exact q⟩
def zpD : List D → List D → List D
  | d :: ds, e :: es => .tup [d, e] :: zpD ds es
  | _, _ => []
theorem zpD_get : ∀ {ds es : List D} {i : Nat} {d : D}, (zpD ds es)[i]? = some d → ∃ a b, ds[i]? = some a ∧ es[i]? = some b ∧ d = .tup [a, b]
  | [], _, _, _, q => by simp [zpD] at q
  | _ :: _, [], _, _, q => by simp [zpD] at q
  | d :: ds, e :: es, 0, x, q => by simp [zpD] at q; exact ⟨d, e, rfl, rfl, q.symm⟩
  | d :: ds, e :: es, i + 1, x, q => by
    obtain ⟨a, b, q1, q2, q3⟩ := zpD_get (ds := ds) (es := es) (i := i) (d := x) (by simpa [zpD] using q)
    exact ⟨a, b, by simpa using q1, by simpa using q2, q3⟩
theorem zpD_length : ∀ (ds es : List D), (zpD ds es).length = min ds.length es.length
  | [], _ => by simp [zpD]
  | _ :: _, [] => by simp [zpD]
  | _ :: ds, _ :: es => by unfold zpD; rw [List.length_cons, zpD_length ds es, List.length_cons, List.length_cons]; omega
theorem it_zip {a b : Addr} {xs ys : List V} {ds es : List D} (m : MH W g h H) (f : FL W.K g.N H a xs) (r : RVs W g.N H ds xs) (f' : FL W.K g.N H b ys) (r' : RVs W g.N H es ys) : ItOk W g H (Itz W.K a b) (zpD ds es) where
  go := fun i d g2 h2 H2 e m2 q => by
    have f2 : FL W.K g2.N H2 a xs := f.mono (e.keep m)
    have f3 : FL W.K g2.N H2 b ys := f'.mono (e.keep m)
    obtain ⟨d1, d2, q0, q0', rfl⟩ := zpD_get q
    obtain ⟨v, q1, q2⟩ := (r.ext e m).get q0
    obtain ⟨v', q1', q2'⟩ := (r'.ext e m).get q0'
    refine ⟨⟨xs, ys, v, v', f2.sq, f3.sq, q1, q1'⟩, fun x H3 ⟨T, x1, x2, ex, n, e3, y, y'⟩ => ?_⟩
    subst ex e3
    have z := y xs f2.sq
    rw [q1] at z; cases z
    have z' := y' ys f3.sq
    rw [q1'] at z'; cases z'
    exact new_pair m2 q2 q2' n
  stop := fun i g2 h2 H2 e m2 q => ⟨xs, ys, (f.mono (e.keep m)).sq, (f'.mono (e.keep m)).sq, by rw [zpD_length] at q; rw [← r.length, ← r'.length]; omega⟩
end

section
variable {X : Cx} {C : Addr} {pos : Pos} {tg : Expr}
/-! ### what is walked -/
def iSeq (t : AT) : AI := fun ρ h S => t ρ h fun d h1 => match d with | .dat (.lst ds) => S ds h1 | _ => False
def iTup (t : AT) : AI := fun ρ h S => t ρ h fun d h1 => match d with | .dat (.tup ds) => S ds h1 | _ => False
theorem mi_list {e : Expr} {t : AT} (he : ME X C e t) : MI X C tg e (iSeq t) := by
  refine PI.imp (pi_list he) fun σ H R ⟨g, h, ρ, S, m, re, ht, k⟩ => ⟨g, h, ρ, _, m, re, ht, fun v H1 g1 h1 d e1 m1 r1 q1 => ?_⟩
  split at q1
  · obtain ⟨a, xs, rfl, f, r⟩ := r1.inv_lst
    exact ⟨a, rfl, ⟨xs, f.sq⟩, k _ _ _ _ _ e1 m1 (it_list (W := wo X C) m1 f r) q1⟩
  · cases q1
theorem mi_tup {e : Expr} {t : AT} (he : ME X C e t) : MI X C tg e (iTup t) := by
  refine PI.imp (pi_tup he) fun σ H R ⟨g, h, ρ, S, m, re, ht, k⟩ => ⟨g, h, ρ, _, m, re, ht, fun v H1 g1 h1 d e1 m1 r1 q1 => ?_⟩
  split at q1
  · obtain ⟨a, xs, rfl, f, r⟩ := r1.inv_tup
    exact ⟨a, rfl, ⟨xs, f.sq⟩, k _ _ _ _ _ e1 m1 (it_tup (W := wo X C) m1 f r) q1⟩
  · cases q1
def iRg1 (t : AA) : AI := fun ρ h S => t ρ h fun ds h1 => match ds with | [.dat (.int j)] => -(2 ^ 62) ≤ j ∧ j < 2 ^ 62 ∧ S (rgD 0 1 j.toNat) h1 | _ => False
theorem mi_range1 {a : Expr} {t : AA} {p : Pos} (hm : X.mg "range" = none) (ha : MA X C [a] t) (hg : Gl X "range" := by rfl) (hs : starEach [a] X.env = [(false, eval a X.env)] := by rfl) : MI X C tg (.Call (.Name "range" p) [a] [] pos) (iRg1 t) := by
  refine PI.imp (pi_range1 hg hm ha hs) fun σ H R ⟨g, h, ρ, S, m, re, ht, k⟩ => ⟨g, h, ρ, _, m, re, ht, fun v H1 g1 h1 d e1 m1 r1 q1 => ?_⟩
  split at q1
  · obtain ⟨x, rfl, r⟩ := r1.one
    obtain rfl := r.inv_int
    exact ⟨_, rfl, q1.1, q1.2.1, k _ _ _ _ _ e1 m1 (it_rg 0 _) q1.2.2⟩
  · cases q1
def iRg3 (t : AA) : AI := fun ρ h S => t ρ h fun ds h1 => match ds with
  | [.dat (.int i), .dat (.int j), .dat (.int (-1))] => -(2 ^ 62) ≤ i ∧ i < 2 ^ 62 ∧ -(2 ^ 62) ≤ j ∧ j < 2 ^ 62 ∧ S (rgD i (-1) (i - j).toNat) h1 | _ => False
theorem mi_range3 {a b c : Expr} {t : AA} {p : Pos} (hm : X.mg "range" = none) (ha : MA X C [a, b, c] t) (hg : Gl X "range" := by rfl)
    (hs : starEach [a, b, c] X.env = (false, eval a X.env) :: starEach [b, c] X.env := by rfl) (hpl : (backTo pos (starEach [b, c] X.env)).any (·.1) = false := by rfl) : MI X C tg (.Call (.Name "range" p) [a, b, c] [] pos) (iRg3 t) := by
  refine PI.imp (pi_range3 hg hm ha hs hpl) fun σ H R ⟨g, h, ρ, S, m, re, ht, k⟩ => ⟨g, h, ρ, _, m, re, ht, fun v H1 g1 h1 d e1 m1 r1 q1 => ?_⟩
  split at q1
  · obtain ⟨x, y, z, rfl, r, r', r''⟩ := r1.three
    obtain rfl := r.inv_int
    obtain rfl := r'.inv_int
    obtain rfl := r''.inv_int
    exact ⟨_, _, _, _, rfl, RgC.neg q1.1 q1.2.1 q1.2.2.1 q1.2.2.2.1, k _ _ _ _ _ e1 m1 (it_rgc _ _ _) q1.2.2.2.2⟩
  · cases q1
def iEnm (t : AA) : AI := fun ρ h S => t ρ h fun ds h1 => match ds with | [.dat (.lst ds)] => S (enD 0 ds) h1 | _ => False
theorem mi_enum {e : Expr} {t : AA} {p tpos : Pos} {elts : List Expr} {kk : Nat} (hm : X.mg "enumerate" = none) (ha : MA X C [e] t) (hg : Gl X "enumerate" := by rfl) (hs : starEach [e] X.env = [(false, eval e X.env)] := by rfl) :
    MI X C (.Tuple elts kk tpos) (.Call (.Name "enumerate" p) [e] [] pos) (iEnm t) := by
  refine PI.imp (pi_enum hg hm ha hs) fun σ H R ⟨g, h, ρ, S, m, re, ht, k⟩ => ⟨g, h, ρ, _, m, re, ht, fun v H1 g1 h1 d e1 m1 r1 q1 => ?_⟩
  split at q1
  · obtain ⟨x, rfl, r⟩ := r1.one
    obtain ⟨a, xs, rfl, f, r⟩ := r.inv_lst
    exact ⟨a, xs, rfl, f.sq, k _ _ _ _ _ e1 m1 (it_enum (W := wo X C) m1 f r) q1⟩
  · cases q1
def iZp (t : AA) : AI := fun ρ h S => t ρ h fun ds h1 => match ds with | [.dat (.lst ds), .dat (.lst es)] => S (zpD ds es) h1 | _ => False
theorem mi_zip {e e2 : Expr} {t : AA} {p tpos : Pos} {elts : List Expr} {kk : Nat} (hm : X.mg "zip" = none) (ha : MA X C [e, e2] t) (hg : Gl X "zip" := by rfl)
    (hs : starEach [e, e2] X.env = (false, eval e X.env) :: starEach [e2] X.env := by rfl) (hpl : (backTo pos (starEach [e2] X.env)).any (·.1) = false := by rfl) :
    MI X C (.Tuple elts kk tpos) (.Call (.Name "zip" p) [e, e2] [] pos) (iZp t) := by
  refine PI.imp (pi_zip hg hm ha hs hpl) fun σ H R ⟨g, h, ρ, S, m, re, ht, k⟩ => ⟨g, h, ρ, _, m, re, ht, fun v H1 g1 h1 d e1 m1 r1 q1 => ?_⟩
  split at q1
  · obtain ⟨x, y, rfl, r, r'⟩ := r1.two
    obtain ⟨a, xs, rfl, f, r⟩ := r.inv_lst
    obtain ⟨b, ys, rfl, f', r'⟩ := r'.inv_lst
    exact ⟨a, b, xs, ys, rfl, f.sq, f'.sq, k _ _ _ _ _ e1 m1 (it_zip (W := wo X C) m1 f r f' r') q1⟩
  · cases q1

/-! ### for -/
def loopA (gt : AG) (tb : AS) (nx : En → AH → Prop) (rt : AV → AH → Prop) : List D → En → AH → Prop
  | [] => nx
  | d :: ds => fun ρ h => gt (.dat d) ρ h fun ρ2 h2 => tb (loopA gt tb nx rt ds) rt ρ2 h2
def sFor (wi : AI) (gt : AG) (tb : AS) : AS := fun nx rt ρ h => wi ρ h fun ds h1 => loopA gt tb nx rt ds ρ h1
theorem ms_for {iter : Expr} {body : List Stmt} {wi : AI} {gt : AG} {tb : AS} (hp : PassesOwn (model X.prog X.w) X.A X.env X.xe) (hc : X.calm = true) (hi : MI X C tg iter wi) (hg : MG X C tg gt) (hb : MSs X C body tb)
    (hs : ∀ x, foldedSetIterable iter X.env x = pure x := by intro _; rfl) : MS X C (.For tg iter body [] pos) (sFor wi gt tb) := by
  refine PS.imp (ps_for hp hc hi hg hb hs) fun D σ H ⟨g, h, ρ, nx, rt, m, re, ht, kn, kr⟩ => ⟨g, h, ρ, _, m, re, ht, fun J H1 g1 h1 ds e1 m1 io q1 => ?_⟩
  refine ⟨fun i n σ' H' => i + n = ds.length ∧ ∃ g' h' ρ', Ext g1 H1 g' H' ∧ MH (wo X C) g' h' H' ∧ RE (wo X C) g' H' ρ' σ' ∧ loopA gt tb nx rt (ds.drop i) ρ' h', ⟨ds.length, by omega, g1, h1, ρ, Ext.refl _ _, m1, re.ext e1 m, q1⟩, ?_⟩
  rintro i n σ2 H2 ⟨hn, g2, h2, ρ2, e2, m2, re2, q2⟩
  have e12 := e1.trans e2 m.sub
  by_cases hi : i < ds.length
  · have hd : ds[i]? = some ds[i] := List.getElem?_eq_getElem hi
    obtain ⟨go, yl⟩ := io.go i _ g2 h2 H2 e2 m2 hd
    refine .inr ⟨go, fun σ' H' => ∃ g' h' ρ', Ext g1 H1 g' H' ∧ MH (wo X C) g' h' H' ∧ RE (wo X C) g' H' ρ' σ' ∧ loopA gt tb nx rt (ds.drop (i + 1)) ρ' h', fun σ' H' q => ⟨n - 1, by omega, by omega, q⟩, fun x H3 y => ?_⟩
    obtain ⟨e3, m3, r3⟩ := yl x H3 y
    rw [List.drop_eq_getElem_cons hi] at q2
    refine ⟨g2, h2, ρ2, _, _, m3, re2.ext e3 m2, .dat r3, q2, fun σ4 H4 g4 h4 ρ4 e4 m4 re4 q4 => ?_⟩
    have e24 := (e2.trans e3 m1.sub).trans e4 m1.sub
    refine ⟨g4, h4, ρ4, _, rt, m4, re4, q4, fun σ5 H5 g5 h5 ρ5 e5 m5 re5 q5 => ⟨g5, h5, ρ5, e24.trans e5 m1.sub, m5, re5, q5⟩, fun v H5 g5 h5 d e5 => kr v H5 g5 h5 d ((e1.trans e24 m.sub).trans e5 m.sub)⟩
  · have hz : ds.drop i = [] := List.drop_eq_nil_of_le (by omega)
    rw [hz] at q2
    exact .inl ⟨io.stop i g2 h2 H2 e2 m2 (by omega), kn _ _ _ _ _ e12 m2 re2 q2⟩

/-! ### comprehensions -/
def wip {α : Type} (ρ : List (Option α)) : List Nat → List (Option α)
  | [] => ρ
  | v :: vs => (wip ρ vs).set v none
theorem wip_eq (σ : L2.St) : ∀ vs : List Nat, wipe σ vs = wip σ vs
  | [] => rfl
  | v :: vs => by unfold wipe wip; rw [wip_eq σ vs]
theorem wip_length {α : Type} (ρ : List (Option α)) : ∀ vs : List Nat, (wip ρ vs).length = ρ.length
  | [] => rfl
  | v :: vs => by unfold wip; rw [List.length_set, wip_length ρ vs]
theorem wip_get {α : Type} (ρ : List (Option α)) (j : Nat) : ∀ vs : List Nat, (wip ρ vs)[j]? = if j ∈ vs then ρ[j]?.map (fun _ => none) else ρ[j]?
  | [] => by simp [wip]
  | v :: vs => by
    unfold wip
    by_cases hv : v = j
    · subst hv
      by_cases hl : v < ρ.length
      · rw [List.getElem?_set_self (by rw [wip_length]; exact hl)]
        simp [List.getElem?_eq_getElem hl]
      · rw [List.getElem?_eq_none (by rw [List.length_set, wip_length]; omega), List.getElem?_eq_none (by omega : ρ.length ≤ v)]
        simp
    · rw [List.getElem?_set_ne hv, wip_get ρ j vs]
      have : (j ∈ v :: vs) ↔ j ∈ vs := by simp [Ne.symm hv]
      simp only [this]
def bindL {α : Type} (ρ : List (Option α)) : List Nat → List α → List (Option α)
  | i :: is, v :: vs => bindL (ρ.set i (some v)) is vs
  | _, _ => ρ
theorem bindL_length {α : Type} : ∀ (is : List Nat) (vs : List α) (ρ : List (Option α)), (bindL ρ is vs).length = ρ.length
  | [], _, _ => by simp [bindL]
  | _ :: _, [], _ => by simp [bindL]
  | i :: is, v :: vs, ρ => by unfold bindL; rw [bindL_length is vs]; simp
theorem bindL_get {α : Type} (j : Nat) : ∀ (is : List Nat) (vs : List α) (ρ : List (Option α)), j ∉ is → (bindL ρ is vs)[j]? = ρ[j]?
  | [], _, _, _ => by simp [bindL]
  | _ :: _, [], _, _ => by simp [bindL]
  | i :: is, v :: vs, ρ, h => by
    unfold bindL
    rw [bindL_get j is vs _ fun z => h (List.mem_cons_of_mem _ z), List.getElem?_set_ne (fun e => h (by rw [e]; exact List.mem_cons_self))]
theorem wip_wip_bind {α : Type} (ρ : List (Option α)) (is : List Nat) (vs : List α) : wip (bindL (wip ρ is) is vs) is = wip ρ is := by
  apply List.ext_getElem?
  intro j
  rw [wip_get]
  by_cases h : j ∈ is
  · rw [if_pos h, wip_get, if_pos h]
    by_cases hl : j < ρ.length
    · have h2 : j < (bindL (wip ρ is) is vs).length := by rw [bindL_length, wip_length]; exact hl
      rw [List.getElem?_eq_getElem hl, List.getElem?_eq_getElem h2]
      rfl
    · rw [List.getElem?_eq_none (by rw [bindL_length, wip_length]; omega), List.getElem?_eq_none (by omega)]
  · rw [if_neg h, bindL_get j is vs _ h]
theorem RE.wip {W : Wo} {g : Gh} {H : Hp} {ρ : En} {σ : L2.St} (r : RE W g H ρ σ) (vs : List Nat) : RE W g H (wip ρ vs) (wipe σ vs) := by
  rw [wip_eq]
  refine ⟨by rw [wip_length, wip_length]; exact r.len, fun i d q => ?_⟩
  rw [wip_get] at q
  by_cases h : i ∈ vs
  · rw [if_pos h] at q
    obtain ⟨_, _, z⟩ := Option.map_eq_some_iff.mp q
    cases z
  · rw [if_neg h] at q
    obtain ⟨v, q1, q2⟩ := r.gt i d q
    exact ⟨v, by rw [wip_get, if_neg h]; exact q1, q2⟩
theorem RE.bind {W : Wo} {g : Gh} {H : Hp} : ∀ {is : List Nat} {ds : List AV} {vs : List V} {ρ : En} {σ : L2.St}, RE W g H ρ σ → RAs W g H ds vs → RE W g H (bindL ρ is ds) (bindL σ is vs)
  | [], _, _, _, _, r, _ => by simpa [bindL] using r
  | _ :: _, [], _, _, _, r, q => by cases q; simpa [bindL] using r
  | i :: is, d :: ds, _, ρ, σ, r, q => by
    cases q with
    | cons q1 q2 =>
      unfold bindL
      exact RE.bind (r.set q1) q2

abbrev PTsA (X : Cx) (C : Addr) (ifs : List Expr) (t : AB) : Prop := PTs X ifs (cT (wo X C) t)
def tYes : AB := fun _ h R => R true h
theorem mts_nil : PTsA X C [] tYes := ⟨fun p s σ H Q I ⟨g, h, ρ, R, m, re, ht, k⟩ => pts_nil.run p s σ H Q I (k true H g h (Ext.refl g H) m ht)⟩
theorem mts_one {c : Expr} {t : AB} (h : MT X C c t) : PTsA X C [c] t := pts_one h

/-- a target: one name, or a tuple of names -/
inductive Tgt where
  | nm (i : Nat) | tp (is : List Nat)
def Tgt.vs : Tgt → List Nat
  | .nm i => [i]
  | .tp is => is
def Tgt.bd (t : Tgt) (d : D) (ρ : En) : Option En := match t with
  | .nm i => some (ρ.set i (some (.dat d)))
  | .tp is => match d with
    | .tup ds => if ds.length = is.length then some (bindL ρ is (ds.map .dat)) else none
    | _ => none
def nsG : List Nat → TGs
  | [] => L2.gNil
  | i :: is => L2.gCons (gName i) (nsG is)
def Tgt.cg (K : PySem.W.Frag) : Tgt → TG
  | .nm i => gName i
  | .tp is => L2.gTup K is.length (nsG is)
theorem nsG_run : ∀ (is : List Nat) (vs : List V) (σ : L2.St) (H : Hp) (Q : L2.St → Hp → Prop), vs.length = is.length → Q (bindL σ is vs) H → nsG is vs σ H Q
  | [], [], σ, H, Q, _, q => ⟨rfl, by simpa [bindL] using q⟩
  | [], _ :: _, _, _, _, h, _ => by cases h
  | _ :: _, [], _, _, _, h, _ => by cases h
  | i :: is, v :: vs, σ, H, Q, h, q => ⟨v, vs, rfl, nsG_run is vs _ H Q (by simpa using h) (by simpa [bindL] using q)⟩
theorem Tgt.run {W : Wo} {g : Gh} {H : Hp} {ρ : En} {σ : L2.St} {d : D} {x : V} {ρ2 : En} (t : Tgt) (r : RE W g H ρ σ) (q : RV W g.N H d x) (e : t.bd d (wip ρ t.vs) = some ρ2) (Q : L2.St → Hp → Prop)
    (k : ∀ σ2, RE W g H ρ2 σ2 → wipe σ2 t.vs = wipe σ t.vs → Q σ2 H) : t.cg W.K x (wipe σ t.vs) H Q := by
  cases t with
  | nm i =>
    cases e
    show Q ((wipe σ [i]).set i (some x)) H
    refine k _ ((r.wip [i]).set (.dat q)) ?_
    have := wip_wip_bind σ [i] [x]
    rw [wip_eq, wip_eq]
    exact this
  | tp is =>
    unfold Tgt.bd at e
    simp only at e
    split at e
    · rename_i ds
      split at e
      · rename_i hl
        cases e
        obtain ⟨p, xs, rfl, f, s⟩ := (RA.dat (W := W) (g := g) q).inv_tup
        have hl2 : xs.length = is.length := by rw [← s.length]; exact hl
        refine ⟨p, xs, rfl, f.sq, hl2, nsG_run is xs _ H Q hl2 (k _ ((r.wip is).bind s.dats) ?_)⟩
        show wipe (bindL (wipe σ is) is xs) is = wipe σ is
        rw [wip_eq, wip_eq, wip_wip_bind]
      · cases e
    · cases e

def lcA (t : Tgt) (tt : AB) (te : AT) (ρ : En) : List D → List D → AH → (AV → AH → Prop) → Prop
  | [], acc, h, R => R (.dat (.lst acc)) h
  | d :: ds, acc, h, R => match t.bd d (wip ρ t.vs) with
    | some ρ2 => tt ρ2 h fun b h3 => if b = true then te ρ2 h3 fun y h4 => (match y with | .dat y => acc.length < sizeLine ∧ lcA t tt te ρ ds (acc ++ [y]) h4 R | _ => False) else lcA t tt te ρ ds acc h3 R
    | none => False
def eLc (wi : AI) (t : Tgt) (tt : AB) (te : AT) : AT := fun ρ h R => wi ρ h fun ds h1 => lcA t tt te ρ ds [] h1 R
/-! a list that grows, known to nobody -/
theorem RA.mono {W : Wo} {g g1 : Gh} {H H1 : Hp} (k : ∀ a o, H a = some o → ¬ g.N a → H1 a = some o ∧ ¬ g1.N a) (ki : ∀ (n : Nat) (a : Addr), g.io[n]? = some a → g1.io[n]? = some a) {d : AV} {v : V} (r : RA W g H d v) : RA W g1 H1 d v := by
  cases r with
  | dat r => exact .dat (RV.mono k _ _ r)
  | ref r => exact .ref (ki _ _ r)
theorem RFs.mono {W : Wo} {g g1 : Gh} {H H1 : Hp} (k : ∀ a o, H a = some o → ¬ g.N a → H1 a = some o ∧ ¬ g1.N a) (ki : ∀ (n : Nat) (a : Addr), g.io[n]? = some a → g1.io[n]? = some a) : ∀ {d : List (Str × AV)} {v : List (Str × V)}, RFs W g H d v → RFs W g1 H1 d v
  | _, _, .nil => .nil
  | _, _, .cons r q => .cons (r.mono k ki) (RFs.mono k ki q)
theorem RO.mono {W : Wo} {g g1 : Gh} {H H1 : Hp} {a : Addr} {o : AO} (r : RO W g H a o) (k : ∀ a o, H a = some o → ¬ g.N a → H1 a = some o ∧ ¬ g1.N a) (ki : ∀ (n : Nat) (a : Addr), g.io[n]? = some a → g1.io[n]? = some a)
    (ks : ∀ u, H a = some u → H1 a = some u) : RO W g1 H1 a o := by
  cases o with
  | lst ds => obtain ⟨xs, q, r⟩ := r; exact ⟨xs, ks _ q, RVs.mono k _ _ r⟩
  | dK kvs => obtain ⟨xs, q, r⟩ := r; exact ⟨xs, ks _ q, r.mono k⟩
  | dN kk =>
    obtain ⟨xs, q, r1, r2, r3, r⟩ := r
    refine ⟨xs, ks _ q, r1, r2, r3, fun x hx => ?_⟩
    obtain ⟨d, z1, z2⟩ := r x hx
    exact ⟨d, z1, RV.mono k _ _ z2⟩
  | ins fs => obtain ⟨dx, ys, q, r⟩ := r; exact ⟨dx, ys, ks _ q, r.mono k ki⟩
theorem MH.mono {W : Wo} {g g1 : Gh} {h : AH} {H H1 : Hp} (m : MH W g h H) (k : ∀ a o, H a = some o → ¬ g.N a → H1 a = some o ∧ ¬ g1.N a) (ei : g1.io = g.io) (ks : ∀ a ∈ g.io, ∀ u, H a = some u → H1 a = some u)
    (s1 : ∀ a ∈ g.io, g1.N a) (s2 : ∀ a, g1.N a → ∃ o, H1 a = some o) : MH W g1 h H1 :=
  ⟨by rw [ei]; exact m.len, by rw [ei]; exact m.nd, by rw [ei]; exact s1, s2, fun n a o e1 e2 => by
    rw [ei] at e1
    exact (m.obj n a o e1 e2).mono k (fun n a e => by rw [ei]; exact e) (ks a (List.mem_of_getElem? e1))⟩
def Gh.hide (g : Gh) (L : Addr) : Gh := ⟨fun a => g.N a ∨ a = L, g.io⟩
def Gh.bare (g : Gh) (L : Addr) : Gh := ⟨fun a => g.N a ∧ a ≠ L, g.io⟩
theorem grow_start {W : Wo} {g : Gh} {h : AH} {H : Hp} {L : Addr} (m : MH W g h H) (hL : H L = none) (o : HO) : Ext g H (g.hide L) (upd H L o) ∧ MH W (g.hide L) h (upd H L o) ∧ (g.hide L).N L ∧ L ∉ (g.hide L).io := by
  have nl : ¬ g.N L := m.nfresh hL
  refine ⟨⟨⟨[], by simp [Gh.hide]⟩, fun a x => .inl x, fun a x => x.elim .inl fun e => .inr (by rw [e]; exact hL), fun a x => .inl x, fun a u e _ => by rw [upd_ne (ne_of_none e hL)]; exact e⟩, ?_, .inr rfl, fun z => nl (m.sub L z)⟩
  refine m.mono (fun a u e n => ⟨by rw [upd_ne (ne_of_none e hL)]; exact e, fun z => z.elim n (ne_of_none e hL)⟩) rfl (fun a _ u e => by rw [upd_ne (ne_of_none e hL)]; exact e) (fun a x => .inl (m.sub a x)) fun a x => ?_
  rcases x with x | x
  · obtain ⟨u, e⟩ := m.nn a x
    exact ⟨u, by rw [upd_ne (ne_of_none e hL)]; exact e⟩
  · exact ⟨o, by rw [x, upd_same]⟩
theorem grow_step {W : Wo} {g g1 : Gh} {h : AH} {H H1 : Hp} {L : Addr} (e : Ext g H g1 H1) (hL : H L = none) (m : MH W g1 h H1) (nl : g1.N L) (ni : L ∉ g1.io) (o : HO) : Ext g H g1 (upd H1 L o) ∧ MH W g1 h (upd H1 L o) ∧
    ∀ a u, H1 a = some u → ¬ g1.N a → upd H1 L o a = some u ∧ ¬ g1.N a := by
  have kk : ∀ a u, H1 a = some u → ¬ g1.N a → upd H1 L o a = some u ∧ ¬ g1.N a := fun a u q n => ⟨by rw [upd_ne (show a ≠ L from fun z => n (by rw [z]; exact nl))]; exact q, n⟩
  refine ⟨⟨e.pre, e.sub, e.new, e.nw, fun a u q z => by rw [upd_ne (ne_of_none q hL)]; exact e.fr a u q z⟩, ?_, kk⟩
  refine m.mono kk rfl (fun a x u q => by rw [upd_ne (show a ≠ L from fun z => ni (by rw [← z]; exact x))]; exact q) m.sub fun a x => ?_
  by_cases q : a = L
  · exact ⟨o, by rw [q, upd_same]⟩
  · obtain ⟨u, z⟩ := m.nn a x
    exact ⟨u, by rw [upd_ne q]; exact z⟩
theorem grow_end {W : Wo} {g g1 : Gh} {h : AH} {H H1 : Hp} {L : Addr} (e : Ext g H g1 H1) (hL : H L = none) (m0 : ∀ a, g.N a → ∃ o, H a = some o) (m : MH W g1 h H1) (ni : L ∉ g1.io) : Ext g H (g1.bare L) H1 ∧ MH W (g1.bare L) h H1 ∧
    (∀ a u, H1 a = some u → ¬ g1.N a → H1 a = some u ∧ ¬ (g1.bare L).N a) ∧ ¬ (g1.bare L).N L := by
  have kk : ∀ a u, H1 a = some u → ¬ g1.N a → H1 a = some u ∧ ¬ (g1.bare L).N a := fun a u q n => ⟨q, fun z => n z.1⟩
  refine ⟨⟨e.pre, fun a x => ⟨e.sub a x, fun z => ?_⟩, fun a x => e.new a x.1, e.nw, e.fr⟩, ?_, kk, fun z => z.2 rfl⟩
  · obtain ⟨o, q⟩ := m0 a x
    rw [z, hL] at q; cases q
  · exact m.mono kk rfl (fun a _ u q => q) (fun a x => ⟨m.sub a x, fun z => ni (z ▸ x)⟩) fun a x => m.nn a x.1
theorem lc_read {W : Wo} {wi : AI} {t : Tgt} {tt : AB} {te : AT} {σ : L2.St} {H : Hp} {Q : VK} (w : cE W (eLc wi t tt te) σ H Q) : L2.tLc (cI W wi) (t.cg W.K) (cT W tt) (cE W te) t.vs σ H Q := by
  obtain ⟨g, h, ρ, R, m, re, ht, k⟩ := w
  refine ⟨g, h, ρ, _, m, re, ht, fun J H1 g1 h1 ds e1 m1 io q1 L hL => ?_⟩
  obtain ⟨e0, m0, n0, i0⟩ := grow_start m1 hL (.lst [])
  refine ⟨fun i n H' => i + n = ds.length ∧ ∃ g' h' acc xs, Ext g1 H1 g' H' ∧ MH W g' h' H' ∧ g'.N L ∧ L ∉ g'.io ∧ H' L = some (.lst xs) ∧ RVs W g'.N H' acc xs ∧ lcA t tt te ρ (ds.drop i) acc h' R,
    ⟨ds.length, by omega, g1.hide L, h1, [], [], e0, m0, n0, i0, upd_same, .nil, q1⟩, ?_⟩
  rintro i n H2 ⟨hn, g2, h2, acc, xs, e2, m2, n2, i2, hD2, ra2, q2⟩
  have e12 := e1.trans e2 m.sub
  by_cases hi : i < ds.length
  · have hd : ds[i]? = some ds[i] := List.getElem?_eq_getElem hi
    obtain ⟨go, yl⟩ := io.go i _ g2 h2 H2 e2 m2 hd
    refine .inr ⟨go, fun H' => ∃ g' h' acc xs, Ext g1 H1 g' H' ∧ MH W g' h' H' ∧ g'.N L ∧ L ∉ g'.io ∧ H' L = some (.lst xs) ∧ RVs W g'.N H' acc xs ∧ lcA t tt te ρ (ds.drop (i + 1)) acc h' R, fun H' q => ⟨n - 1, by omega, by omega, q⟩, fun x H3 y => ?_⟩
    obtain ⟨e3, m3, r3⟩ := yl x H3 y
    rw [List.drop_eq_getElem_cons hi] at q2
    unfold lcA at q2
    have e13 := e2.trans e3 m1.sub
    split at q2
    · rename_i ρ2 hb
      refine t.run (re.ext (e1.trans e13 m.sub) m) r3 hb _ fun σ2 re2 ew => ⟨ew, ?_⟩
      refine ⟨g2, h2, ρ2, _, m3, re2, q2, fun b H4 g4 h4 e4 m4 q4 => ?_⟩
      have kk : ∀ {g5 : Gh} {H5 : Hp}, Ext g2 H3 g5 H5 → g5.N L ∧ L ∉ g5.io ∧ H5 L = some (.lst xs) := fun {g5 H5} e5 => by
        have e6 := e3.trans e5 m2.sub
        refine ⟨e6.sub L n2, fun z => ?_, e6.fr L _ hD2 i2⟩
        rcases e6.nw L z with y | y
        · exact i2 y
        · rw [hD2] at y; cases y
      cases b with
      | true =>
        show (if true = true then _ else _)
        rw [if_pos rfl] at q4 ⊢
        refine ⟨g4, h4, ρ2, _, m4, re2.ext e4 m3, q4, fun v H5 g5 h5 d e5 m5 r5 q5 => ?_⟩
        have e35 := e4.trans e5 m3.sub
        obtain ⟨n5, i5, hD5⟩ := kk e35
        have e25 := e3.trans e35 m2.sub
        split at q5
        · rename_i y
          have ra5 := ra2.ext e25 m2
          obtain ⟨e6, m6, k6⟩ := grow_step (e2.trans e25 m1.sub) hL m5 n5 i5 (.lst (xs ++ [v]))
          refine ⟨xs, hD5, by rw [← ra5.length]; exact q5.1, g5, h5, acc ++ [y], xs ++ [v], e6, m6, n5, i5, upd_same, ?_, q5.2⟩
          exact (RVs.mono k6 _ _ ra5).append (.cons (RV.mono k6 _ _ r5.inv_dat) .nil)
        · cases q5
      | false =>
        show (if false = true then _ else _)
        rw [if_neg Bool.false_ne_true] at q4 ⊢
        obtain ⟨n4, i4, hD4⟩ := kk e4
        exact ⟨g4, h4, acc, xs, e13.trans e4 m1.sub, m4, n4, i4, hD4, ra2.ext (e3.trans e4 m2.sub) m2, q4⟩
    · cases q2
  · have hz : ds.drop i = [] := List.drop_eq_nil_of_le (by omega)
    rw [hz] at q2
    obtain ⟨e7, m7, k7, n7⟩ := grow_end e2 hL m1.nn m2 i2
    exact .inl ⟨io.stop i g2 h2 H2 e2 m2 (by omega), k _ _ _ _ _ (e1.trans e7 m.sub) m7 (.dat (.lst (.inl ⟨.inl hD2, n7⟩) (RVs.mono k7 _ _ ra2))) q2⟩
/-- the block's context -/
abbrev BX (X : Cx) (scope : Scope) (s : Shared) (H : Hp) (c : Addr) (cl : List (Str × Addr)) (fp : List Addr) : Cx := X.blk s H scope (compEnvC scope cl c X.env) fp
theorem me_lc {elt iter : Expr} {ifs : List Expr} {scope : Scope} {own : List (Str × Nat)} {wi : AI} {t : Tgt} {tt : AB} {te : AT} (hc : X.calm = true) (hN : X.N.Nodup) (hi : MI X C tg iter wi) (ok : BlkOk X.N X.env.scope scope own) (hv : own.map (·.2) = t.vs)
    (hg : ∀ s H c cl fp, PG (BX X scope s H c cl fp) tg (t.cg X.K)) (ht : ∀ s H c cl fp, PTsA (BX X scope s H c cl fp) C ifs tt) (he : ∀ s H c cl fp, ME (BX X scope s H c cl fp) C elt te) (hs : ∀ x, foldedSetIterable iter X.env x = pure x := by intro _; rfl) :
    ME X C (.ListComp elt [⟨tg, iter, ifs, 0⟩] scope pos) (eLc wi t tt te) :=
  PE.imp (pe_lc (own := own) (tt := cT (wo X C) tt) (te := cE (wo X C) te) hc hN hi ok hg ht he hs) fun σ H Q w => by rw [hv]; exact lc_read w
/-- y = [..] on one line -/
theorem ms_lc {i : Nat} {y : Str} {py spos : Pos} {elt iter : Expr} {ifs : List Expr} {scope : Scope} {own : List (Str × Nat)} {wi : AI} {t : Tgt} {tt : AB} {te : AT} (hc : X.calm = true) (hN : X.N.Nodup) (hi : MI X C tg iter wi) (ok : BlkOk X.N X.env.scope scope own) (hv : own.map (·.2) = t.vs)
    (hg : ∀ s H c cl fp, PG (BX X scope s H c cl fp) tg (t.cg X.K)) (ht : ∀ s H c cl fp, PTsA (BX X scope s H c cl fp) C ifs tt) (he : ∀ s H c cl fp, ME (BX X scope s H c cl fp) C elt te)
    (hsw : swapsWith (.ListComp elt [⟨tg, iter, ifs, 0⟩] scope pos) (some (.Name y py)) spos.line X.env = pure true)
    (hy : X.N[i]? = some y := by rfl) (hyl : X.env.scope.names.lookup y = some .local := by rfl) (hs : ∀ x, foldedSetIterable iter X.env x = pure x := by intro _; rfl) :
    MS X C (.Assign [.Name y py] (.ListComp elt [⟨tg, iter, ifs, 0⟩] scope pos) spos) (sAsg (eLc wi t tt te) (gN i)) := by
  refine PS.imp (ps_setLc (own := own) (tt := cT (wo X C) tt) (te := cE (wo X C) te) hc hN hy hyl hsw hi ok hg ht he hs) fun D σ H ⟨g, h, ρ, nx, rt, m, re, ht, kn, kr⟩ => ?_
  show tLc (cI (wo X C) wi) (t.cg X.K) (cT (wo X C) tt) (cE (wo X C) te) (own.map (·.2)) σ H (fun x H1 => D.nx (σ.set i (some x)) H1)
  rw [hv]
  exact lc_read (W := wo X C) ⟨g, h, ρ, _, m, re, ht, fun v H1 g1 h1 d e1 m1 r1 q1 => kn _ _ _ _ _ e1 m1 ((re.ext e1 m).set r1) q1⟩
/-- a target of names, for the block -/
theorem tg_name {i : Nat} {x : Str} (hN : X.N.Nodup) (hi : X.N[i]? = some x := by rfl) (hx : Loc X.env.scope x := by first | exact Or.inl rfl | exact Or.inr rfl) (hf : X.fn x = true ∨ X.env.scope.names.lookup x = some .local := by first | exact .inl rfl | exact .inr rfl | assumption) :
    PG X (.Name x pos) ((Tgt.nm i).cg X.K) := pg_name hN hi hx hf
theorem tgs_nil : PGs X [] (nsG []) := pgs_nil
theorem tgs_cons {i : Nat} {is : List Nat} {x : Str} {es : List Expr} (hN : X.N.Nodup) (hr : PGs X es (nsG is)) (hi : X.N[i]? = some x := by rfl) (hx : Loc X.env.scope x := by first | exact Or.inl rfl | exact Or.inr rfl) (hf : X.fn x = true ∨ X.env.scope.names.lookup x = some .local := by first | exact .inl rfl | exact .inr rfl | assumption)
    (hs : (assignEach (.Name x pos :: es) X.env).map (·.2) = assign (.Name x pos) X.env :: (assignEach es X.env).map (·.2) := by rfl) : PGs X (.Name x pos :: es) (nsG (i :: is)) := pgs_cons (pg_name hN hi hx hf) hr hs
theorem tg_tup {es : List Expr} {kk : Nat} {is : List Nat} (hc : X.calm = true) (h : PGs X es (nsG is)) (hn : (assignEach es X.env).length = is.length := by rfl) (hst : (assignEach es X.env).findIdx? (·.1) = none := by rfl) : PG X (.Tuple es kk pos) ((Tgt.tp is).cg X.K) := pg_tup hc h hn hst
end
end AL
end
section
set_option Elab.async false
set_option linter.all false
set_option maxRecDepth 100000
set_option maxHeartbeats 1000000
/-! AL6: methods of lists and texts, dicts with plain keys, attributes, calls of defs, defs. -/
namespace AL
open PySem PySem.Spec PyProof.Rows L2

section
variable {X : Cx} {C : Addr} {pos : Pos}
/-! ### list.append, list.pop -/
def eAppend (to : AT) (t : AA) : AT := fun ρ h R => to ρ h fun o h1 => match o with
  | .ref n => (match h1[n]? with
    | some (.lst _) => t ρ h1 fun vs h2 => (match vs, h2[n]? with
      | [.dat d], some (.lst ds) => ds.length < sizeLine ∧ R (.dat .non) (h2.set n (.lst (ds ++ [d])))
      | _, _ => False)
    | _ => False)
  | _ => False
theorem me_append {o e : Expr} {to : AT} {t : AA} {apos cpos : Pos} (ho : ME X C o to) (ha : MA X C [e] t)
    (hbase : attributeBase o "append" X.env (eval o X.env) = eval o X.env := by rfl)
    (hfew : ((backTo cpos (starEach [e] X.env)).all (fun x => !x.1) && (backToKw cpos (keywordEach [] X.env)).all (fun x => x.1.isSome)
      && decide ([e].length + ([] : List Keyword).length + (if ([] : List Keyword).isEmpty then 0 else 1) < 30)) = true := by rfl)
    (hline : (apos.endLine == cpos.line) = true := by rfl) (hs : starEach [e] X.env = (false, eval e X.env) :: starEach [] X.env := by rfl) (hplain : (backTo cpos (starEach [] X.env)).any (·.1) = false := by rfl) :
    ME X C (.Call (.Attribute o "append" apos) [e] [] cpos) (eAppend to t) := by
  refine PE.imp (pe_bm PySem.F.plainAttrs_list PySem.F.slot_list_append PySem.F.type_list_append mt_append ho ha hbase hfew hline hs hplain) fun σ H Q ⟨g, h, ρ, R, m, re, ht, k⟩ => ⟨g, h, ρ, _, m, re, ht, fun v H1 g1 h1 d e1 m1 r1 q1 => ?_⟩
  split at q1
  · rename_i n
    split at q1
    · rename_i ds0 hq0
      obtain ⟨a, rfl, ha⟩ := r1.inv_ref
      obtain ⟨xs0, hH0, _⟩ := m1.obj n a _ ha hq0
      refine ⟨Or.inl ⟨rfl, _, SqL.of hH0⟩, g1, h1, ρ, _, m1, re.ext e1 m, q1, fun vs H2 g2 h2 es e2 m2 r2 q2 => ?_⟩
      split at q2
      · rename_i d ds hq
        obtain ⟨y, rfl, ry⟩ := r2.one
        obtain ⟨more, hio⟩ := e2.pre
        have ha2 : g2.io[n]? = some a := by
          rw [hio, List.getElem?_append_left]
          · exact ha
          · exact (List.getElem?_eq_some_iff.mp ha).1
        obtain ⟨xs, hH, s⟩ := m2.obj n a _ ha2 hq
        refine ⟨a, xs, y, rfl, rfl, hH, by rw [← s.length]; exact q2.1, ?_⟩
        have e3 := Ext.wr (g := g2) (H := H2) (o := .lst (xs ++ [y])) ha2
        refine k _ _ g2 _ _ ((e1.trans e2 m.sub).trans e3 m.sub) (m2.wr (ao := .lst (ds ++ [d])) ha2 ⟨_, upd_same, (s.ext e3 m2).append (.cons (ry.ext e3 m2).inv_dat .nil)⟩) (.dat .non) q2.2
      · cases q2
    · cases q1
  · cases q1
def ePop (to : AT) : AT := fun ρ h R => to ρ h fun o h1 => match o with
  | .ref n => (match h1[n]? with
    | some (.lst ds) => (match ds[ds.length - 1]? with | some d => R (.dat d) (h1.set n (.lst ds.dropLast)) | none => False)
    | _ => False)
  | _ => False
theorem me_pop {o : Expr} {to : AT} {apos cpos : Pos} (ho : ME X C o to) (hbase : attributeBase o "pop" X.env (eval o X.env) = eval o X.env := by rfl) (hline : (apos.endLine == cpos.line) = true := by rfl) :
    ME X C (.Call (.Attribute o "pop" apos) [] [] cpos) (ePop to) := by
  refine PE.imp (pe_bm0 PySem.F.plainAttrs_list PySem.F.slot_list_pop PySem.F.type_list_pop mt_pop ho hbase hline) fun σ H Q ⟨g, h, ρ, R, m, re, ht, k⟩ => ⟨g, h, ρ, _, m, re, ht, fun v H1 g1 h1 d e1 m1 r1 q1 => ?_⟩
  split at q1
  · rename_i n
    split at q1
    · rename_i ds hq
      split at q1
      · rename_i d hd
        obtain ⟨a, rfl, ha⟩ := r1.inv_ref
        obtain ⟨xs, hH, s⟩ := m1.obj n a _ ha hq
        obtain ⟨y, hy, ry⟩ := s.get hd
        refine ⟨Or.inl ⟨rfl, _, SqL.of hH⟩, a, xs, y, rfl, rfl, hH, by rw [← s.length]; exact hy, ?_⟩
        have e3 := Ext.wr (g := g1) (H := H1) (o := .lst xs.dropLast) ha
        exact k _ _ g1 _ _ (e1.trans e3 m.sub) (m1.wr (ao := .lst ds.dropLast) ha ⟨_, upd_same, (s.ext e3 m1).dropLast⟩) (.dat (ry.ext e3 m1)) q1
      · cases q1
    · cases q1
  · cases q1

/-! ### str.join, str.index -/
def eJoin (to te : AT) : AT := fun ρ h R => to ρ h fun o h1 => match o with
  | .dat (.str a) => te ρ h1 fun v h2 => (match (itemsOf h2 v).bind strL with
    | some ys => (ys.map (·.length)).sum + ys.length * a.length ≤ 16777216 ∧ R (.dat (.str (Txt.join a ys))) h2
    | none => False)
  | _ => False
theorem me_join {o e : Expr} {to te : AT} {apos : Pos} (ho : ME X C o to) (he : ME X C e te) (hs : starEach [e] X.env = [(false, eval e X.env)] := by rfl) (hbase : attributeBase o "join" X.env (eval o X.env) = eval o X.env := by rfl)
    (hline : (apos.endLine == pos.line) = true := by rfl) : ME X C (.Call (.Attribute o "join" apos) [e] [] pos) (eJoin to te) := by
  refine PE.imp (pe_join ho he hs hbase hline) fun σ H Q ⟨g, h, ρ, R, m, re, ht, k⟩ => ⟨g, h, ρ, _, m, re, ht, fun v H1 g1 h1 d e1 m1 r1 q1 => ?_⟩
  split at q1
  · obtain rfl := r1.inv_str
    refine ⟨⟨_, rfl⟩, g1, h1, ρ, _, m1, re.ext e1 m, q1, fun w H2 g2 h2 d2 e2 m2 r2 q2 => ?_⟩
    split at q2
    · rename_i ys hy
      obtain ⟨ds, y1, y2⟩ := Option.bind_eq_some_iff.mp hy
      obtain rfl := strL_eq y2
      obtain ⟨p, xs, rfl, sq, s2⟩ := itemsOf_sq m2 r2 y1
      obtain rfl := s2.strs
      exact ⟨_, p, ys, rfl, rfl, sq, q2.1, k _ _ _ _ _ (e1.trans e2 m.sub) m2 (.dat (.str _)) q2.2⟩
    · cases q2
  · cases q1
/-- s.index(t), t in it -/
def eIndex (to : AT) (t : AA) : AT := fun ρ h R => to ρ h fun o h1 => match o with
  | .dat (.str a) => t ρ h1 fun vs h2 => (match vs with
    | [.dat (.str b)] => (match Txt.index0 a b with | some i => R (.dat (.int (i : Nat))) h2 | none => False)
    | _ => False)
  | _ => False
theorem mt_idx (hc : X.calm = true) : MtR X "str.index" (fun x xs H Q => ∃ (a b : Str) (i : Nat), x = .str a ∧ xs = [.str b] ∧ Txt.index0 a b = some i ∧ Q (.int i) H) := by
  intro pins s σ H x xs v us Q I rx rs h
  obtain ⟨a, b, i, rfl, rfl, hi, q⟩ := h
  refine mt_indexX hc (W := fun _ _ _ _ => False) ?_ pins s σ H _ _ v us Q I rx rs ⟨a, b, rfl, rfl, fun j hj => ?_, fun hn => ?_⟩
  · exact fun u s' ⟨_, _, _, _, _, _, _, _, _, _, _, _, _, _, _, _, w⟩ => w.elim
  · rw [hi] at hj; cases hj; exact q
  · rw [hi] at hn; cases hn
theorem me_index {o e : Expr} {to : AT} {t : AA} {apos cpos : Pos} (hc : X.calm = true) (ho : ME X C o to) (ha : MA X C [e] t)
    (hbase : attributeBase o "index" X.env (eval o X.env) = eval o X.env := by rfl)
    (hfew : ((backTo cpos (starEach [e] X.env)).all (fun x => !x.1) && (backToKw cpos (keywordEach [] X.env)).all (fun x => x.1.isSome)
      && decide ([e].length + ([] : List Keyword).length + (if ([] : List Keyword).isEmpty then 0 else 1) < 30)) = true := by rfl)
    (hline : (apos.endLine == cpos.line) = true := by rfl) (hs : starEach [e] X.env = (false, eval e X.env) :: starEach [] X.env := by rfl) (hplain : (backTo cpos (starEach [] X.env)).any (·.1) = false := by rfl) :
    ME X C (.Call (.Attribute o "index" apos) [e] [] cpos) (eIndex to t) := by
  refine PE.imp (pe_bm PySem.F.plainAttrs_str PySem.F.slot_str_index PySem.F.type_str_index (mt_idx hc) ho ha hbase hfew hline hs hplain) fun σ H Q ⟨g, h, ρ, R, m, re, ht, k⟩ => ⟨g, h, ρ, _, m, re, ht, fun v H1 g1 h1 d e1 m1 r1 q1 => ?_⟩
  split at q1
  · obtain rfl := r1.inv_str
    refine ⟨rfl, g1, h1, ρ, _, m1, re.ext e1 m, q1, fun vs H2 g2 h2 es e2 m2 r2 q2 => ?_⟩
    split at q2
    · split at q2
      · rename_i i hi
        obtain ⟨y, rfl, ry⟩ := r2.one
        obtain rfl := ry.inv_str
        exact ⟨_, _, i, rfl, rfl, hi, k _ _ _ _ _ (e1.trans e2 m.sub) m2 (.dat (.int _)) q2⟩
      · cases q2
    · cases q2
  · cases q1

/-! ### dicts with plain keys -/
def keyOf : D → Option Key
  | .int i => some (.inl i)
  | .str x => some (.inr x)
  | _ => none
theorem keyOf_V {W : Wo} {N : NS} {H : Hp} {d : D} {k : Key} {x : V} (e : keyOf d = some k) (r : RV W N H d x) : x = kV k := by
  cases r <;> cases e <;> rfl
def valD (kvs : List (Key × D)) (k : Key) : Option D := (kvs.find? fun kv => decide (kv.1 = k)).map (·.2)
def putD (kvs : List (Key × D)) (k : Key) (v : D) : List (Key × D) := if (kvs.any fun kv => decide (kv.1 = k)) = true then kvs.map fun kv => if kv.1 = k then (kv.1, v) else kv else kvs ++ [(k, v)]
theorem RKs.length {W : Wo} {N : NS} {H : Hp} : ∀ {ds : List (Key × D)} {vs : List (Key × V)}, RKs W N H ds vs → ds.length = vs.length
  | _, _, .nil => rfl
  | _, _, .cons _ q => by rw [List.length_cons, List.length_cons, RKs.length q]
theorem RKs.val {W : Wo} {N : NS} {H : Hp} {k : Key} {d : D} : ∀ {ds : List (Key × D)} {vs : List (Key × V)}, RKs W N H ds vs → valD ds k = some d → ∃ v, valV vs k = some v ∧ RV W N H d v
  | _, _, .nil, e => by cases e
  | (k', d') :: ds, (_, v') :: vs, .cons r q, e => by
    by_cases hk : k' = k
    · subst hk
      have e' : some d' = some d := by
        have : valD ((k', d') :: ds) k' = some d' := by simp [valD]
        rw [← this]; exact e
      cases e'
      exact ⟨v', by simp [valV], r⟩
    · have e' : valD ds k = some d := by
        rw [← e]; simp [valD, List.find?_cons, hk]
      obtain ⟨v, h1, h2⟩ := RKs.val q e'
      exact ⟨v, by rw [← h1]; simp [valV, List.find?_cons, hk], h2⟩
theorem RKs.any {W : Wo} {N : NS} {H : Hp} (k : Key) : ∀ {ds : List (Key × D)} {vs : List (Key × V)}, RKs W N H ds vs → (ds.any fun kv => decide (kv.1 = k)) = vs.any fun kv => decide (kv.1 = k)
  | _, _, .nil => rfl
  | _, _, .cons _ q => by rw [List.any_cons, List.any_cons, RKs.any k q]
theorem RKs.append {W : Wo} {N : NS} {H : Hp} : ∀ {ds es : List (Key × D)} {vs us : List (Key × V)}, RKs W N H ds vs → RKs W N H es us → RKs W N H (ds ++ es) (vs ++ us)
  | _, _, _, _, .nil, g => g
  | _, _, _, _, .cons r q, g => .cons r (RKs.append q g)
theorem RKs.repl {W : Wo} {N : NS} {H : Hp} (k : Key) {d : D} {v : V} (rd : RV W N H d v) : ∀ {ds : List (Key × D)} {vs : List (Key × V)}, RKs W N H ds vs →
    RKs W N H (ds.map fun kv => if kv.1 = k then (kv.1, d) else kv) (vs.map fun kv => if kv.1 = k then (kv.1, v) else kv)
  | _, _, .nil => .nil
  | (k', _) :: _, _, .cons r q => by
    by_cases hk : k' = k
    · simp only [List.map_cons, hk, if_true]
      exact .cons rd (RKs.repl k rd q)
    · simp only [List.map_cons, hk, if_false]
      exact .cons r (RKs.repl k rd q)
theorem RKs.put {W : Wo} {N : NS} {H : Hp} (k : Key) {d : D} {v : V} (rd : RV W N H d v) {ds : List (Key × D)} {vs : List (Key × V)} (r : RKs W N H ds vs) : RKs W N H (putD ds k d) (putK vs k v) := by
  unfold putD putK
  rw [r.any k]
  split
  · exact r.repl k rd
  · exact r.append (.cons rd .nil)
/-- {} -/
def eDNew : AT := fun _ h R => R (.ref h.length) (h ++ [.dK []])
theorem me_dnew : ME X C (.Dict [] [] pos) eDNew := by
  refine PE.imp pe_dnewK fun σ H Q ⟨g, h, ρ, R, m, re, ht, k⟩ p hp => ?_
  refine k _ _ (g.add p) _ (.ref h.length) (Ext.add hp) (m.add (ao := .dK []) hp ⟨[], upd_same, .nil⟩) (.ref ?_) ht
  show (g.io ++ [p])[h.length]? = some p
  rw [← m.len]; simp
/-- d[k] -/
def eDGet (td tk : AT) : AT := fun ρ h R => td ρ h fun o h1 => tk ρ h1 fun i h2 => match o, i with
  | .ref n, .dat d => (match h2[n]?, keyOf d with
    | some (.dK kvs), some k => (match valD kvs k with | some v => R (.dat v) h2 | none => False)
    | _, _ => False)
  | .dat (.dk kvs), .dat d => (match keyOf d with
    | some k => (match (kvs.find? fun kv => decide (kv.1 = k)).map (·.2) with | some v => R (.dat (.int v)) h2 | none => False)
    | none => False)
  | _, _ => False
theorem me_dget {o i : Expr} {td tk : AT} (hu : X.A.units + 1 < cLine) (ho : ME X C o td) (hi : ME X C i tk) (hs : NoSl i := by exact fun _ _ => rfl) : ME X C (.Subscript o i pos) (eDGet td tk) := by
  refine PE.imp (pe_dget hu ho hi hs) fun σ H Q ⟨g, h, ρ, R, m, re, ht, k⟩ => ⟨g, h, ρ, _, m, re, ht, fun v H1 g1 h1 d1 e1 m1 r1 q1 => ⟨g1, h1, ρ, _, m1, re.ext e1 m, q1, fun u H2 g2 h2 d2 e2 m2 r2 q2 => ?_⟩⟩
  have r1' := r1.ext e2 m1
  have e12 := e1.trans e2 m.sub
  split at q2
  · split at q2
    · rename_i kvs kk hq hk
      split at q2
      · rename_i w hw
        obtain ⟨a, rfl, ha⟩ := r1'.inv_ref
        obtain ⟨ys, hH, s⟩ := m2.obj _ a _ ha hq
        obtain ⟨y, hy, ry⟩ := s.val hw
        obtain rfl := keyOf_V hk r2.inv_dat
        refine ⟨a, y, rfl, ?_, k _ _ _ _ _ e12 m2 (.dat ry) q2⟩
        rw [← hy]
        exact DGet.k hH
      · cases q2
    · cases q2
  · rename_i kvs dd
    split at q2
    · rename_i kk hk
      split at q2
      · rename_i w hw
        cases r1' with
        | dat r1' =>
          cases r1' with
          | dk hH hN =>
            obtain rfl := keyOf_V hk r2.inv_dat
            refine ⟨_, .int w, rfl, ?_, k _ _ _ _ _ e12 m2 (.dat (.int w)) q2⟩
            have e : valV (kvs.map fun q => (q.1, V.int q.2)) kk = some (.int w) := by
              obtain ⟨z, z1, z2⟩ := Option.map_eq_some_iff.mp hw
              unfold valV
              rw [List.find?_map]
              show Option.map _ (Option.map _ (kvs.find? fun kv => decide (kv.1 = kk))) = _
              rw [z1]
              show some (V.int z.2) = _
              rw [z2]
            rw [← e]
            exact DGet.k hH
      · cases q2
    · cases q2
  · cases q2
/-- d[k] = v -/
def setD : ASet := fun o i v h R => match o, i, v with
  | .ref n, .dat i, .dat d => (match h[n]?, keyOf i with
    | some (.dK kvs), some k => kvs.length < sizeLine ∧ R (h.set n (.dK (putD kvs k d)))
    | _, _ => False)
  | _, _, _ => False
theorem p_setD (hu : X.A.units + 1 < cLine) : PSet X (cSet (wo X C) setD) := by
  intro p s σ H o i v ov iv u Q I ro ri rv ⟨g, h, d, e, f, R, m, r1, r2, r3, q, k⟩
  unfold setD at q
  split at q
  · rename_i n ii dd
    split at q
    · rename_i kvs kk hq hk
      obtain ⟨a, rfl, ha⟩ := r1.inv_ref
      obtain ⟨ys, hH, s2⟩ := m.obj _ a _ ha hq
      obtain rfl := keyOf_V hk r2.inv_dat
      cases ro
      refine d_setItem (H' := upd H a (.dK (putK ys kk v))) hu I (DPut.k hH (by rw [← s2.length]; exact q.1)) ri rv fun s' I' => ⟨_, I', ?_⟩
      have e := Ext.wr (g := g) (H := H) (o := .dK (putK ys kk v)) ha
      exact k _ g _ e (m.wr (ao := .dK (putD kvs kk dd)) ha ⟨_, upd_same, (s2.mono (e.keep m)).put kk (r3.ext e m).inv_dat⟩) q.2
    · cases q
  · cases q

/-! ### attributes -/
def eFld (te : AT) (f : Str) (j : Nat) : AT := fun ρ h R => te ρ h fun o h1 => match o with
  | .ref n => (match h1[n]? with
    | some (.ins fs) => (match fs.lookup f with | some v => R v h1 | none => False)
    | _ => False)
  | .dat (.ins ds) => (match ds[j]? with | some d => R (.dat d) h1 | none => False)
  | _ => False
theorem RFs.val {W : Wo} {g : Gh} {H : Hp} {k : Str} {d : AV} : ∀ {ds : List (Str × AV)} {vs : List (Str × V)}, RFs W g H ds vs → ds.lookup k = some d → ∃ v, vs.lookup k = some v ∧ RA W g H d v
  | _, _, .nil, e => by cases e
  | (k', d') :: ds, (_, v') :: vs, .cons r q, e => by
    rw [List.lookup_cons] at e ⊢
    cases hb : k == k' with
    | true => rw [hb] at e; cases e; exact ⟨_, rfl, r⟩
    | false => rw [hb] at e; exact RFs.val q e
theorem insN_lookup {f : Str} {j : Nat} (hj : insN[j]? = some f) {xs : List V} {v : V} (hl : xs.length = insN.length) (hv : xs[j]? = some v) : (insN.zip xs).lookup f = some v := by
  match xs, hl with
  | [a, b], _ =>
    match j, hj with
    | 0, hj =>
      have e : f = "rows_of" := (Option.some.inj hj).symm
      subst e
      have e2 : v = a := (Option.some.inj hv).symm
      subst e2
      rfl
    | 1, hj =>
      have e : f = "tops" := (Option.some.inj hj).symm
      subst e
      have e2 : v = b := (Option.some.inj hv).symm
      subst e2
      rfl
    | j + 2, hj => simp [insN] at hj
theorem me_fld {o : Expr} {te : AT} {f : Str} {j : Nat} (he : ME X C o te) (c : Cls X.K C) (n : NoAttr X.K C f) (hj : insN[j]? = some f := by rfl) (hb : attributeBase o f X.env (eval o X.env) = eval o X.env := by rfl) : ME X C (.Attribute o f pos) (eFld te f j) := by
  refine PE.imp (pe_fld he hb) fun σ H Q ⟨g, h, ρ, R, m, re, ht, k⟩ => ⟨g, h, ρ, _, m, re, ht, fun v H1 g1 h1 d e1 m1 r1 q1 => ?_⟩
  split at q1
  · split at q1
    · rename_i fs hq
      split at q1
      · rename_i w hw
        obtain ⟨a, rfl, ha⟩ := r1.inv_ref
        obtain ⟨dx, ys, hH, s⟩ := m1.obj _ a _ ha hq
        obtain ⟨y, hy, ry⟩ := s.val hw
        exact ⟨a, C, dx, ys, y, rfl, hH, c, n, hy, k _ _ _ _ _ e1 m1 ry q1⟩
      · cases q1
    · cases q1
  · split at q1
    · rename_i dd hd
      cases r1 with
      | dat r1 =>
        cases r1 with
        | ins hH hN hl s =>
          obtain ⟨y, hy, ry⟩ := s.get hd
          exact ⟨_, C, _, _, y, rfl, hH, c, n, insN_lookup hj hl hy, k _ _ _ _ _ e1 m1 (.dat ry) q1⟩
    · cases q1
  · cases q1
/-- o.f = v, o an instance that changes -/
def putA (f : Str) (v : AV) : List (Str × AV) → List (Str × AV)
  | [] => [(f, v)]
  | (g, w) :: r => if g = f then (g, v) :: r else (g, w) :: putA f v r
end
end AL
end
section
set_option Elab.async false
set_option linter.all false
set_option maxRecDepth 100000
set_option maxHeartbeats 1000000
/-! AL7: calls of defs, defs. -/
namespace AL
open PySem PySem.Spec PyProof.Rows L2

/-- what a def does: its arguments (changing objects by their numbers among those that are handed in), those objects, what is wanted of its value and of them -/
abbrev HFs := List AV → AH → (D → AH → Prop) → Prop
/-- of trees alone -/
abbrev PFs := List D → (D → Prop) → Prop
def cHF (W : Wo) (n : Nat) (F : HFs) : Sp := fun vs H Q _ => ∃ g hs as R, MH W g hs H ∧ RAs W g H as vs ∧ as.length = n ∧ F as hs R ∧
  ∀ v H' N' d hs', Ext g H ⟨N', g.io⟩ H' → MH W ⟨N', g.io⟩ hs' H' → RV W N' H' d v → R d hs' → Q v H'
def pF (F : PFs) : HFs := fun as hs R => match hs, datL as with
  | [], some ds => F ds fun d => R d []
  | _, _ => False
/-- of one list that changes, first, and trees -/
abbrev BFs := List D → List D → (D → List D → Prop) → Prop
def bF (F : BFs) : HFs := fun as hs R => match as, hs with
  | .ref 0 :: r, [.lst bs] => (match datL r with | some ds => F ds bs fun d bs' => R d [.lst bs'] | none => False)
  | _, _ => False

/-- a def of the text that does F, at its name -/
def HasF (P : Program) (w : World) (K : PySem.W.Frag) (mg : Str → Option Value) (base : Heap) (C : Addr) (k : Nat) (x : Str) (n : Nat) (F : HFs) : Prop :=
  ∃ f fd ps, mg x = some (.ref f) ∧ PySem.W.keepIn K (.ref f) = true ∧ Binds K fd ps [] ∧ ps.length = n ∧ FnOk P w K mg base CX0 k f fd ps (cHF ⟨P, w, K, C⟩ n F)
/-- a method of the class at C -/
def HasM (P : Program) (w : World) (K : PySem.W.Frag) (mg : Str → Option Value) (base : Heap) (C : Addr) (k : Nat) (x : Str) (n : Nat) (F : HFs) : Prop :=
  ∃ f fd ps, Meth K C x f ∧ Binds K fd ps [] ∧ ps.length = n ∧ FnOk P w K mg base CX0 k f fd ps (cHF ⟨P, w, K, C⟩ n F)

section
variable {W : Wo} {g : Gh} {H H' : Hp} {h : AH} {N' : NS}
/-- behind a call that was handed some of the changing objects -/
theorem back_ext {io : List Addr} (hs : ∀ a ∈ io, a ∈ g.io) (e : Ext ⟨g.N, io⟩ H ⟨N', io⟩ H') : Ext g H ⟨N', g.io⟩ H' :=
  ⟨⟨[], by simp⟩, e.sub, e.new, fun a x => .inl x, fun a o q z => e.fr a o q fun y => z (hs a y)⟩
theorem MH.none (m : MH W g h H) : MH W ⟨g.N, []⟩ [] H := ⟨rfl, .nil, (fun _ x => by cases x), m.nn, fun n a o e1 => by simp at e1⟩
theorem MH.one {n : Nat} {a : Addr} {ds : List D} (m : MH W g h H) (ha : g.io[n]? = some a) (hq : h[n]? = some (.lst ds)) : MH W ⟨g.N, [a]⟩ [.lst ds] H := by
  refine ⟨rfl, by simp, fun b x => by rw [List.mem_singleton.mp x]; exact m.sub a (List.mem_of_getElem? ha), m.nn, fun k b o e1 e2 => ?_⟩
  cases k with
  | zero =>
    simp at e1 e2
    subst e1 e2
    exact m.obj n a _ ha hq
  | succ k => simp at e1
theorem MH.back0 (m : MH W g h H) (e : Ext ⟨g.N, []⟩ H ⟨N', []⟩ H') (m' : MH W ⟨N', []⟩ [] H') : MH W ⟨N', g.io⟩ h H' := by
  have e' := back_ext (g := g) (io := []) (fun a x => by cases x) e
  exact m.mono (e'.keep m) rfl (fun a _ u q => e.fr a u q fun x => by cases x) (fun a x => e.sub a (m.sub a x)) m'.nn
theorem MH.back1 {n : Nat} {a : Addr} {bs : List D} (m : MH W g h H) (ha : g.io[n]? = some a) (e : Ext ⟨g.N, [a]⟩ H ⟨N', [a]⟩ H') (m' : MH W ⟨N', [a]⟩ [.lst bs] H') : MH W ⟨N', g.io⟩ (h.set n (.lst bs)) H' := by
  have ham := List.mem_of_getElem? ha
  have e' := back_ext (g := g) (fun b x => by rw [List.mem_singleton.mp x]; exact ham) e
  have hn : n < h.length := by rw [← m.len]; exact (List.getElem?_eq_some_iff.mp ha).1
  refine ⟨by simpa using m.len, m.nd, fun b x => e.sub b (m.sub b x), m'.nn, fun k b o e1 e2 => ?_⟩
  have e1 : g.io[k]? = some b := e1
  by_cases q : k = n
  · subst q
    rw [ha] at e1; cases e1
    rw [List.getElem?_set_self hn] at e2
    cases e2
    have z := m'.obj 0 a (.lst bs) rfl rfl
    exact z
  · rw [List.getElem?_set_ne (Ne.symm q)] at e2
    have hab : b ≠ a := fun z => by
      subst z
      obtain ⟨l1, g1⟩ := List.getElem?_eq_some_iff.mp e1
      obtain ⟨l2, g2⟩ := List.getElem?_eq_some_iff.mp ha
      exact q ((List.getElem_inj m.nd).mp (g1.trans g2.symm))
    exact (m.obj k b o e1 e2).mono (e'.keep m) (fun _ _ q => q) fun u q => e.fr b u q fun x => hab (List.mem_singleton.mp x)
theorem RV.back {d : D} {v : V} (r : RV W N' H' d v) : RA W ⟨N', g.io⟩ H' (.dat d) v := .dat r
end

section
variable {X : Cx} {C : Addr} {pos : Pos}
/-- f(..) of trees -/
def eCallF (n : Nat) (F : PFs) (t : AA) : AT := fun ρ h R => t ρ h fun vs h1 => match datL vs with | some ds => ds.length = n ∧ F ds fun d => R (.dat d) h1 | none => False
theorem me_callF {x : Str} {p : Pos} {e : Expr} {es : List Expr} {t : AA} {k n : Nat} {F : PFs} (hf : HasF X.prog X.w X.K X.mg X.base C k x n (pF F)) (hr : Room k X.A) (ha : MA X C (e :: es) t)
    (hg : Gl X x := by rfl) (hdb : (x == ("__debug__" : Str)) = false := by decide) (he : starEach (e :: es) X.env = (false, eval e X.env) :: starEach es X.env := by rfl) (hpl : (backTo pos (starEach es X.env)).any (·.1) = false := by rfl) :
    ME X C (.Call (.Name x p) (e :: es) [] pos) (eCallF n F t) := by
  obtain ⟨f, fd, ps, hm, hk, hb, hn, G⟩ := hf
  refine PE.imp (pe_call G hr hg hm hk hb .nil pass0 ha hdb he hpl) fun σ H Q ⟨g, h, ρ, R, m, re, ht, kk⟩ => ⟨g, h, ρ, _, m, re, ht, fun vs H1 g1 h1 as e1 m1 r1 q1 => ?_⟩
  split at q1
  · rename_i ds hd
    have ead := datL_eq hd
    subst ead
    show cHF _ _ _ (vs ++ []) H1 Q E0
    rw [List.append_nil]
    refine ⟨⟨g1.N, []⟩, [], ds.map .dat, (fun d _ => R (.dat d) h1), m1.none, RVs.dats (g := ⟨g1.N, []⟩) r1.dats, by simpa using q1.1, (by
      show (match ([] : AH), datL (ds.map .dat) with | [], some ds => F ds _ | _, _ => False)
      rw [datL_map]; exact q1.2), fun v H2 N' d hs' e2 m2 r2 q2 => ?_⟩
    have e3 := back_ext (g := g1) (io := []) (fun a x => by cases x) e2
    have hz : hs' = [] := by
      have := m2.len
      cases hs' with
      | nil => rfl
      | cons _ _ => simp at this
    subst hz
    exact kk _ _ ⟨N', g1.io⟩ h1 (.dat d) (e1.trans e3 m.sub) (m1.back0 e2 m2) (.dat r2) q2
  · cases q1
/-- f(box, ..) of a list that changes, and trees -/
def eCallB (n : Nat) (F : BFs) (t : AA) : AT := fun ρ h R => t ρ h fun vs h1 => match vs with
  | .ref j :: r => (match h1[j]?, datL r with
    | some (.lst bs), some ds => ds.length + 1 = n ∧ F ds bs fun d bs' => R (.dat d) (h1.set j (.lst bs'))
    | _, _ => False)
  | _ => False
theorem me_callB1 {x : Str} {p : Pos} {e : Expr} {es : List Expr} {t : AA} {k n : Nat} {F : BFs} (hf : HasF X.prog X.w X.K X.mg X.base C k x n (bF F)) (hr : Room k X.A) (ha : MA X C (e :: es) t)
    (hg : Gl X x := by rfl) (hdb : (x == ("__debug__" : Str)) = false := by decide) (he : starEach (e :: es) X.env = (false, eval e X.env) :: starEach es X.env := by rfl) (hpl : (backTo pos (starEach es X.env)).any (·.1) = false := by rfl) :
    ME X C (.Call (.Name x p) (e :: es) [] pos) (eCallB n F t) := by
  obtain ⟨f, fd, ps, hm, hk, hb, hn, G⟩ := hf
  refine PE.imp (pe_call G hr hg hm hk hb .nil pass0 ha hdb he hpl) fun σ H Q ⟨g, h, ρ, R, m, re, ht, kk⟩ => ⟨g, h, ρ, _, m, re, ht, fun vs H1 g1 h1 as e1 m1 r1 q1 => ?_⟩
  show cHF _ _ _ (vs ++ []) H1 Q E0
  rw [List.append_nil]
  split at q1
  · rename_i j r
    split at q1
    · rename_i bs ds hq hd
      have ead := datL_eq hd
      subst ead
      cases r1 with
      | cons r1 r2 =>
        obtain ⟨a, rfl, ha⟩ := r1.inv_ref
        refine ⟨⟨g1.N, [a]⟩, [.lst bs], .ref 0 :: ds.map .dat, (fun d hs' => match hs' with | [.lst bs'] => R (.dat d) (h1.set j (.lst bs')) | _ => False), m1.one ha hq, .cons (.ref rfl) (RVs.dats (g := ⟨g1.N, [a]⟩) r2.dats), by simpa using q1.1, (by
          show (match datL (ds.map .dat) with | some ds => F ds bs _ | none => False)
          rw [datL_map]; exact q1.2), fun v H2 N' d hs' e2 m2 r2 q2 => ?_⟩
        have e3 := back_ext (g := g1) (fun b x => by rw [List.mem_singleton.mp x]; exact List.mem_of_getElem? ha) e2
        simp only at q2
        split at q2
        · exact kk _ _ ⟨N', g1.io⟩ _ (.dat d) (e1.trans e3 m.sub) (m1.back1 ha e2 m2) (.dat r2) q2
        · cases q2
    · cases q1
  · cases q1
/-- o.m(..), o an instance that does not change, trees -/
def eMethF (n : Nat) (F : PFs) (to : AT) (t : AA) : AT := fun ρ h R => to ρ h fun o h1 => match o with
  | .dat (.ins fs) => t ρ h1 fun vs h2 => (match datL vs with | some ds => ds.length + 1 = n ∧ F (.ins fs :: ds) fun d => R (.dat d) h2 | none => False)
  | _ => False
theorem insN_miss {x : Str} (h : insN.contains x = false) {xs : List V} : (insN.zip xs).lookup x = none := by
  match xs with
  | [] => rfl
  | [a] =>
    have h1 : (x == ("rows_of" : Str)) = false := by
      cases q : x == ("rows_of" : Str) with
      | false => rfl
      | true => rw [eq_of_beq q] at h; cases h
    show List.lookup x [(_, a)] = none
    rw [List.lookup_cons, h1]; rfl
  | a :: b :: r =>
    have h1 : (x == ("rows_of" : Str)) = false := by
      cases q : x == ("rows_of" : Str) with
      | false => rfl
      | true => rw [eq_of_beq q] at h; cases h
    have h2 : (x == ("tops" : Str)) = false := by
      cases q : x == ("tops" : Str) with
      | false => rfl
      | true => rw [eq_of_beq q] at h; cases h
    show List.lookup x [(_, a), (_, b)] = none
    rw [List.lookup_cons, h1]
    show List.lookup x [(_, b)] = none
    rw [List.lookup_cons, h2]; rfl
theorem me_methF {x : Str} {o e : Expr} {es : List Expr} {to : AT} {t : AA} {k n : Nat} {F : PFs} {apos : Pos} {pl : Sem Bool} (hf : HasM X.prog X.w X.K X.mg X.base C k x n (pF F)) (hr : Room k X.A) (c : Cls X.K C) (ho : ME X C o to) (ha : MA X C (e :: es) t) (hx : insN.contains x = false := by decide)
    (hst : starEach (e :: es) X.env = (false, eval e X.env) :: starEach es X.env := by rfl) (hpl : (backTo pos (starEach es X.env)).any (·.1) = false := by rfl)
    (ht : eval (.Call (.Attribute o x apos) (e :: es) [] pos) X.env = (do
      let ov ← eval o X.env
      standAt apos.atName
      let (f, first) ← holding [ov] (getMethod ov x pl)
      callWith pos f first (backTo pos (starEach (e :: es) X.env)) (backToKw pos (keywordEach [] X.env))) := by rfl) :
    ME X C (.Call (.Attribute o x apos) (e :: es) [] pos) (eMethF n F to t) := by
  obtain ⟨f, fd, ps, hm, hb, hn, G⟩ := hf
  refine PE.imp (pe_meth ho c hm G hr hb .nil pass0 ha hst hpl ht) fun σ H Q ⟨g, h, ρ, R, m, re, ht, kk⟩ => ⟨g, h, ρ, _, m, re, ht, fun v H1 g1 h1 d e1 m1 r1 q1 => ?_⟩
  split at q1
  · rename_i fs
    cases r1 with
    | dat r1 =>
      have r1 := r1
      cases id r1 with
      | ins hH hN hl s =>
        refine ⟨_, _, _, rfl, hH, insN_miss hx, g1, h1, ρ, _, m1, re.ext e1 m, q1, fun vs H2 g2 h2 as e2 m2 r2 q2 => ?_⟩
        show cHF _ _ _ (_ :: (vs ++ [])) H2 Q E0
        rw [List.append_nil]
        split at q2
        · rename_i ds hd
          have ead := datL_eq hd
          subst ead
          refine ⟨⟨g2.N, []⟩, [], (.ins fs :: ds).map .dat, (fun d _ => R (.dat d) h2), m2.none, RVs.dats (g := ⟨g2.N, []⟩) (RVs.cons (r1.ext e2 m1) r2.dats), by simpa using q2.1, (by
            show (match ([] : AH), datL ((.ins fs :: ds).map .dat) with | [], some ds => F ds _ | _, _ => False)
            rw [datL_map]; exact q2.2), fun v H3 N' d hs' e3 m3 r3 q3 => ?_⟩
          have e4 := back_ext (g := g2) (io := []) (fun a x => by cases x) e3
          have hz : hs' = [] := by
            have := m3.len
            cases hs' with
            | nil => rfl
            | cons _ _ => simp at this
          subst hz
          exact kk _ _ ⟨N', g2.io⟩ h2 (.dat d) ((e1.trans e2 m.sub).trans e4 m.sub) (m2.back0 e3 m3) (.dat r3) q3
        · cases q2
  · cases q1

/-! ### a def does F -/
/-- what a def gives back: a tree, or a list of its own that nobody changes any more -/
def fz (n : Nat) (h : AH) : AV → Option D
  | .dat d => some d
  | .ref j => if n ≤ j then (match h[j]? with | some (.lst ds) => some (.lst ds) | _ => none) else none
def clO (n : Nat) : AO → Bool
  | .ins fs => fs.all fun f => match f.2 with | .ref j => decide (j < n) | _ => true
  | _ => true
def startA (N : List Str) (as : List AV) : En := as.map some ++ List.replicate (N.length - as.length) none
theorem RAs.length {W : Wo} {g : Gh} {H : Hp} : ∀ {as : List AV} {vs : List V}, RAs W g H as vs → as.length = vs.length
  | _, _, .nil => rfl
  | _, _, .cons _ q => by rw [List.length_cons, List.length_cons, RAs.length q]
theorem RE.start {W : Wo} {g : Gh} {H : Hp} {N : List Str} {as : List AV} {vs : List V} (r : RAs W g H as vs) : RE W g H (startA N as) (start N vs) := by
  have hl : as.length = vs.length := by
    induction r with
    | nil => rfl
    | cons _ _ ih => rw [List.length_cons, List.length_cons, ih]
  refine ⟨by unfold startA L2.start; simp [hl], fun i d q => ?_⟩
  unfold startA at q
  unfold L2.start
  by_cases hi : i < as.length
  · rw [List.getElem?_append_left (by simpa using hi), List.getElem?_map] at q
    rw [List.getElem?_append_left (by simpa [← hl] using hi), List.getElem?_map]
    clear hl
    induction r generalizing i with
    | nil => simp at hi
    | cons r _ ih =>
      cases i with
      | zero => simp at q; subst q; exact ⟨_, rfl, r⟩
      | succ i =>
        obtain ⟨v, h1, h2⟩ := ih i (by simpa using q) (by simpa using hi)
        exact ⟨v, by simpa using h1, h2⟩
  · rw [List.getElem?_append_right (by simpa using hi), List.getElem?_replicate] at q
    split at q <;> cases q
/-- the end of a def: n changing objects were handed in -/
def finA (n : Nat) (R : D → AH → Prop) (v : AV) (h : AH) : Prop := ∃ d, fz n h v = some d ∧ (h.take n).all (clO n) = true ∧ R d (h.take n)
theorem RFs.cut {W : Wo} {N : NS} {io more : List Addr} {H : Hp} : ∀ {d : List (Str × AV)} {v : List (Str × V)}, RFs W ⟨N, io ++ more⟩ H d v → (d.all fun f => match f.2 with | .ref j => decide (j < io.length) | _ => true) = true → RFs W ⟨N, io⟩ H d v
  | _, _, .nil, _ => .nil
  | (k, a) :: d, _, .cons r q, c => by
    rw [List.all_cons, Bool.and_eq_true] at c
    refine .cons ?_ (RFs.cut q c.2)
    cases r with
    | dat r => exact .dat r
    | ref r =>
      rename_i j b
      have hj : j < io.length := by simpa using c.1
      refine .ref ?_
      have r' : (io ++ more)[j]? = some b := r
      rwa [List.getElem?_append_left hj] at r'
theorem fin_end {W : Wo} {g g' : Gh} {hs h' : AH} {H H' : Hp} {R : D → AH → Prop} {v : AV} {u : V} (m : MH W g hs H) (e : Ext g H g' H') (m' : MH W g' h' H') (r : RA W g' H' v u) (f : finA hs.length R v h') :
    ∃ N' d hs', Ext g H ⟨N', g.io⟩ H' ∧ MH W ⟨N', g.io⟩ hs' H' ∧ RV W N' H' d u ∧ R d hs' := by
  obtain ⟨d, hd, hc, hR⟩ := f
  obtain ⟨more, hio⟩ := e.pre
  have hl : g.io.length = hs.length := m.len
  have hl' : g'.io.length = h'.length := m'.len
  -- any N' that holds what was there
  have mk : ∀ (N' : NS), (∀ a, g.N a → N' a) → (∀ a, N' a → g'.N a) → Ext g H ⟨N', g.io⟩ H' ∧ MH W ⟨N', g.io⟩ (h'.take hs.length) H' := fun N' h1 h2 => by
    refine ⟨⟨⟨[], by simp⟩, h1, fun a x => e.new a (h2 a x), fun a x => .inl x, e.fr⟩, ?_⟩
    have lt : hs.length ≤ h'.length := by rw [← hl, ← hl', hio]; simp
    refine ⟨by rw [List.length_take, hl]; omega, m.nd, fun a x => h1 a (m.sub a x), fun a x => m'.nn a (h2 a x), fun n a o e1 e2 => ?_⟩
    have hn : n < hs.length := by rw [← hl]; exact (List.getElem?_eq_some_iff.mp e1).1
    rw [List.getElem?_take_of_lt hn] at e2
    have e1' : g'.io[n]? = some a := by rw [hio, List.getElem?_append_left (by rw [hl]; exact hn)]; exact e1
    have ro := m'.obj n a o e1' e2
    have ks : ∀ a o, H' a = some o → ¬ g'.N a → H' a = some o ∧ ¬ N' a := fun a o q z => ⟨q, fun y => z (h2 a y)⟩
    have hcl : clO hs.length o = true := by
      refine List.all_eq_true.mp hc o ?_
      refine List.mem_of_getElem? (i := n) ?_
      rw [List.getElem?_take_of_lt hn]; exact e2
    cases o with
    | lst ds => obtain ⟨xs, q, z⟩ := ro; exact ⟨xs, q, RVs.mono ks _ _ z⟩
    | dK kvs => obtain ⟨xs, q, z⟩ := ro; exact ⟨xs, q, z.mono ks⟩
    | dN kk =>
      obtain ⟨xs, q, z1, z2, z3, z⟩ := ro
      refine ⟨xs, q, z1, z2, z3, fun x hx => ?_⟩
      obtain ⟨d, y1, y2⟩ := z x hx
      exact ⟨d, y1, RV.mono ks _ _ y2⟩
    | ins fs =>
      obtain ⟨dx, ys, q, z⟩ := ro
      refine ⟨dx, ys, q, ?_⟩
      have z' : RFs W ⟨g'.N, g.io ++ more⟩ H' fs ys := by rw [← hio]; exact z
      have z2 := RFs.cut z' (by rw [hl]; exact hcl)
      exact RFs.mono (g := ⟨g'.N, g.io⟩) (g1 := ⟨N', g.io⟩) ks (fun _ _ q => q) z2
  cases v with
  | dat d0 =>
    cases hd
    obtain ⟨e1, m1⟩ := mk g'.N e.sub fun _ x => x
    exact ⟨g'.N, d, _, e1, m1, r.inv_dat, hR⟩
  | ref j =>
    simp only [fz] at hd
    split at hd
    · rename_i hj
      split at hd
      · rename_i ds hq
        cases hd
        obtain ⟨a, rfl, ha⟩ := r.inv_ref
        obtain ⟨xs, hH, s⟩ := m'.obj j a _ ha hq
        have hnew : H a = none := by
          rcases e.nw a (List.mem_of_getElem? ha) with z | z
          · exfalso
            obtain ⟨i, hi⟩ := List.getElem?_of_mem z
            have hi' : g'.io[i]? = some a := by rw [hio, List.getElem?_append_left (List.getElem?_eq_some_iff.mp hi).1]; exact hi
            obtain ⟨l1, g1⟩ := List.getElem?_eq_some_iff.mp hi'
            obtain ⟨l2, g2⟩ := List.getElem?_eq_some_iff.mp ha
            have : i = j := (List.getElem_inj m'.nd).mp (g1.trans g2.symm)
            have := (List.getElem?_eq_some_iff.mp hi).1
            omega
          · exact z
        have na : ¬ g.N a := m.nfresh hnew
        obtain ⟨e1, m1⟩ := mk (fun b => g'.N b ∧ b ≠ a) (fun b x => ⟨e.sub b x, fun z => na (z ▸ x)⟩) fun _ x => x.1
        exact ⟨_, _, _, e1, m1, .lst (.inl ⟨.inl hH, fun z => z.2 rfl⟩) (RVs.mono (fun b o q z => ⟨q, fun y => z y.1⟩) _ _ s), hR⟩
      · cases hd
    · cases hd
section
variable {P : Program} {w : World} {K : PySem.W.Frag} {mg : Str → Option Value} {base : Heap}
/-- the context of a def's body -/
abbrev DX (P : Program) (w : World) (K : PySem.W.Frag) (mg : Str → Option Value) (base : Heap) (N : List Str) (qual : Str) (st : Stmt) (f : Addr) (cdv : Value) (A : Around) (outer : List Env) (s : Shared) (H : Hp) (E : XK) : Cx :=
  (cxOf CX0 P w K mg base N qual (defScope st) f cdv A outer s H E).nox
theorem hf_of {x qual : Str} {st : Stmt} {f : Addr} {fd : FuncData} {N ps : List Str} {k : Nat} {C : Addr} {F : HFs} {t : AS} (G : Fun K x qual st f fd) (S : FnScope N ps (defScope st))
    (hbody : ∀ cdv A outer s H E, Room k (DX P w K mg base N qual st f cdv A outer s H E).A → MSs (DX P w K mg base N qual st f cdv A outer s H E) C (defBody st) t)
    (spec : ∀ as hs R, as.length = ps.length → F as hs R → t (fun _ h => finA hs.length R (.dat .non) h) (finA hs.length R) (startA N as) hs) :
    FnOk P w K mg base CX0 (k + 1) f fd ps (cHF ⟨P, w, K, C⟩ ps.length F) := by
  refine G.ok S (fun vs H Q E h => ?_) (fun cdv A outer s H vs Q E hr h => ?_)
  · obtain ⟨g, hs, as, R, m, r, hl, _⟩ := h
    rw [← hl]
    exact r.length.symm
  · obtain ⟨g, hs, as, R, m, r, hl, hF, kk⟩ := h
    refine ⟨_, hbody cdv A outer s H E hr, g, hs, startA N as, _, _, m, RE.start r, spec as hs R hl hF, fun σ' H' g' h' ρ' e m' re' q => ?_, fun v H' g' h' d e m' r' q => ?_⟩
    · obtain ⟨N', d, hs', e1, m1, r1, q1⟩ := fin_end (u := .non) m e m' (.dat .non) q
      exact kk _ _ N' d hs' e1 m1 r1 q1
    · obtain ⟨N', d', hs', e1, m1, r1, q1⟩ := fin_end m e m' r' q
      exact kk _ _ N' d' hs' e1 m1 r1 q1
end
end
end AL
end
section
set_option Elab.async false
set_option linter.all false
set_option maxRecDepth 100000
set_option maxHeartbeats 1000000
/-! AL8: tuples of changing objects, dicts of nested keys, lists or tuples walked, comprehensions of two loops, lists that a def makes. -/
namespace AL
open PySem PySem.Spec PyProof.Rows L2

section
variable {X : Cx} {C : Addr} {pos : Pos}
/-! ### a, b = x, y with cells -/
def sTAsg (n : Nat) (t : AA) (g : AGs) : AS := fun nx _ ρ h => t ρ h fun vs h1 => vs.length = n ∧ n ≤ sizeLine ∧ g vs ρ h1 nx
theorem ms_tasg {gs es : List Expr} {k1 k2 : Nat} {p1 p2 : Pos} {t : AA} {gt : AGs} {n : Nat} (hc : X.calm = true) (ha : MA X C es t) (hg : MGs X C gs gt)
    (hn : (assignEach gs X.env).length = n := by rfl) (hst : (assignEach gs X.env).findIdx? (·.1) = none := by rfl)
    (hs : swapsWithSole [.Tuple gs k1 p1] (.Tuple es k2 p2) pos.line X.env = pure false := by rfl) (hw : swappedStores [.Tuple gs k1 p1] (.Tuple es k2 p2) X.env = pure none := by rfl)
    (h1 : (assignEach [.Tuple gs k1 p1] X.env).map (·.2) = [assign (.Tuple gs k1 p1) X.env] := by rfl) : MS X C (.Assign [.Tuple gs k1 p1] (.Tuple es k2 p2) pos) (sTAsg n t gt) := by
  refine PS.imp (ps_asg (pe_tup ha) (pg_tup hc hg hn hst) hs hw h1) fun D σ H ⟨g, h, ρ, nx, rt, m, re, ht, kn, kr⟩ => ⟨g, h, ρ, _, m, re, ht, fun vs H1 g1 h1 ds e1 m1 r1 q1 => ?_⟩
  have hl := r1.length
  refine ⟨by rw [← hl, q1.1]; exact q1.2.1, fun p hp => ?_⟩
  have ex := Ext.laid (g := g1) (o := .tup vs) hp
  refine ⟨p, vs, rfl, SqT.of upd_same, by rw [← hl]; exact q1.1, g1, _, ρ, ds, nx, m1.laid hp, (re.ext e1 m).ext ex m1, r1.ext ex m1, q1.2.2, fun σ2 H2 g2 h2 ρ2 e2 => kn σ2 H2 g2 h2 ρ2 ((e1.trans ex m.sub).trans e2 m.sub)⟩

/-! ### a list or a tuple walked -/
def iAny (t : AT) : AI := fun ρ h S => t ρ h fun d h1 => match d with | .dat (.tup ds) => S ds h1 | .dat (.lst ds) => S ds h1 | _ => False
theorem mi_any {tg e : Expr} {t : AT} (he : ME X C e t) : MI X C tg e (iAny t) := by
  refine ⟨fun pins s σ H R I ⟨g, h, ρ, S, m, re, ht, k⟩ => ?_⟩
  refine thn (he.run pins s σ H _ I ⟨g, h, ρ, _, m, re, ht, fun v H1 g1 h1 d e1 m1 r1 q1 => (⟨g1, h1, d, e1, m1, r1, q1⟩ : ∃ g1 h1 d, Ext g H g1 H1 ∧ MH (wo X C) g1 h1 H1 ∧ RA (wo X C) g1 H1 d v ∧
    (match d with | .dat (.tup ds) => S ds h1 | .dat (.lst ds) => S ds h1 | _ => False))⟩) fun v s1 ⟨x, H1, I1, rx, g1, h1, d, e1, m1, r1, q1⟩ => ?_
  have fp : ∀ b ∈ [s1.heap.objs.size], FpOk X pins H1 b := fun b hb => by
    have e : b = s1.heap.objs.size := by simpa using hb
    subst e
    exact I1.fpOk (Nat.le_refl _) (I1.hok.fresh (Nat.le_refl _))
  split at q1
  · obtain ⟨a, xs, rfl, f, r⟩ := r1.inv_tup
    cases rx
    obtain ⟨its, rv, p, hz⟩ := I1.tuple f.sq
    refine wpAny_pyIter_tuple (show s1.heap.IsTuple a its.toArray from p) ?_
    exact ⟨s1.heap.objs.size, [s1.heap.objs.size], _, _, H1, rfl, I1.kept (t' := s1.toks) fun b o e => Heap.get?_push_of_some _ e, turn_tuple a _, ⟨_, Heap.get?_push_size _ rfl, rfl, rfl⟩, fp, k _ _ _ _ _ e1 m1 (it_tup (W := wo X C) m1 f r) q1⟩
  · obtain ⟨a, xs, rfl, f, r⟩ := r1.inv_lst
    cases rx
    obtain ⟨its, rv, p, hz⟩ := I1.list f.sq
    refine wpAny_pyIter_list p.isList ?_
    exact ⟨s1.heap.objs.size, [s1.heap.objs.size], _, _, H1, rfl, I1.kept (t' := s1.toks) fun b o e => Heap.get?_push_of_some _ e, turn_list a _, ⟨_, Heap.get?_push_size _ rfl, rfl, rfl⟩, fp, k _ _ _ _ _ e1 m1 (it_list (W := wo X C) m1 f r) q1⟩
  · cases q1

/-! ### keys of nested tuples -/
mutual
theorem nested_of {pins : List (Addr × Obj)} {σ : L2.St} {H : Hp} {s : Shared} {N : NS} (I : Inv X pins σ H s) : ∀ (d : D) (k : NestedKey) (x : V) (v : Value), toKey d = some k → RV (wo X C) N H d x → RelV x v → NestedIs s.heap k v
  | .non, _, _, _, e, r, rv => by cases e; cases r; cases rv; exact .none
  | .bl b, _, _, _, e, r, rv => by
    cases r
    obtain rfl : _ = Value.bool b := rv
    cases e
    exact .bool rfl
  | .int i, _, _, _, e, r, rv => by cases e; cases r; obtain ⟨t, rfl⟩ := rv; exact .int _ _
  | .str x, _, _, _, e, r, rv => by cases e; cases r; obtain ⟨t, rfl⟩ := rv; exact .text _ _
  | .tup ds, k, _, _, e, r, rv => by
    cases r with
    | tup f s =>
      unfold toKey at e
      split at e
      · rename_i ks hk
        cases e
        cases rv
        obtain ⟨its, r2, ⟨o, ho, hc, n, hd⟩, _⟩ := I.tuple f.sq
        exact .tup ho hc hd (by simpa using nesteds_of I ds ks _ its hk s r2)
      · cases e
  | .lst _, _, _, _, e, _, _ => by cases e
  | .dk _, _, _, _, e, _, _ => by cases e
  | .ins _, _, _, _, e, _, _ => by cases e
theorem nesteds_of {pins : List (Addr × Obj)} {σ : L2.St} {H : Hp} {s : Shared} {N : NS} (I : Inv X pins σ H s) : ∀ (d : List D) (k : List NestedKey) (x : List V) (v : List Value), toKeys d = some k → RVs (wo X C) N H d x → Vals x v → NestedAll s.heap k v
  | [], _, _, _, e, r, rv => by cases e; cases r; cases rv; exact .nil
  | d :: ds, k, _, _, e, r, rv => by
    cases r with
    | cons r1 r2 =>
      cases rv with
      | cons v1 v2 =>
        unfold toKeys at e
        split at e
        · rename_i k1 k2 e1 e2
          cases e
          exact .cons (nested_of I d k1 _ _ e1 r1 v1) (nesteds_of I ds k2 _ _ e2 r2 v2)
        · cases e
end
/-- a tracked dict of nested keys -/
theorem dn_of {pins : List (Addr × Obj)} {σ : L2.St} {H : Hp} {s : Shared} {N : NS} {a : Addr} {xs : List (NestedKey × Addr)} (I : Inv X pins σ H s) (e : H a = some (.ext (dnP (wo X C) a xs)))
    (hx : ∀ x ∈ xs, ∃ d, (toKey d = some x.1 ∧ x.1.depth ≤ 8) ∧ RV (wo X C) N H d (.ref x.2)) : s.heap.DictOfH (nestedKind X.prog X.w) a (xs.map fun x => (x.1, x.2, Value.bool true)) := by
  obtain ⟨⟨o, es, ep, h1, h2, h3, h4, h5⟩, _, _⟩ := I.hok a _ e
  refine ⟨o, es, ep, h1, h2, h3, h4, fun y hy => ?_, by simpa [List.map_map, Function.comp_def] using h5⟩
  obtain ⟨x, hm, rfl⟩ := List.mem_map.mp hy
  obtain ⟨d, ⟨k1, k2⟩, r⟩ := hx x hm
  exact ⟨nested_of I d _ _ _ k1 r rfl, k2⟩
theorem dn_at {h : Heap} {a : Addr} {xs : List (NestedKey × Addr)} {W : Wo} (d : h.DictOfH (nestedKind W.P W.w) a (xs.map fun x => (x.1, x.2, Value.bool true))) : dnP W a xs h := by
  obtain ⟨o, es, ep, h1, h2, h3, h4, _, h5⟩ := d
  exact ⟨o, es, ep, h1, h2, h3, h4, by simpa [List.map_map, Function.comp_def] using h5⟩
theorem dn_keep {W : Wo} {a : Addr} {xs : List (NestedKey × Addr)} : ∀ h1 h2 : Heap, dnP W a xs h1 → (∀ o, h1.get? a = some o → h2.get? a = some o) → dnP W a xs h2 := fun h1 h2 ⟨o, es, ep, q1, q⟩ k => ⟨o, es, ep, k _ q1, q⟩
theorem dn_ok {H : Hp} {h : Heap} {a : Addr} {xs : List (NestedKey × Addr)} (d : dnP (wo X C) a xs h) : ObjOk X.prog X.w H h a (.ext (dnP (wo X C) a xs)) := by
  obtain ⟨o, es, ep, q1, q⟩ := id d
  exact ⟨d, ⟨o, q1⟩, dn_keep⟩
theorem atKey_isSome {xs : List (NestedKey × Addr)} {k : NestedKey} : (atKey (xs.map fun x => (x.1, x.2, Value.bool true)) k).isSome = decide (k ∈ xs.map (·.1)) := by
  induction xs with
  | nil => rfl
  | cons x xs ih =>
    by_cases h : x.1 = k
    · simp [atKey, h]
    · have h2 : ¬ k = x.1 := fun e => h e.symm
      have e1 : atKey ((x :: xs).map fun x => (x.1, x.2, Value.bool true)) k = atKey (xs.map fun x => (x.1, x.2, Value.bool true)) k := by simp [atKey, List.find?_cons, h]
      rw [e1, ih]
      by_cases q : k ∈ xs.map (·.1)
      · rw [decide_eq_true q, decide_eq_true (by rw [List.map_cons]; exact List.mem_cons_of_mem _ q)]
      · rw [decide_eq_false q, decide_eq_false (by rw [List.map_cons]; exact fun z => (List.mem_cons.mp z).elim h2 q)]
/-- (the rule for == of keys asks room of eight levels) -/
def rInK (neg : Bool) : AR2 := fun d e h R => match d, e with
  | .dat (.tup ds), .ref n => (match h[n]?, toKey (.tup ds) with
    | some (.dN ks), some k => k.depth ≤ 8 ∧ R (.dat (.bl (if neg = true then !decide (k ∈ ks) else decide (k ∈ ks)))) h
    | _, _ => False)
  | _, _ => False
theorem o_notinK (hu : X.A.units + 64 < cLine) : OpR X (compareOp .NotIn) (cR2 (wo X C) (rInK true)) := by
  intro p s σ H x y v u Q I rx ry ⟨g, h, d, e, R, m, r1, r2, q, k⟩
  unfold rInK at q
  split at q
  · rename_i ds n
    split at q
    · rename_i ks kk hq hk
      obtain ⟨b, ys, rfl, f, sv⟩ := id r1.inv_tup
      obtain ⟨a, rfl, ha⟩ := r2.inv_ref
      obtain ⟨xs, hH, e1, e2, e3, e4⟩ := m.obj n a _ ha hq
      cases rx
      cases ry
      refine wpAny_notIn_heap (knd := nestedKind X.prog X.w) (show X.A.in1.units + 8 < cLine by rw [Around.in1_units]; omega) ⟨nested_of I _ _ _ _ hk r1.inv_dat rfl, q.1⟩ e3 (dn_of I hH e4) ?_
      rw [atKey_isSome, e1]
      exact ⟨.bl _, H, I.tok _, rfl, retD m (.bl _) q.2 k⟩
    · cases q
  · cases q
def setK : ASet := fun o i v h R => match o, i, v with
  | .ref n, .dat (.tup ds), .dat (.bl true) => (match h[n]?, toKey (.tup ds) with
    | some (.dN ks), some k => k.depth ≤ 8 ∧ k ∉ ks ∧ ks.length < sizeLine ∧ R (h.set n (.dN (ks ++ [k])))
    | _, _ => False)
  | _, _, _ => False
theorem p_setK (hu : X.A.units + 64 < cLine) : PSet X (cSet (wo X C) setK) := by
  intro p s σ H o i v ov iv u Q I ro ri rv ⟨g, h, d, e, f, R, m, r1, r2, r3, q, k⟩
  unfold setK at q
  split at q
  · rename_i n ds
    split at q
    · rename_i ks kk hq hk
      obtain ⟨q1, q2, q3, q4⟩ := q
      obtain ⟨a, rfl, ha⟩ := r1.inv_ref
      obtain ⟨b, ys, rfl, ff, sv⟩ := id r2.inv_tup
      obtain rfl := r3.inv_bl
      obtain ⟨xs, hH, e1, e2, e3, e4⟩ := m.obj n a _ ha hq
      cases ro
      cases ri
      obtain rfl : u = Value.bool true := rv
      have nk := nested_of I _ _ _ _ hk r2.inv_dat rfl
      have hl : xs.length = ks.length := by rw [← e1, List.length_map]
      have hnone : atKey (xs.map fun x => (x.1, x.2, Value.bool true)) kk = none := by
        have h1 := atKey_isSome (xs := xs) (k := kk)
        rw [e1, decide_eq_false q2] at h1
        cases h2 : atKey (xs.map fun x => (x.1, x.2, Value.bool true)) kk with
        | none => rfl
        | some z => rw [h2] at h1; cases h1
      refine wpAny_setItem_heap (knd := nestedKind X.prog X.w) (hsz := by rw [List.length_map, hl]; omega) (show X.A.in1.units + 8 < cLine by rw [Around.in1_units]; omega) ⟨nk, q1⟩ (dn_of I hH e4) fun h' dd hs => ?_
      rw [storedH_new hnone] at dd
      have dd' : h'.DictOfH (nestedKind X.prog X.w) a ((xs ++ [(kk, b)]).map fun x => (x.1, x.2, Value.bool true)) := by simpa using dd
      have hd := dn_at (W := wo X C) dd'
      obtain ⟨o, es, ep, z1, z⟩ := id hd
      refine ⟨_, d_write (t' := s.toks + kk.draws) (ob := .ext (dnP (wo X C) a (xs ++ [(kk, b)]))) I (by rw [hH]; exact True.intro) hs ⟨o, z1⟩ (dn_ok hd), ?_⟩
      have e := Ext.wr (g := g) (H := H) (o := .ext (dnP (wo X C) a (xs ++ [(kk, b)]))) ha
      refine k _ g _ e (m.wr (ao := .dN (ks ++ [kk])) ha ⟨xs ++ [(kk, b)], upd_same, by simp [e1], by rw [List.length_append, hl]; simp; omega, e3, fun x hx => ?_⟩) q4
      rcases List.mem_append.mp hx with hx | hx
      · obtain ⟨d, z1, z2⟩ := e4 x hx
        exact ⟨d, z1, z2.ext e m⟩
      · rw [List.mem_singleton.mp hx]
        exact ⟨_, ⟨hk, q1⟩, (r2.ext e m).inv_dat⟩
    · cases q
  · cases q
/-- {k: True} -/
def eDKey1 (tk : AT) : AT := fun ρ h R => tk ρ h fun d h1 => match d with
  | .dat (.tup ds) => (match toKey (.tup ds) with | some k => k.depth ≤ 8 ∧ R (.ref h1.length) (h1 ++ [.dN [k]]) | none => False)
  | _ => False
theorem me_dkey1 {e : Expr} {j} {pb : Pos} {tk : AT} (hu : X.A.units + 64 < cLine) (he : ME X C e tk) : ME X C (.Dict [some e] [.Constant (.bool true) j pb] pos) (eDKey1 tk) := by
  refine ⟨fun pins s σ H Q I ⟨g, h, ρ, R, m, re, ht, k⟩ => ?_⟩
  have hn := I.hok.fresh (Nat.le_refl s.heap.objs.size)
  have hbig := I.big
  have I1 := I.laid (a := s.heap.objs.size) (o := .dK []) (h' := s.heap.push { cls := .type "dict", data := .dict #[] }) (t' := s.toks) (fun _ _ q => Heap.get?_push_of_some _ q) (Nat.le_refl _) (dk_empty s.heap I.big)
  generalize hL : s.heap.objs.size = L at hn I1
  obtain ⟨e0, m0, n0, i0⟩ := grow_start m hn (.dK [])
  have hz := zip_pairTrees [some e] [.Constant (.bool true) j pb] X.env pos rfl rfl
  have hl1 := pairTrees_length [some e] [.Constant (.bool true) j pb] X.env pos rfl rfl
  have hle : ([some e] : List (Option Expr)).length = 1 := rfl
  rw [hle] at hl1
  rw [arm_eval_Dict, hz, dictDisplay_pairs (pairTrees [some e] [.Constant (.bool true) j pb] X.env pos) (by intro z; rw [z] at hl1; cases hl1) (by omega)]
  refine wpAny_bind (wpAny_standAt (wpAny_bind (wpAny_subDictH (knd := nestedKind X.prog X.w) (show X.A.units + 8 < cLine by omega) (by omega) ?_)))
  refine pairTrees_cons_walk (thn (he.run pins _ σ _ _ I1 ⟨g.hide L, h, ρ, _, m0, re.ext e0 m, ht, fun v H1 g1 h1 d e1 m1 r1 q1 => (⟨g1, h1, d, e1, m1, r1, q1⟩ : ∃ g1 h1 d, Ext (g.hide L) (upd H L (.dK [])) g1 H1 ∧ MH (wo X C) g1 h1 H1 ∧ RA (wo X C) g1 H1 d v ∧
    (match d with | .dat (.tup ds) => (match toKey (.tup ds) with | some k => k.depth ≤ 8 ∧ R (.ref h1.length) (h1 ++ [.dN [k]]) | none => False) | _ => False))⟩) fun v s1 ⟨x, H1, I2, rx, g1, h1, d, e1, m1, r1, q1⟩ => ?_)
  refine thn (pe_bl.run pins s1 σ H1 (fun v H => v = .bl true ∧ H = H1) I2 ⟨rfl, rfl⟩) fun v2 s2 ⟨x2, H2, I3, rx2, ex2, eH⟩ => ?_
  subst eH
  subst ex2
  obtain rfl : v2 = Value.bool true := rx2
  refine pairTrees_nil_walk ?_
  split at q1
  · rename_i ds
    split at q1
    · rename_i kk hk
      obtain ⟨b, ys, rfl, ff, sv⟩ := id r1.inv_tup
      cases rx
      have nk := nested_of I3 _ _ _ _ hk r1.inv_dat rfl
      have e02 := e1
      have hD : H2 L = some (.dK []) := e02.fr L _ upd_same i0
      have n2 : g1.N L := e02.sub L n0
      have i2 : L ∉ g1.io := fun z => by
        rcases e02.nw L z with y | y
        · exact i0 y
        · rw [upd_same] at y; cases y
      obtain ⟨zl, hd, vs0, r0, dd⟩ := dk_of I3.hok hD
      cases r0
      have dd0 : s2.heap.DictOfH (nestedKind X.prog X.w) L [] := by
        obtain ⟨o, es, ep, q1, q2, q3, q4, q5, q6⟩ := dd
        refine ⟨o, es, ep, q1, q2, q3, ?_, fun _ hx => by simp at hx, .nil⟩
        generalize hes : es.toList = l at q5 ⊢
        cases l with
        | nil => rfl
        | cons _ _ => first | exact q5.elim | cases q5
      refine ⟨[(kk, b, Value.bool true)], ⟨rfl, rfl, ⟨nk, q1.1⟩, True.intro⟩, by rw [hL]; exact dd0, fun h' tk dk hs => wpAny_pure ?_⟩
      rw [hL] at dk hs ⊢
      have dk' : h'.DictOfH (nestedKind X.prog X.w) L ([(kk, b)].map fun x => (x.1, x.2, Value.bool true)) := dk
      have hdn := dn_at (W := wo X C) dk'
      obtain ⟨o, es, ep, z1, z⟩ := id hdn
      have ebig : (L == sysModules) = false := beq_eq_false_iff_ne.mpr (by rw [← hL]; exact Nat.ne_of_gt hbig)
      refine ⟨.ref L, _, d_write (t' := tk) (ob := .ext (dnP (wo X C) L [(kk, b)])) I3 (by rw [hD]; exact True.intro) hs ⟨o, z1⟩ (dn_ok hdn), rfl, ?_⟩
      -- the new dict is known from now on
      have e3 : Ext g H ⟨g1.N, g1.io ++ [L]⟩ (upd H2 L (.ext (dnP (wo X C) L [(kk, b)]))) := by
        have e4 := e0.trans e1 m.sub
        refine ⟨?_, e4.sub, e4.new, fun a x => ?_, fun a u q z => by rw [upd_ne (ne_of_none q hn)]; exact e4.fr a u q z⟩
        · obtain ⟨more, q⟩ := e4.pre
          exact ⟨more ++ [L], by show g1.io ++ [L] = _; rw [q, List.append_assoc]⟩
        · rcases List.mem_append.mp x with x | x
          · exact e4.nw a x
          · exact .inr (by rw [List.mem_singleton.mp x]; exact hn)
      have kk2 : ∀ a u, H2 a = some u → ¬ g1.N a → upd H2 L (.ext (dnP (wo X C) L [(kk, b)])) a = some u ∧ ¬ g1.N a := fun a u q n => ⟨by rw [upd_ne (show a ≠ L from fun z => n (by rw [z]; exact n2))]; exact q, n⟩
      have m3 : MH (wo X C) ⟨g1.N, g1.io ++ [L]⟩ (h1 ++ [.dN [kk]]) (upd H2 L (.ext (dnP (wo X C) L [(kk, b)]))) := by
        refine ⟨by simp [m1.len], ?_, fun a x => ?_, fun a x => ?_, fun n a o' q1' q2' => ?_⟩
        · show (g1.io ++ [L]).Nodup
          rw [List.nodup_append]
          exact ⟨m1.nd, by simp, fun a ha b hb => by rw [List.mem_singleton.mp hb]; exact fun e => i2 (e ▸ ha)⟩
        · rcases List.mem_append.mp x with x | x
          · exact m1.sub a x
          · rw [List.mem_singleton.mp x]; exact n2
        · by_cases q : a = L
          · exact ⟨_, by rw [q, upd_same]⟩
          · obtain ⟨u, z⟩ := m1.nn a x
            exact ⟨u, by rw [upd_ne q]; exact z⟩
        · have q1' : (g1.io ++ [L])[n]? = some a := q1'
          by_cases hlt : n < g1.io.length
          · rw [List.getElem?_append_left hlt] at q1'
            rw [List.getElem?_append_left (by rw [← m1.len]; exact hlt)] at q2'
            have hne : a ≠ L := fun z => i2 (z ▸ List.mem_of_getElem? q1')
            exact (m1.obj n a o' q1' q2').mono kk2 (fun i c q => by
              show (g1.io ++ [L])[i]? = some c
              rw [List.getElem?_append_left (List.getElem?_eq_some_iff.mp q).1]; exact q) fun u q => by rw [upd_ne hne]; exact q
          · rw [List.getElem?_append_right (by omega)] at q1'
            rw [List.getElem?_append_right (by rw [← m1.len]; omega)] at q2'
            have z0 : n - g1.io.length = 0 := by
              cases q : n - g1.io.length with
              | zero => rfl
              | succ k => rw [q] at q1'; simp at q1'
            rw [z0] at q1'
            rw [← m1.len, z0] at q2'
            simp at q1' q2'
            subst q1' q2'
            refine ⟨[(kk, b)], upd_same, rfl, by rw [sizeLine_eq]; simp, ebig, fun x hx => ?_⟩
            rw [List.mem_singleton.mp hx]
            exact ⟨_, ⟨hk, q1.1⟩, RV.mono kk2 _ _ r1.inv_dat⟩
      refine k _ _ _ _ (.ref h1.length) e3 m3 (.ref ?_) q1.2
      show (g1.io ++ [L])[h1.length]? = some L
      rw [← m1.len]; simp
    · cases q1
  · cases q1
end
end AL
end
section
set_option Elab.async false
set_option linter.all false
set_option maxRecDepth 100000
set_option maxHeartbeats 1000000
/-! AL9: dict(zip(list, tuple)), zip of tuples, a comprehension with two for. -/
namespace AL
open PySem PySem.Spec PyProof.Rows L2

section
variable {prog : Program} {w : World} {A : Around} {E : Value → Shared → Prop} {s : Shared} {z TI TO T i1 i2 : Addr} {fp1 fp2 : List Addr} {n1 n2 i : Nat} {P1 P2 : Nat → Value → Prop} {St1 St2 : Nat → Heap → Prop} {a1 a2 : Value} {f : Bool} {oT : Obj}
theorem zipH_item {Q : Value → Shared → Prop} (S : ZipSep2 z TI TO i1 i2 fp1 fp2) (D1 : Draws prog w A i1 fp1 n1 P1 St1) (D2 : Draws prog w A i2 fp2 n2 P2 St2)
    (hz : IsZipHeld s.heap z TI TO T f) (hT : s.heap.get? T = some oT) (hTI : IsTupOf2 s.heap TI (.ref i1) (.ref i2)) (st1 : St1 i s.heap) (st2 : St2 i s.heap) (hlt1 : i < n1) (hlt2 : i < n2)
    (hQ : ∀ x1 x2 h' tk, P1 i x1 → P2 i x2 → IsZipHeld h' z TI TO T true → St1 (i + 1) h' → St2 (i + 1) h' → IsTupOf2 h' s.heap.objs.size x1 x2 → h'.objs.size = s.heap.objs.size + 1 →
      (∀ c o, c ≠ z → c ≠ i1 → c ≠ i2 → s.heap.get? c = some o → h'.get? c = some o) → Q (.ref s.heap.objs.size) { s with heap := h', toks := tk }) :
    wpAny (model prog w) A (Builtin.«zip.__next__» ⟨[.ref z], []⟩) (fun fin s' => ∃ v, fin = .done (.ret v) ∧ Q v s') E s := by
  obtain ⟨hp, g, d, tk0, os⟩ := s
  show wpAny _ _ (field (.ref z) 2 >>= _) _ _ _
  refine wpAny_bind (wpAny_field hz rfl (x := .bool false) rfl ?_)
  show wpAny _ _ (field (.ref z) 3 >>= _) _ _ _
  refine wpAny_bind (wpAny_field hz rfl (x := .ref TI) rfl ?_)
  refine wpAny_bind (wpAny_seqItems hTI rfl ?_)
  show wpAny _ _ (Builtin.SmallTypes.ownedTupleIsFree (.ref z) >>= _) _ _ _
  refine wpAny_bind (wpAny_tupleHeld_zip hz hT fun g0 hz0 hs0 => ?_)
  replace hs0 : Heap.SameBut z hp g0 := hs0
  simp only [Bool.false_eq_true, if_false]
  refine wpAny_bind ?_
  rw [← Array.forIn_toList]
  simp only [List.forIn_cons, List.forIn_nil]
  refine wpAny_bind (wpAny_bind (wpAny_holding ?_))
  show wpAny _ _ (Builtin.SmallTypes.nextOf (.ref i1) >>= _) _ _ ⟨g0, g, d, tk0, os⟩
  refine wpAny_bind (D1.item i _ _ _ hlt1 (D1.over st1 hs0 S.zf1) fun x1 p1 tk1 hx1 sn1 hp1 => wpAny_pure ?_)
  replace hp1 : Heap.SameBut i1 g0 p1 := hp1
  refine wpAny_pure ?_
  refine wpAny_bind (wpAny_bind (wpAny_holding ?_))
  show wpAny _ _ (Builtin.SmallTypes.nextOf (.ref i2) >>= _) _ _ ⟨p1, g, d, tk1, os⟩
  refine wpAny_bind (D2.item i _ _ _ hlt2 (D2.over (D2.over st2 hs0 S.zf2) hp1 S.sep1_2) fun x2 p2 tk2 hx2 sn2 hp2 => wpAny_pure ?_)
  replace hp2 : Heap.SameBut i2 p1 p2 := hp2
  refine wpAny_pure (wpAny_pure ?_)
  show wpAny _ _ (newTuple [x1, x2] >>= _) _ _ _
  refine wpAny_bind (wpAny_newTuple ?_)
  have hsz : p2.objs.size = hp.objs.size := by rw [hp2.1, hp1.1, hs0.1]
  have hz3 : IsZipHeld p2 z TI TO T true := hp2.extBut _ _ S.zi2 (hp1.extBut _ _ S.zi1 hz0)
  have hk : ∀ c o, c ≠ z → c ≠ i1 → c ≠ i2 → hp.get? c = some o → p2.get? c = some o := fun c o c1 c2 c3 e => hp2.extBut _ _ c3 (hp1.extBut _ _ c2 (hs0.extBut _ _ c1 e))
  refine wpAny_pure ⟨_, rfl, ?_⟩
  have hpp : IsTupOf2 (p2.push { cls := .type "tuple", data := .seq #[x1, x2] }) p2.objs.size x1 x2 := Heap.get?_push_size _ rfl
  have hz4 : (p2.push { cls := .type "tuple", data := .seq #[x1, x2] }).objs.size = p2.objs.size + 1 := Heap.size_push ..
  show Q (.ref p2.objs.size) _
  rw [hsz] at hpp hz4 ⊢
  have up : ∀ c o, p2.get? c = some o → (p2.push { cls := .type "tuple", data := .seq #[x1, x2] }).get? c = some o := fun c o e => Heap.get?_push_of_some _ e
  exact hQ x1 x2 _ tk2 hx1 hx2 (up _ _ hz3) (D1.frame _ _ _ (D1.over sn1 hp2 S.sep2_1) fun b _ o e => up b o e) (D2.frame _ _ _ sn2 fun b _ o e => up b o e) hpp hz4 fun c o c1 c2 c3 e => up c o (hk c o c1 c2 c3 e)
theorem zipH_end {Q : Fin → Shared → Prop} (S : ZipSep2 z TI TO i1 i2 fp1 fp2) (D1 : Draws prog w A i1 fp1 n1 P1 St1) (D2 : Draws prog w A i2 fp2 n2 P2 St2)
    (hz : IsZipHeld s.heap z TI TO T f) (hT : s.heap.get? T = some oT) (hTI : IsTupOf2 s.heap TI (.ref i1) (.ref i2)) (st1 : St1 i s.heap) (st2 : St2 i s.heap) (hle1 : i ≤ n1) (hle2 : i ≤ n2) (hend : i = n1 ∨ i = n2)
    (hE : ∀ h' tk e, (∀ c o, c ≠ z → c ≠ i1 → c ≠ i2 → s.heap.get? c = some o → h'.get? c = some o) → (∃ o, h'.get? e = some o ∧ o.cls = .type "StopIteration") → E (.ref e) { s with heap := h', toks := tk }) :
    wpAny (model prog w) A (Builtin.«zip.__next__» ⟨[.ref z], []⟩) Q E s := by
  obtain ⟨hp, g, d, tk0, os⟩ := s
  show wpAny _ _ (field (.ref z) 2 >>= _) _ _ _
  refine wpAny_bind (wpAny_field hz rfl (x := .bool false) rfl ?_)
  show wpAny _ _ (field (.ref z) 3 >>= _) _ _ _
  refine wpAny_bind (wpAny_field hz rfl (x := .ref TI) rfl ?_)
  refine wpAny_bind (wpAny_seqItems hTI rfl ?_)
  show wpAny _ _ (Builtin.SmallTypes.ownedTupleIsFree (.ref z) >>= _) _ _ _
  refine wpAny_bind (wpAny_tupleHeld_zip hz hT fun g0 hz0 hs0 => ?_)
  replace hs0 : Heap.SameBut z hp g0 := hs0
  simp only [Bool.false_eq_true, if_false]
  refine wpAny_bind ?_
  rw [← Array.forIn_toList]
  simp only [List.forIn_cons, List.forIn_nil]
  refine wpAny_bind (wpAny_bind (wpAny_holding ?_))
  show wpAny _ _ (Builtin.SmallTypes.nextOf (.ref i1) >>= _) _ _ ⟨g0, g, d, tk0, os⟩
  by_cases hlt1 : i < n1
  · refine wpAny_bind (D1.item i _ _ _ hlt1 (D1.over st1 hs0 S.zf1) fun x1 p1 tk1 hx1 sn1 hp1 => wpAny_pure ?_)
    replace hp1 : Heap.SameBut i1 g0 p1 := hp1
    have hi2 : i = n2 := by omega
    refine wpAny_pure ?_
    refine wpAny_bind (wpAny_bind (wpAny_holding ?_))
    show wpAny _ _ (Builtin.SmallTypes.nextOf (.ref i2) >>= _) _ _ ⟨p1, g, d, tk1, os⟩
    refine wpAny_bind (D2.done ⟨p1, g, d, tk1, os⟩ _ _ (by rw [← hi2]; exact D2.over (D2.over st2 hs0 S.zf2) hp1 S.sep1_2) fun q e hq he => ?_)
    exact hE q tk1 e (fun c o cz c1 c2 x => hq _ _ c2 (hp1.extBut _ _ c1 (hs0.extBut _ _ cz x))) he
  · have hi1 : i = n1 := by omega
    refine wpAny_bind (D1.done ⟨g0, g, d, tk0, os⟩ _ _ (by rw [← hi1]; exact D1.over st1 hs0 S.zf1) fun q e hq he => ?_)
    exact hE q tk0 e (fun c o cz c1 c2 x => hq _ _ c1 (hs0.extBut _ _ cz x)) he
theorem nextH_item {Q : Option Value → Shared → Prop} (S : ZipSep2 z TI TO i1 i2 fp1 fp2) (D1 : Draws prog w A.in1 i1 fp1 n1 P1 St1) (D2 : Draws prog w A.in1 i2 fp2 n2 P2 St2)
    (hz : IsZipHeld s.heap z TI TO T f) (hT : s.heap.get? T = some oT) (hTI : IsTupOf2 s.heap TI (.ref i1) (.ref i2)) (st1 : St1 i s.heap) (st2 : St2 i s.heap) (hlt1 : i < n1) (hlt2 : i < n2)
    (hQ : ∀ x1 x2 h' tk, P1 i x1 → P2 i x2 → IsZipHeld h' z TI TO T true → St1 (i + 1) h' → St2 (i + 1) h' → IsTupOf2 h' s.heap.objs.size x1 x2 → h'.objs.size = s.heap.objs.size + 1 →
      (∀ c o, c ≠ z → c ≠ i1 → c ≠ i2 → s.heap.get? c = some o → h'.get? c = some o) → Q (some (.ref s.heap.objs.size)) { s with heap := h', toks := tk }) :
    wpAny (model prog w) A (pyNext (.ref z)) Q E s := by
  have hTy : s.TypeIs (.ref z) "zip" := ⟨_, hz, rfl⟩
  unfold pyNext
  exact wpAny_bind (wpAny_attempt (wpAny_callSpecial?_slot (name := Str.ofString "__next__") hTy F.slot_zip_next
    (wpAny_call_entry F.slot_zip_next hTy F.entry_zip_next
      (zipH_item S D1 D2 hz hT hTI st1 st2 hlt1 hlt2 fun x1 x2 h' tk y1 y2 b1 d1 d2 b5 b6 b7 => wpAny_pure (hQ x1 x2 h' tk y1 y2 b1 d1 d2 b5 b6 b7)) (F.args_zip_next_1 _))))
theorem nextH_end {Q : Option Value → Shared → Prop} (S : ZipSep2 z TI TO i1 i2 fp1 fp2) (D1 : Draws prog w A.in1 i1 fp1 n1 P1 St1) (D2 : Draws prog w A.in1 i2 fp2 n2 P2 St2)
    (hz : IsZipHeld s.heap z TI TO T f) (hT : s.heap.get? T = some oT) (hTI : IsTupOf2 s.heap TI (.ref i1) (.ref i2)) (st1 : St1 i s.heap) (st2 : St2 i s.heap) (hle1 : i ≤ n1) (hle2 : i ≤ n2) (hend : i = n1 ∨ i = n2)
    (hQ : ∀ h' tk, (∀ c o, c ≠ z → c ≠ i1 → c ≠ i2 → s.heap.get? c = some o → h'.get? c = some o) → Q none { s with heap := h', toks := tk }) : wpAny (model prog w) A (pyNext (.ref z)) Q E s := by
  have hTy : s.TypeIs (.ref z) "zip" := ⟨_, hz, rfl⟩
  unfold pyNext
  refine wpAny_bind (wpAny_attempt (wpAny_callSpecial?_slot (name := Str.ofString "__next__") hTy F.slot_zip_next
    (wpAny_call_entry F.slot_zip_next hTy F.entry_zip_next (zipH_end S D1 D2 hz hT hTI st1 st2 hle1 hle2 hend fun h' tk e hk he => ?_) (F.args_zip_next_1 _))))
  obtain ⟨o, ho, hc⟩ := he
  refine wpAny_bind (wpAny_isInstance (T := "StopIteration") (b := true) ⟨o, ho, hc⟩ isSubtype_stop ?_)
  exact wpAny_pure (hQ _ _ hk)
end
/-- zip over two iterators of any kind as the argument of dict -/
theorem pairZip {prog : Program} {w : World} (z TI TO i1 i2 : Addr) (fp1 fp2 : List Addr) (n1 n2 : Nat) (P1 P2 : Nat → Value → Prop) (St1 St2 : Nat → Heap → Prop) (S : ZipSep2 z TI TO i1 i2 fp1 fp2)
    (D1 : ∀ A : Around, A.handled = none → Draws prog w A i1 fp1 n1 P1 St1) (D2 : ∀ A : Around, A.handled = none → Draws prog w A i2 fp2 n2 P2 St2)
    (K1 : ∀ i h h', St1 i h → (∀ b o, h.get? b = some o → h'.get? b = some o) → St1 i h') (K2 : ∀ i h h', St2 i h → (∀ b o, h.get? b = some o → h'.get? b = some o) → St2 i h')
    (L1 : ∀ i h, St1 i h → ∀ b ∈ fp1, ∃ o, h.get? b = some o) (L2 : ∀ i h, St2 i h → ∀ b ∈ fp2, ∃ o, h.get? b = some o) :
    PairArg prog w "zip" z (z :: TI :: TO :: (fp1 ++ fp2)) [z, TO, i1, i2] (min n1 n2) (fun i k v => P1 i k ∧ P2 i v)
      (fun h => IsZip h z TI TO .none ∧ IsTupOf2 h TI (.ref i1) (.ref i2) ∧ (∃ a b, IsTupOf2 h TO a b) ∧ St1 0 h ∧ St2 0 h) where
  type := fun s ok => ⟨_, ok.1, rfl⟩
  notDict := by decide
  keep := fun h h' ok hk => by
    obtain ⟨hz, hTI, ⟨a, b, hTO⟩, h1, h2⟩ := ok
    exact ⟨hk _ _ hz, hk _ _ hTI, ⟨a, b, hk _ _ hTO⟩, K1 _ _ _ h1 hk, K2 _ _ _ h2 hk⟩
  there := fun h ok b hb => by
    obtain ⟨hz, hTI, ⟨a, c, hTO⟩, h1, h2⟩ := ok
    simp only [List.mem_cons, List.mem_append] at hb
    rcases hb with rfl | rfl | rfl | hb | hb
    · exact ⟨_, hz⟩
    · exact ⟨_, hTI⟩
    · exact ⟨_, hTO⟩
    · exact L1 _ _ h1 b hb
    · exact L2 _ _ h2 b hb
  sub := fun c hc => by
    have hc' : c = z ∨ c = TO ∨ c = i1 ∨ c = i2 := by simpa using hc
    rcases hc' with rfl | rfl | rfl | rfl
    · exact List.mem_cons_self ..
    · exact List.mem_cons_of_mem _ (List.mem_cons_of_mem _ (List.mem_cons_self ..))
    · exact List.mem_cons_of_mem _ (List.mem_cons_of_mem _ (List.mem_cons_of_mem _ (List.mem_append_left _ S.mem1)))
    · exact List.mem_cons_of_mem _ (List.mem_cons_of_mem _ (List.mem_cons_of_mem _ (List.mem_append_right _ S.mem2)))
  noKeys := fun A s Q E hA ok h => getAttrOr_miss_zip ok.1 rfl rfl rfl zip_no_keys (by decide +kernel) hA h
  iter := fun A s d Q E hA ok hd hdf h => by
    obtain ⟨hz, hTI, ⟨a, b, hTO⟩, h1, h2⟩ := ok
    have E1 := D1 A.in1 hA
    have E2 := D2 A.in1 hA
    have nf : ∀ b ∈ z :: TI :: TO :: (fp1 ++ fp2), b ≠ d := fun b hb e => hdf (e ▸ hb)
    have dz : z ≠ d := nf _ (by simp)
    have dTI : TI ≠ d := nf _ (by simp)
    have dTO : TO ≠ d := nf _ (by simp)
    have d1 : ∀ b ∈ fp1, b ≠ d := fun b hb => nf _ (by simp [hb])
    have d2 : ∀ b ∈ fp2, b ≠ d := fun b hb => nf _ (by simp [hb])
    refine wpAny_pyIter_zip hz (h z [z, TO, i1, i2] (fun i h => IsTupOf2 h TI (.ref i1) (.ref i2) ∧ St1 i h ∧ St2 i h ∧
      ((IsZip h z TI TO .none ∧ ∃ a b, IsTupOf2 h TO a b) ∨ ∃ T f oT, IsZipHeld h z TI TO T f ∧ h.get? T = some oT ∧ T ≠ z ∧ T ≠ i1 ∧ T ≠ i2 ∧ T ≠ d)) s.heap s.toks ?_
      ⟨hTI, h1, h2, .inl ⟨hz, a, b, hTO⟩⟩ (fun _ _ e => e) fun b hb => .inl hb)
    exact {
      off := fun hm => by
        simp only [List.mem_cons, List.not_mem_nil, or_false] at hm
        rcases hm with e | e | e | e
        · exact dz e.symm
        · exact dTO e.symm
        · exact d1 _ S.mem1 e.symm
        · exact d2 _ S.mem2 e.symm
      frame := fun i h₁ h₂ st hk => by
        obtain ⟨hTI, h1, h2, hz⟩ := st
        refine ⟨hk _ _ dTI hTI, E1.frame _ _ _ h1 fun b hb o e => hk b o (d1 b hb) e, E2.frame _ _ _ h2 fun b hb o e => hk b o (d2 b hb) e, ?_⟩
        rcases hz with ⟨hz, a, b, hTO⟩ | ⟨T, f, oT, hz, hT, r1, r2, r3, r4⟩
        · exact .inl ⟨hk _ _ dz hz, a, b, hk _ _ dTO hTO⟩
        · exact .inr ⟨T, f, oT, hk _ _ dz hz, hk _ _ r4 hT, r1, r2, r3, r4⟩
      item := fun i s₁ Q₁ E₁ hi st hds hQ => by
        obtain ⟨hTI, h1, h2, hz⟩ := st
        have hi1 : i < n1 := Nat.lt_of_lt_of_le hi (Nat.min_le_left ..)
        have hi2 : i < n2 := Nat.lt_of_lt_of_le hi (Nat.min_le_right ..)
        have lt : ∀ {c o}, s₁.heap.get? c = some o → s₁.heap.objs.size ≠ c := fun e => Nat.ne_of_gt (Heap.lt_size e)
        have m1 : s₁.heap.objs.size ≠ i1 := let ⟨_, e⟩ := E1.live _ _ h1; lt e
        have m2 : s₁.heap.objs.size ≠ i2 := let ⟨_, e⟩ := E2.live _ _ h2; lt e
        rcases hz with ⟨hz, a, b, hTO⟩ | ⟨T, f, oT, hz, hT, r1, r2, r3, r4⟩
        · refine wpAny_pyNext_zipD2_item S E1 E2 hz hTI hTO h1 h2 hi1 hi2 fun x1 x2 h' tk y1 y2 b1 b2 c1 c2 b5 b6 hk => ?_
          exact hQ s₁.heap.objs.size _ _ h' tk ⟨y1, y2⟩ (.inl ⟨_, b5, rfl, _, rfl⟩)
            ⟨hk _ _ S.TIz S.TITO S.TIi1 S.TIi2 hTI, c1, c2, .inr ⟨s₁.heap.objs.size, false, _, b1, b5, lt hz, m1, m2, Nat.ne_of_gt hds⟩⟩
            fun c o hc e => hk c o (fun x => hc (by simp [x])) (fun x => hc (by simp [x])) (fun x => hc (by simp [x])) (fun x => hc (by simp [x])) e
        · refine nextH_item S E1 E2 hz hT hTI h1 h2 hi1 hi2 fun x1 x2 h' tk y1 y2 b1 c1 c2 b5 b6 hk => ?_
          exact hQ s₁.heap.objs.size _ _ h' tk ⟨y1, y2⟩ (.inl ⟨_, b5, rfl, _, rfl⟩)
            ⟨hk _ _ S.TIz S.TIi1 S.TIi2 hTI, c1, c2, .inr ⟨T, true, oT, b1, hk _ _ r1 r2 r3 hT, r1, r2, r3, r4⟩⟩
            fun c o hc e => hk c o (fun x => hc (by simp [x])) (fun x => hc (by simp [x])) (fun x => hc (by simp [x])) e
      done := fun s₁ Q₁ E₁ st hQ => by
        obtain ⟨hTI, h1, h2, hz⟩ := st
        rcases hz with ⟨hz, a, b, hTO⟩ | ⟨T, f, oT, hz, hT, r1, r2, r3, r4⟩
        · exact wpAny_pyNext_zipD2_end S E1 E2 hz hTI hTO h1 h2 (Nat.min_le_left ..) (Nat.min_le_right ..) (by omega) fun h' tk hk => hQ h' tk fun c o hc e => hk c o (fun x => hc (by simp [x])) (fun x => hc (by simp [x])) (fun x => hc (by simp [x])) (fun x => hc (by simp [x])) e
        · exact nextH_end S E1 E2 hz hT hTI h1 h2 (Nat.min_le_left ..) (Nat.min_le_right ..) (by omega) fun h' tk hk => hQ h' tk fun c o hc e => hk c o (fun x => hc (by simp [x])) (fun x => hc (by simp [x])) (fun x => hc (by simp [x])) e }

section
variable {X : Cx} {C : Addr} {pos : Pos}
/-- dict(zip(texts in a list, ints in a tuple)) -/
def eDictZip (t : AA) : AT := fun ρ h R => t ρ h fun vs h1 => match vs with
  | [.dat (.lst ks), .dat (.tup ds)] => (match strL ks, intL ds with
    | some ns, some is => ns.Nodup ∧ ns.length = is.length ∧ R (.dat (.dk ((ns.map Sum.inr).zip is))) h1
    | _, _ => False)
  | _ => False
theorem mergeK_nd {β : Type} : ∀ (kvs acc : List (Key × V)), ((acc ++ kvs).map (·.1)).Nodup → mergeK acc kvs = acc ++ kvs
  | [], acc, _ => by simp [mergeK]
  | (k, v) :: kvs, acc, h => by
    have e : putK acc k v = acc ++ [(k, v)] := by
      unfold putK
      rw [if_neg]
      intro z
      rw [List.any_eq_true] at z
      obtain ⟨q, hq, e⟩ := z
      have e := of_decide_eq_true e
      rw [List.map_append, List.nodup_append] at h
      exact h.2.2 q.1 (List.mem_map.mpr ⟨q, hq, rfl⟩) k (by simp) e
    show mergeK (putK acc k v) kvs = _
    rw [e, mergeK_nd (β := β) kvs (acc ++ [(k, v)]) (by simpa using h)]
    simp
theorem vals_getU : ∀ {xs : List V} {us : List Value} {i : Nat} {u : Value}, Vals xs us → us[i]? = some u → ∃ x, xs[i]? = some x ∧ RelV x u
  | [], _, _, _, h, e => by cases h; simp at e
  | _ :: _, _, 0, _, h, e => by
    cases h with
    | cons h1 h2 => simp at e; subst e; exact ⟨_, rfl, h1⟩
  | _ :: xs, _, i + 1, u, h, e => by
    cases h with
    | cons h1 h2 =>
      obtain ⟨x, q1, q2⟩ := vals_getU (i := i) h2 (by simpa using e)
      exact ⟨x, by simpa using q1, q2⟩
theorem kv_zip : ∀ (ks : List Key) {xs : List V} {us : List Value}, Vals xs us → KV (ks.zip xs) (ks.zip us)
  | [], _, _, _ => by simp only [List.zip_nil_left]; exact .nil
  | _ :: _, _, _, .nil => by simp only [List.zip_nil_right]; exact .nil
  | k :: ks, _, _, .cons r rr => by
    rw [List.zip_cons_cons, List.zip_cons_cons]
    exact .cons ⟨rfl, r⟩ (kv_zip ks rr)
theorem me_dictzip {e e2 : Expr} {t : AA} {p p2 : Pos} {pos2 : Pos} (hc : X.calm = true) (hm : X.mg "dict" = none) (hmz : X.mg "zip" = none) (ha : MA X C [e, e2] t) (hg : Gl X "dict" := by rfl) (hgz : Gl X "zip" := by rfl)
    (hs : starEach [e, e2] X.env = (false, eval e X.env) :: starEach [e2] X.env := by rfl) (hpl : (backTo pos2 (starEach [e2] X.env)).any (·.1) = false := by rfl)
    (hs2 : starEach [.Call (.Name "zip" p2) [e, e2] [] pos2] X.env = (false, eval (.Call (.Name "zip" p2) [e, e2] [] pos2) X.env) :: starEach [] X.env := by rfl) (hpl2 : (backTo pos (starEach [] X.env)).any (·.1) = false := by rfl) :
    ME X C (.Call (.Name "dict" p) [.Call (.Name "zip" p2) [e, e2] [] pos2] [] pos) (eDictZip t) := by
  refine ⟨fun pins s σ H Q I ⟨g, h, ρ, R, m, re, ht, k⟩ => ?_⟩
  refine wpAny_Call_Name_kw (ld_blt I hg hm (u := .type "dict") (by decide +kernel) ?_)
  refine PyProof.Rows.callWith_type1 ?_ hs2 hpl2
  rw [hs2]
  show wpAny _ _ (spliced ((false, _) :: backTo pos (starEach [] X.env))) _ _ s
  refine Calls.spliced_cons ?_
  refine Call_ (ld_blt I hgz hmz PyProof.Rows.boot_zip (PyProof.Rows.callWith_type1 (thn (ha.run pos2 pins s σ H (fun vs H1 => ∃ g1 h1 ds, Ext g H g1 H1 ∧ MH (wo X C) g1 h1 H1 ∧ RAs (wo X C) g1 H1 ds vs ∧ (match ds with
    | [.dat (.lst ks), .dat (.tup ds)] => (match strL ks, intL ds with
      | some ns, some is => ns.Nodup ∧ ns.length = is.length ∧ R (.dat (.dk ((ns.map Sum.inr).zip is))) h1
      | _, _ => False)
    | _ => False)) I ⟨g, h, ρ, _, m, re, ht, fun v H' g' h' d e m' r q => ⟨g', h', d, e, m', r, q⟩⟩) fun us s1 ⟨vs, H1, I1, r1, g1, h1, ds, e1, m1, ra, q⟩ => ?_) hs hpl))
  split at q
  · rename_i ks dv
    split at q
    · rename_i ns is hks hdv
      obtain rfl := strL_eq hks
      obtain rfl := intL_eq hdv
      obtain ⟨q1, q2, q3⟩ := q
      cases ra with
      | cons ra rb =>
        cases rb with
        | cons rb rc =>
          cases rc
          obtain ⟨a, xs, rfl, fa, sa⟩ := ra.inv_lst
          obtain ⟨b, ys, rfl, fb, sb⟩ := rb.inv_tup
          obtain rfl := sa.strs
          obtain rfl := sb.ints
          cases r1 with
          | cons r1 r2 =>
            cases r2 with
            | cons r2 r3 =>
              cases r3
              cases r1
              cases r2
              obtain ⟨its, rv, p1, z1⟩ := I1.list fa.sq
              obtain ⟨its2, rv2, p3, z2⟩ := I1.tuple fb.sq
              have la : a < s1.heap.objs.size := p1.lt
              have lb : b < s1.heap.objs.size := by obtain ⟨o, ho, _⟩ := p3; exact Heap.lt_size ho
              refine zip_begins2 (begins_list a its.toArray) (begins_tuple b its2.toArray) p1.isList p3 fun h' hz hTI hTO g1' g2' hsz hk => ?_
              refine Calls.spliced_nil ?_
              have S := zip_sep2 (N := s1.heap.objs.size) (fp1 := [a]) (fp2 := [b]) (fun c hcm => by rw [List.mem_singleton.mp hcm]; exact la) (fun c hcm => by rw [List.mem_singleton.mp hcm]; exact lb)
              have hh : X.A.handled = none := I1.ok.hd hc
              have P := pairZip (prog := X.prog) (w := X.w) (s1.heap.objs.size + 4) (s1.heap.objs.size + 2) (s1.heap.objs.size + 3) s1.heap.objs.size (s1.heap.objs.size + 1) [s1.heap.objs.size, a] [s1.heap.objs.size + 1, b] _ _ _ _ _ _ S
                (fun A hA => Draws.list hA s1.heap.objs.size a (Nat.ne_of_lt la) its.toArray) (fun A hA => Draws.tuple hA (s1.heap.objs.size + 1) b (Nat.ne_of_lt (Nat.lt_succ_of_lt lb)) its2.toArray)
                (fun i h1 h2 st kp => ⟨st.1.at fun o e => kp _ o e, st.2.at fun o e => kp _ o e⟩) (fun i h1 h2 st kp => ⟨st.1.at fun o e => kp _ o e, st.2.at fun o e => kp _ o e⟩)
                (fun i h1 st c hcm => by
                  obtain ⟨⟨o, ho, _⟩, ⟨o2, ho2, _⟩⟩ := st
                  rcases List.mem_cons.mp hcm with rfl | hcm
                  · exact ⟨o, ho⟩
                  · rw [List.mem_singleton.mp hcm]; exact ⟨o2, ho2⟩)
                (fun i h1 st c hcm => by
                  obtain ⟨⟨o, ho, _⟩, ⟨o2, ho2, _⟩⟩ := st
                  rcases List.mem_cons.mp hcm with rfl | hcm
                  · exact ⟨o, ho⟩
                  · rw [List.mem_singleton.mp hcm]; exact ⟨o2, ho2⟩)
              have l1 : its.length = ns.length := by rw [← rv.length, List.length_map]
              have l2 : its2.length = is.length := by rw [← rv2.length, List.length_map]
              have hmin : min its.toArray.size its2.toArray.size = ns.length := by rw [List.size_toArray, List.size_toArray, l1, l2, q2, Nat.min_self]
              rw [hmin] at P
              refine PySem.call_dict_pairs (knd := mixKind X.prog X.w) (kvs := (ns.map Sum.inr).zip its2) P hh ⟨hz, hTI, ⟨_, _, hTO⟩, ⟨⟨_, g1', rfl, rfl⟩, p1.isList.at fun o e => hk _ o e⟩, ⟨_, g2', rfl, rfl⟩, (show s1.heap.IsTuple b its2.toArray from p3).at fun o e => hk _ o e⟩ ⟨by simp [l2, q2], fun i kk v ⟨e1, e2⟩ => ?_⟩ (by rw [← l1, ← rv.length]; exact z1) fun h2 tk hd' kp => ?_
              · have e1' : its[i]? = some kk := by simpa using e1
                have e2' : its2[i]? = some v := by simpa using e2
                obtain ⟨x, hx, rx⟩ := vals_getU rv e1'
                rw [List.getElem?_map] at hx
                obtain ⟨n, hn, rfl⟩ := Option.map_eq_some_iff.mp hx
                refine ⟨Sum.inr n, ?_, kV_is (P := X.prog) (w := X.w) rx⟩
                rw [List.getElem?_zip_eq_some]
                exact ⟨by rw [List.getElem?_map, hn]; rfl, e2'⟩
              · have hp : H1 h'.objs.size = none := (I1.kept (t' := s1.toks) hk).hok.fresh (Nat.le_refl _)
                have kp2 : ∀ b o, s1.heap.get? b = some o → h2.get? b = some o := fun b o e => kp b o (fun hw => by
                  have e' : b = s1.heap.objs.size + 4 ∨ b = s1.heap.objs.size + 3 ∨ b = s1.heap.objs.size ∨ b = s1.heap.objs.size + 1 := by simpa using hw
                  have hlt := Heap.lt_size e
                  rcases e' with z | z | z | z <;> (rw [z] at hlt; exact absurd hlt (by exact Nat.not_lt.mpr (by first | exact Nat.le_add_right _ _ | exact Nat.le_refl _)))) (hk b o e)
                have rel : KV ((ns.map Sum.inr : List Key).zip (is.map V.int)) ((ns.map Sum.inr : List Key).zip its2) := kv_zip _ rv2
                have hndk : (((ns.map Sum.inr : List Key).zip (is.map V.int)).map (·.1)).Nodup := by
                  rw [List.map_fst_zip (by simp [q2])]
                  exact (List.pairwise_map.mpr (List.Pairwise.imp (fun {x y} h (e : (Sum.inr x : Key) = Sum.inr y) => h (Sum.inr.inj e)) q1))
                have em : mergeK [] ((ns.map Sum.inr : List Key).zip (is.map V.int)) = (ns.map Sum.inr : List Key).zip (is.map V.int) := by
                  rw [mergeK_nd (β := Unit) _ [] (by simpa using hndk)]; rfl
                have hlen : ((ns.map Sum.inr : List Key).zip (is.map V.int)).length ≤ sizeLine := by
                  rw [List.length_zip, List.length_map]
                  exact Nat.le_trans (Nat.min_le_left _ _) (by rw [← l1, ← rv.length]; exact z1)
                have hsm : (h'.objs.size == sysModules) = false := beq_eq_false_iff_ne.mpr (Nat.ne_of_gt (Nat.lt_of_lt_of_le I1.big (by rw [hsz]; exact Nat.le_add_right _ _)))
                have rel2 := KV.merge rel (.nil : KV ([] : List (Key × V)) [])
                rw [em] at rel2
                refine ⟨.ref h'.objs.size, upd H1 h'.objs.size (.dK ((ns.map Sum.inr : List Key).zip (is.map V.int))), I1.laid (t' := tk) kp2 (by rw [hsz]; exact Nat.le_add_right _ _) (show ObjOk X.prog X.w _ _ _ (.dK _) from ⟨hlen, hsm, _, rel2, hd'⟩), rfl, ?_⟩
                refine k _ _ g1 h1 _ (e1.trans (Ext.laid hp) m.sub) (m1.laid hp) (.dat (.dk ?_ (m1.nfresh hp))) q3
                rw [upd_same]
                congr 2
                rw [List.zip_map_right]
                refine List.map_congr_left fun q _ => ?_
                rfl
    · cases q
  · cases q
end
end AL
end
section
set_option Elab.async false
set_option linter.all false
set_option maxRecDepth 100000
set_option maxHeartbeats 1000000
/-! AL10: zip of tuples, a comprehension with two for, the written dict, a call with a keyword. -/
namespace AL
open PySem PySem.Spec PyProof.Rows L2
open RZ (ItzT pi_zipA)

section
variable {W : Wo} {g : Gh} {H : Hp} {h : AH}
theorem it_zipT {a b : Addr} {xs ys : List V} {ds es : List D} (m : MH W g h H) (f : FT W.K g.N H a xs) (r : RVs W g.N H ds xs) (f' : FT W.K g.N H b ys) (r' : RVs W g.N H es ys) : ItOk W g H (ItzT W.K a b) (zpD ds es) where
  go := fun i d g2 h2 H2 e m2 q => by
    have f2 : FT W.K g2.N H2 a xs := f.mono (e.keep m)
    have f3 : FT W.K g2.N H2 b ys := f'.mono (e.keep m)
    obtain ⟨d1, d2, q0, q0', rfl⟩ := zpD_get q
    obtain ⟨v, q1, q2⟩ := (r.ext e m).get q0
    obtain ⟨v', q1', q2'⟩ := (r'.ext e m).get q0'
    refine ⟨⟨xs, ys, v, v', f2.sq, f3.sq, q1, q1'⟩, fun x H3 ⟨T, x1, x2, ex, n, e3, y, y'⟩ => ?_⟩
    subst ex e3
    have z := y xs f2.sq
    rw [q1] at z; cases z
    have z' := y' ys f3.sq
    rw [q1'] at z'; cases z'
    exact new_pair m2 q2 q2' n
  stop := fun i g2 h2 H2 e m2 q => ⟨xs, ys, (f.mono (e.keep m)).sq, (f'.mono (e.keep m)).sq, by rw [zpD_length] at q; rw [← r.length, ← r'.length]; omega⟩
end

section
variable {X : Cx} {C : Addr} {pos : Pos} {tg : Expr}
def iZpT (t : AA) : AI := fun ρ h S => t ρ h fun ds h1 => match ds with | [.dat (.tup ds), .dat (.tup es)] => S (zpD ds es) h1 | _ => False
theorem mi_zipT {e e2 : Expr} {t : AA} {p tpos : Pos} {elts : List Expr} {kk : Nat} (hm : X.mg "zip" = none) (ha : MA X C [e, e2] t) (hg : Gl X "zip" := by rfl)
    (hs : starEach [e, e2] X.env = (false, eval e X.env) :: starEach [e2] X.env := by rfl) (hpl : (backTo pos (starEach [e2] X.env)).any (·.1) = false := by rfl) :
    MI X C (.Tuple elts kk tpos) (.Call (.Name "zip" p) [e, e2] [] pos) (iZpT t) := by
  refine PI.imp (pi_zipA hg hm ha hs hpl) fun σ H R ⟨g, h, ρ, S, m, re, ht, k⟩ => ⟨g, h, ρ, _, m, re, ht, fun v H1 g1 h1 d e1 m1 r1 q1 => ?_⟩
  split at q1
  · obtain ⟨x, y, rfl, r, r'⟩ := r1.two
    obtain ⟨a, xs, rfl, f, r⟩ := r.inv_tup
    obtain ⟨b, ys, rfl, f', r'⟩ := r'.inv_tup
    exact ⟨a, b, xs, ys, rfl, .inr ⟨f.sq, f'.sq, k _ _ _ _ _ e1 m1 (it_zipT (W := wo X C) m1 f r f' r') q1⟩⟩
  · cases q1

/-! ### [e for a in x for b in y], a and b names -/
def lcI (j : Nat) (te : AT) (ρ2 : En) : List D → List D → (List D → Prop) → Prop
  | [], acc, K => K acc
  | e :: es, acc, K => ∃ y, (∀ h R, R (.dat y) h → te ((wip ρ2 [j]).set j (some (.dat e))) h R) ∧ acc.length < sizeLine ∧ lcI j te ρ2 es (acc ++ [y]) K
def lcO (i j : Nat) (wi1 : AI) (te : AT) (ρ : En) : List D → List D → (List D → Prop) → Prop
  | [], acc, K => K acc
  | d :: ds, acc, K => ∃ es, (∀ h S, S es h → wi1 ((wip ρ [i, j]).set i (some (.dat d))) h S) ∧ lcI j te ((wip ρ [i, j]).set i (some (.dat d))) es acc fun acc' => lcO i j wi1 te ρ ds acc' K
/-- nothing changes meanwhile, and nothing is known that changes -/
def eLc2 (i j : Nat) (wi wi1 : AI) (te : AT) : AT := fun ρ h R => wi ρ h fun ds h1 => h1 = [] ∧ lcO i j wi1 te ρ ds [] fun acc => R (.dat (.lst acc)) []
theorem wip_set {α : Type} {σ : List (Option α)} {vs : List Nat} {i : Nat} (hi : i ∈ vs) (x : Option α) : wip ((wip σ vs).set i x) vs = wip σ vs := by
  refine List.ext_getElem? fun k => ?_
  rw [wip_get, wip_get]
  by_cases h : k ∈ vs
  · rw [if_pos h, if_pos h]
    by_cases e : i = k
    · subst e
      rw [List.getElem?_set, wip_length]
      by_cases q : i < σ.length
      · simp [q]
      · simp [q]
    · rw [List.getElem?_set_ne e, wip_get, if_pos h, Option.map_map]; rfl
  · rw [if_neg h, if_neg h, List.getElem?_set_ne (fun e : i = k => h (e ▸ hi)), wip_get, if_neg h]
theorem io_nil {W : Wo} {g : Gh} {H : Hp} (m : MH W g [] H) : g.io = [] := List.eq_nil_of_length_eq_zero m.len
theorem lc2_read {W : Wo} {i j : Nat} {wi wi1 : AI} {te : AT} {σ : L2.St} {H : Hp} {Q : VK} (w : cE W (eLc2 i j wi wi1 te) σ H Q) :
    L2.tLc2 (cI W wi) (gName i) (cT W tYes) (cI W wi1) (gName j) (cT W tYes) (cE W te) [i, j] [j] σ H Q := by
  obtain ⟨g, h, ρ, R, m, re, ht, k⟩ := w
  refine ⟨g, h, ρ, _, m, re, ht, fun J H1 g1 h1 ds e1 m1 io ⟨eh, q1⟩ L hL => ?_⟩
  subst eh
  obtain ⟨e0, m0, n0, i0⟩ := grow_start m1 hL (.lst [])
  refine ⟨fun n c H' => n + c = ds.length ∧ ∃ g' acc xs, Ext g1 H1 g' H' ∧ MH W g' [] H' ∧ g'.N L ∧ H' L = some (.lst xs) ∧ RVs W g'.N H' acc xs ∧ lcO i j wi1 te ρ (ds.drop n) acc fun acc => R (.dat (.lst acc)) [],
    ⟨ds.length, by omega, g1.hide L, [], [], e0, m0, n0, upd_same, .nil, q1⟩, ?_⟩
  rintro n c H2 ⟨hn, g2, acc, xs, e2, m2, n2, hD2, ra2, q2⟩
  have i2 : L ∉ g2.io := by rw [io_nil m2]; simp
  by_cases hi : n < ds.length
  · have hd : ds[n]? = some ds[n] := List.getElem?_eq_getElem hi
    obtain ⟨go, yl⟩ := io.go n _ g2 [] H2 e2 m2 hd
    refine .inr ⟨go, fun H' => ∃ g' acc xs, Ext g1 H1 g' H' ∧ MH W g' [] H' ∧ g'.N L ∧ H' L = some (.lst xs) ∧ RVs W g'.N H' acc xs ∧ lcO i j wi1 te ρ (ds.drop (n + 1)) acc fun acc => R (.dat (.lst acc)) [], fun H' q => ⟨c - 1, by omega, by omega, q⟩, fun x H3 y => ?_⟩
    obtain ⟨e3, m3, r3⟩ := yl x H3 y
    rw [List.drop_eq_getElem_cons hi] at q2
    unfold lcO at q2
    obtain ⟨es, pw, q2⟩ := q2
    have e13 := e2.trans e3 m1.sub
    have re2 := ((re.ext (e1.trans e13 m.sub) m).wip [i, j]).set (i := i) (.dat r3)
    have hD3 : H3 L = some (.lst xs) := e3.fr L _ hD2 i2
    have ra3 := ra2.ext e3 m2
    -- from here on the new list is known
    have mI : MH W ⟨g2.N, [L]⟩ [.lst acc] H3 := by
      refine ⟨rfl, by simp, fun a ha => by rw [List.mem_singleton.mp ha]; exact n2, m3.nn, fun c a o e1 e2 => ?_⟩
      cases c with
      | zero =>
        simp at e1 e2
        subst e1 e2
        exact ⟨xs, hD3, ra3⟩
      | succ c => simp at e1
    have eI : Ext g1 H1 ⟨g2.N, []⟩ H3 := ⟨⟨[], by rw [io_nil m1]; rfl⟩, fun a x => e13.sub a x, e13.new, fun a x => (by cases x), e13.fr⟩
    have reI : RE W ⟨g2.N, [L]⟩ H3 ((wip ρ [i, j]).set i (some (.dat ds[n]))) ((wipe σ [i, j]).set i (some x)) := by
      refine ⟨re2.len, fun c d q => ?_⟩
      obtain ⟨v, q1, q2⟩ := re2.gt c d q
      refine ⟨v, q1, ?_⟩
      cases q2 with
      | dat r => exact .dat r
      | ref r => rw [io_nil m2] at r; simp at r
    show (wipe ((wipe σ [i, j]).set i (some x)) [i, j] = wipe σ [i, j] ∧ _)
    refine ⟨by rw [wip_eq, wip_eq]; exact wip_set List.mem_cons_self _, _, _, _, (fun b h => b = true ∧ h = [.lst acc]), mI, reI, ⟨rfl, rfl⟩, fun b H3b g3b h3b e3b m3b q3b => ?_⟩
    obtain ⟨rfl, rfl⟩ := q3b
    rw [if_pos rfl]
    refine ⟨g3b, _, _, (fun es' h => es' = es ∧ h = [.lst acc]), m3b, reI.ext e3b mI, pw _ _ ⟨rfl, rfl⟩, fun J1 H4 g4 h4 es' e4 m4 io1 q4 => ?_⟩
    obtain ⟨rfl, rfl⟩ := q4
    have e34 := e3b.trans e4 mI.sub
    have re4 := reI.ext e34 mI
    have one : ∀ {g' : Gh} {H' : Hp}, Ext ⟨g2.N, [L]⟩ H3 g' H' → ∀ {acc' : List D}, MH W g' [.lst acc'] H' → g'.io = [L] := fun {g' H'} e {acc'} mm => by
      obtain ⟨more, q⟩ := e.pre
      have := mm.len
      rw [q] at this ⊢
      cases more with
      | nil => rfl
      | cons _ _ => simp at this
    refine ⟨fun a c H' => a + c = es'.length ∧ ∃ g' acc', Ext ⟨g2.N, [L]⟩ H3 g' H' ∧ Ext g4 H4 g' H' ∧ MH W g' [.lst acc'] H' ∧ lcI j te ((wip ρ [i, j]).set i (some (.dat ds[n]))) (es'.drop a) acc' fun acc' => lcO i j wi1 te ρ (List.drop (n + 1) ds) acc' fun acc => R (.dat (.lst acc)) [],
      ⟨es'.length, by omega, g4, acc, e34, Ext.refl _ _, m4, q2⟩, ?_⟩
    rintro a c' H5 ⟨hn5, g5, acc5, e5, e45, m5, q5⟩
    by_cases ha : a < es'.length
    · have hd5 : es'[a]? = some es'[a] := List.getElem?_eq_getElem ha
      obtain ⟨go5, yl5⟩ := io1.go a _ g5 _ H5 e45 m5 hd5
      refine .inr ⟨go5, fun H' => ∃ g' acc', Ext ⟨g2.N, [L]⟩ H3 g' H' ∧ Ext g4 H4 g' H' ∧ MH W g' [.lst acc'] H' ∧ lcI j te ((wip ρ [i, j]).set i (some (.dat ds[n]))) (es'.drop (a + 1)) acc' fun acc' => lcO i j wi1 te ρ (List.drop (n + 1) ds) acc' fun acc => R (.dat (.lst acc)) [],
        fun H' q => ⟨c' - 1, by omega, by omega, q⟩, fun x6 H6 y6 => ?_⟩
      obtain ⟨e6, m6, r6⟩ := yl5 x6 H6 y6
      rw [List.drop_eq_getElem_cons ha] at q5
      unfold lcI at q5
      obtain ⟨y, py, hz, q5⟩ := q5
      have e36 := e5.trans e6 mI.sub
      have re6 := ((reI.ext e36 mI).wip [j]).set (i := j) (.dat r6)
      show (wipe ((wipe _ [j]).set j (some x6)) [j] = wipe _ [j] ∧ _)
      refine ⟨by rw [wip_eq, wip_eq]; exact wip_set List.mem_cons_self _, _, _, _, (fun b h => b = true ∧ h = [.lst acc5]), m6, re6, ⟨rfl, rfl⟩, fun b H7 g7 h7 e7 m7 q7 => ?_⟩
      obtain ⟨rfl, rfl⟩ := q7
      rw [if_pos rfl]
      have re7 := re6.ext e7 m6
      refine ⟨g7, _, _, (fun d h => d = .dat y ∧ h = [.lst acc5]), m7, re7, py _ _ ⟨rfl, rfl⟩, fun v H8 g8 h8 d e8 m8 r8 q8 => ?_⟩
      obtain ⟨rfl, rfl⟩ := q8
      have e38 := (e36.trans e7 mI.sub).trans e8 mI.sub
      have i8 := one e38 m8
      have hg : g8.io[0]? = some L := by rw [i8]; rfl
      obtain ⟨xs8, hD8, ra8⟩ := m8.obj 0 L (.lst acc5) hg rfl
      have ew := Ext.wr (g := g8) (H := H8) (o := .lst (xs8 ++ [v])) hg
      refine ⟨xs8, hD8, by rw [← ra8.length]; exact hz, g8, acc5 ++ [y], e38.trans ew mI.sub, (((e45.trans e6 m4.sub).trans e7 m4.sub).trans e8 m4.sub).trans ew m4.sub, m8.wr (ao := .lst (acc5 ++ [y])) hg ⟨_, upd_same, (ra8.ext ew m8).append (.cons (r8.ext ew m8).inv_dat .nil)⟩, q5⟩
    · have hz : es'.drop a = [] := List.drop_eq_nil_of_le (by omega)
      rw [hz] at q5
      have i5 := one e5 m5
      have hg : g5.io[0]? = some L := by rw [i5]; rfl
      obtain ⟨xs5, hD5, ra5⟩ := m5.obj 0 L (.lst acc5) hg rfl
      refine .inl ⟨io1.stop a g5 _ H5 e45 m5 (by omega), ⟨g5.N, []⟩, acc5, xs5, ?_, m5.none, e5.sub L n2, hD5, ra5, q5⟩
      refine ⟨⟨[], by rw [io_nil m1]; rfl⟩, fun a x => e5.sub a (e13.sub a x), fun a x => ?_, fun a x => (by cases x), fun a o q z => ?_⟩
      · rcases e5.new a x with y | y
        · exact e13.new a y
        · by_cases q : H1 a = none
          · exact .inr q
          · exfalso
            obtain ⟨o, q⟩ := Option.ne_none_iff_exists'.mp q
            have := e13.fr a o q (by rw [io_nil m1]; simp)
            rw [this] at y; cases y
      · have h3 := e13.fr a o q z
        exact e5.fr a o h3 fun hm => by
          rw [List.mem_singleton.mp hm, hL] at q; cases q
  · have hz : ds.drop n = [] := List.drop_eq_nil_of_le (by omega)
    rw [hz] at q2
    obtain ⟨e7, m7, k7, n7⟩ := grow_end e2 hL m1.nn m2 i2
    exact .inl ⟨io.stop n g2 _ H2 e2 m2 (by omega), k _ _ _ _ _ (e1.trans e7 m.sub) m7 (.dat (.lst (.inl ⟨.inl hD2, n7⟩) (RVs.mono k7 _ _ ra2))) q2⟩
/-- y = [e for a in x for b in y] -/
theorem ms_lc2 {i j n : Nat} {y : Str} {py spos : Pos} {elt iter iter1 tg tg1 : Expr} {scope : Scope} {own : List (Str × Nat)} {wi wi1 : AI} {te : AT} (hc : X.calm = true) (hN : X.N.Nodup) (hi : MI X C tg iter wi) (ok : BlkOk X.N X.env.scope scope own) (hv : own.map (·.2) = [i, j])
    (hg : ∀ s H c cl fp, PG (BX X scope s H c cl fp) tg (gName i)) (hi1 : ∀ s H c cl fp, MI (BX X scope s H c cl fp) C tg1 iter1 wi1) (hg1 : ∀ s H c cl fp, PG (BX X scope s H c cl fp) tg1 (gName j)) (he : ∀ s H c cl fp, ME (BX X scope s H c cl fp) C elt te)
    (hsw : swapsWith (.ListComp elt [⟨tg, iter, [], 0⟩, ⟨tg1, iter1, [], 0⟩] scope pos) (some (.Name y py)) spos.line X.env = pure true)
    (hy : X.N[n]? = some y := by rfl) (hyl : X.env.scope.names.lookup y = some .local := by rfl) (hs : ∀ x, foldedSetIterable iter X.env x = pure x := by intro _; rfl) (hs1 : ∀ env x, foldedSetIterable iter1 env x = pure x := by intro _ _; rfl) :
    MS X C (.Assign [.Name y py] (.ListComp elt [⟨tg, iter, [], 0⟩, ⟨tg1, iter1, [], 0⟩] scope pos) spos) (sAsg (eLc2 i j wi wi1 te) (gN n)) := by
  refine PS.imp (ps_setLc2 (own := own) (vs1 := [j]) (wi1 := cI (wo X C) wi1) (tt := cT (wo X C) tYes) (tt1 := cT (wo X C) tYes) (te := cE (wo X C) te) hc hN hy hyl hsw hi ok (by rw [hv]; simp) hg (fun _ _ _ _ _ => mts_nil) hi1 hg1 (fun _ _ _ _ _ => mts_nil) he hs hs1) fun D σ H ⟨g, h, ρ, nx, rt, m, re, ht, kn, kr⟩ => ?_
  show tLc2 (cI (wo X C) wi) (gName i) (cT (wo X C) tYes) (cI (wo X C) wi1) (gName j) (cT (wo X C) tYes) (cE (wo X C) te) (own.map (·.2)) [j] σ H (fun x H1 => D.nx (σ.set n (some x)) H1)
  rw [hv]
  exact lc2_read (W := wo X C) ⟨g, h, ρ, _, m, re, ht, fun v H1 g1 h1 d e1 m1 r1 q1 => kn _ _ _ _ _ e1 m1 ((re.ext e1 m).set r1) q1⟩
end
end AL
end
section
set_option Elab.async false
set_option linter.all false
set_option maxRecDepth 100000
set_option maxHeartbeats 1000000
/-! AL11: the written dict of sorts, a call with a keyword, the stepper and its making. -/
namespace AL
open PySem PySem.Spec PyProof.Rows L2

def sortsOf (x : Str) : Option (List Str) :=
  if x = "yes" then some [] else if x = "high" then some ["line"] else if x = "low" then some ["line"] else if x = "rise" then some ["line"] else if x = "fall" then some ["line"]
  else if x = "pulse" then some ["line", "level", "number", "number"] else if x = "edges" then some ["line", "count", "number", "number"] else if x = "not" then some ["wish"]
  else if x = "both" then some ["wish", "wish"] else if x = "either" then some ["wish", "wish"] else if x = "ago" then some ["number", "wish"] else if x = "within" then some ["number", "wish"]
  else if x = "held" then some ["count", "wish"] else if x = "since" then some ["wish", "wish"] else if x = "nth" then some ["count", "wish"] else none
def HSorts (K : PySem.W.Frag) (w : World) (S : Addr) : Prop := ∀ x ss, sortsOf x = some ss → ∃ a, KDct K w S x (.ref a) ∧ KT K a (ss.map V.str)
theorem rvs_strs {W : Wo} {N : NS} {H : Hp} : ∀ ss : List Str, RVs W N H (ss.map D.str) (ss.map V.str)
  | [] => .nil
  | s :: ss => .cons (.str s) (rvs_strs ss)

section
variable {X : Cx} {C : Addr} {pos : Pos}
def eSorts (tb : AT) : AT := fun ρ h R => tb ρ h fun d h1 => match d with
  | .dat (.str x) => (match sortsOf x with | some ss => R (.dat (.tup (ss.map .str))) h1 | none => False)
  | _ => False
theorem me_sorts {b : Expr} {tb : AT} {p : Pos} {S : Addr} (hS : HSorts X.K X.w S) (hm : X.mg "SORTS" = some (.ref S)) (hb : ME X C b tb) (hg : Gl X "SORTS" := by rfl) (hs : PlainIx b := by exact fun _ _ => rfl) : ME X C (.Subscript (.Name "SORTS" p) b pos) (eSorts tb) := by
  refine PE.imp (pe_ix ix_kdict (pe_glob hg hm (v := .ref S) rfl) hb hs) fun σ H Q ⟨g, h, ρ, R, m, re, ht, k⟩ => ?_
  show cE _ tb σ H _
  refine ⟨g, h, ρ, _, m, re, ht, fun v H1 g1 h1 d e1 m1 r1 q1 => ?_⟩
  split at q1
  · rename_i x
    split at q1
    · rename_i ss hss
      obtain rfl := r1.inv_str
      obtain ⟨a, kd, kt⟩ := hS x ss hss
      exact ⟨S, x, .ref a, rfl, rfl, kd, k _ _ _ _ _ e1 m1 (.dat (.tup (.inr kt) (rvs_strs ss))) q1⟩
    · cases q1
  · cases q1

/-! ### f(e, name=e2) -/
def gK {α : Type} (us ws : List α) : List α := match us, ws with
  | [u], [w] => [u, w]
  | _, _ => []
def HasK (P : Program) (w : World) (K : PySem.W.Frag) (mg : Str → Option Value) (base : Heap) (C : Addr) (k : Nat) (x kw : Str) (F : HFs) : Prop :=
  ∃ f fd ps, mg x = some (.ref f) ∧ PySem.W.keepIn K (.ref f) = true ∧ ps.length = 2 ∧ KBinds K fd ps [kw] gK gK ∧ FnOk P w K mg base CX0 k f fd ps (cHF ⟨P, w, K, C⟩ 2 F)
def eCallK (F : PFs) (ta tk : AT) : AT := fun ρ h R => ta ρ h fun d h1 => tk ρ h1 fun e h2 => match d, e with
  | .dat d, .dat e => F [d, e] fun x => R (.dat x) h2
  | _, _ => False
theorem me_callK {x kw : Str} {p kpos : Pos} {e e2 : Expr} {t t2 : AT} {k : Nat} {F : PFs} (hf : HasK X.prog X.w X.K X.mg X.base C k x kw (pF F)) (hr : Room k X.A) (ha : ME X C e t) (hb : ME X C e2 t2)
    (hg : Gl X x := by rfl) (hall : (backToKw pos (keywordEach [⟨some kw, e2, kpos⟩] X.env)).all (·.1.isSome) = true := by rfl) (hks : (backToKw pos (keywordEach [⟨some kw, e2, kpos⟩] X.env)).filterMap (·.1) = [kw] := by rfl)
    (hdb : (x == ("__debug__" : Str)) = false := by decide) (he : starEach [e] X.env = (false, eval e X.env) :: starEach [] X.env := by rfl)
    (hpl : ((backTo pos (starEach [e] X.env)).any (·.1) || (backToKw pos (keywordEach [⟨some kw, e2, kpos⟩] X.env)).any (·.1.isNone)) = false := by rfl) :
    ME X C (.Call (.Name x p) [e] [⟨some kw, e2, kpos⟩] pos) (eCallK F t t2) := by
  obtain ⟨f, fd, ps, hm, hk, hl, hb', G⟩ := hf
  refine PE.imp (pe_callK G hr hg hm hk hb' pass0 (pa_cons ha pa_nil he) (pk_cons hb pk_nil) hall hks hdb he hpl) fun σ H Q ⟨g, h, ρ, R, m, re, ht, kk⟩ => ?_
  refine ⟨g, h, ρ, _, m, re, ht, fun v H1 g1 h1 d e1 m1 r1 q1 => ⟨g1, h1, ρ, _, m1, re.ext e1 m, q1, fun u H2 g2 h2 d2 e2 m2 r2 q2 => ?_⟩⟩
  split at q2
  · rename_i d e
    show cHF _ 2 _ [v, u] H2 Q E0
    refine ⟨⟨g2.N, []⟩, [], [.dat d, .dat e], (fun d _ => R (.dat d) h2), m2.none, .cons (.dat (r1.ext e2 m1).inv_dat) (.cons (.dat r2.inv_dat) .nil), rfl, q2, fun v H3 N' d hs' e3 m3 r3 q3 => ?_⟩
    have e4 := back_ext (g := g2) (io := []) (fun a x => by cases x) e3
    have hz : hs' = [] := by
      have := m3.len
      cases hs' with
      | nil => rfl
      | cons _ _ => simp at this
    subst hz
    exact kk _ _ ⟨N', g2.io⟩ h2 (.dat d) ((e1.trans e2 m.sub).trans e4 m.sub) (m2.back0 e3 m3) (.dat r3) q3
  · cases q2

/-! ### o.f = v -/
theorem RFs.put {W : Wo} {g : Gh} {H : Hp} (f : Str) {v : AV} {y : V} (r : RA W g H v y) : ∀ {fs : List (Str × AV)} {ys : List (Str × V)}, RFs W g H fs ys → RFs W g H (putA f v fs) (putF f y ys)
  | _, _, .nil => .cons r .nil
  | (k, w) :: fs, (_, z) :: ys, .cons rw rr => by
    unfold putA putF
    by_cases h : k = f
    · simp only [h, if_true]; exact .cons r rr
    · simp only [h, if_false]; exact .cons rw (RFs.put f r rr)
theorem RFs.length {W : Wo} {g : Gh} {H : Hp} : ∀ {fs : List (Str × AV)} {ys : List (Str × V)}, RFs W g H fs ys → fs.length = ys.length
  | _, _, .nil => rfl
  | _, _, .cons _ rr => by rw [List.length_cons, List.length_cons, RFs.length rr]
def sFldS (to tv : AT) (f : Str) : AS := fun nx _ ρ h => tv ρ h fun v h1 => to ρ h1 fun o h2 => match o with
  | .ref n => (match h2[n]? with
    | some (.ins fs) => fs.length < 1000 ∧ nx ρ (h2.set n (.ins (putA f v fs)))
    | _ => False)
  | _ => False
theorem ms_fldS {o value : Expr} {to tv : AT} {f : Str} {pos' : Pos} (ho : ME X C o to) (hv : ME X C value tv) (c : Cls X.K C) (n : NoAttr X.K C f) (hs : swapsWith value (some (.Attribute o f pos')) pos.line X.env = pure false := by rfl) :
    MS X C (.Assign [.Attribute o f pos'] value pos) (sFldS to tv f) := by
  refine PS.imp (ps_fld ho hv hs) fun D σ H ⟨g, h, ρ, nx, rt, m, re, ht, kn, kr⟩ => ⟨g, h, ρ, _, m, re, ht, fun v H1 g1 h1 d e1 m1 r1 q1 => ⟨g1, h1, ρ, _, m1, re.ext e1 m, q1, fun u H2 g2 h2 d2 e2 m2 r2 q2 => ?_⟩⟩
  split at q2
  · rename_i i
    split at q2
    · rename_i fs hq
      obtain ⟨a, rfl, ha⟩ := r2.inv_ref
      obtain ⟨dx, ys, hH, s⟩ := m2.obj i a _ ha hq
      refine ⟨a, C, dx, ys, rfl, hH, c, n, by rw [← s.length]; exact q2.1, ?_⟩
      have e3 := Ext.wr (g := g2) (H := H2) (o := .ins C dx (putF f v ys)) ha
      have e12 := e1.trans e2 m.sub
      exact kn _ _ g2 _ _ (e12.trans e3 m.sub) (m2.wr (ao := .ins (putA f d fs)) ha ⟨dx, _, upd_same, (s.ext e3 m2).put f ((r1.ext e2 m1).ext e3 m2)⟩) ((re.ext e12 m).ext e3 m2) q2.2
    · cases q2
  · cases q2

/-! ### self.m(..), self an instance that changes, with one field rows_of: a list that changes -/
def rowsF : Str := "rows_of"
def mF (F : BFs) : HFs := fun as hs R => match as, hs with
  | .ref 0 :: r, [.ins [(f, .ref 1)], .lst bs] => f = rowsF ∧ (match datL r with | some ds => F ds bs fun d bs' => R d [.ins [(rowsF, .ref 1)], .lst bs'] | none => False)
  | _, _ => False
def eMethM (n : Nat) (F : BFs) (to : AT) (t : AA) : AT := fun ρ h R => to ρ h fun o h1 => match o with
  | .ref i => (match h1[i]? with
    | some (.ins [(f, .ref j)]) => f = rowsF ∧ t ρ h1 fun vs h2 => (match h2[i]?, h2[j]?, datL vs with
      | some (.ins [(f2, .ref j2)]), some (.lst bs), some ds => f2 = rowsF ∧ j2 = j ∧ ds.length + 1 = n ∧ F ds bs fun d bs' => R (.dat d) (h2.set j (.lst bs'))
      | _, _, _ => False)
    | _ => False)
  | _ => False
theorem RFs.one {W : Wo} {g : Gh} {H : Hp} {f : Str} {j : Nat} {ys : List (Str × V)} (r : RFs W g H [(f, .ref j)] ys) : ∃ b, ys = [(f, .ref b)] ∧ g.io[j]? = some b := by
  cases r with
  | cons r rr =>
    cases rr
    cases r with
    | ref r => exact ⟨_, rfl, r⟩
theorem MH.two {W : Wo} {g : Gh} {H : Hp} {h : AH} {i j : Nat} {a b : Addr} {bs : List D} (m : MH W g h H) (ha : g.io[i]? = some a) (hb : g.io[j]? = some b) (hi : h[i]? = some (.ins [(rowsF, .ref j)])) (hj : h[j]? = some (.lst bs)) :
    a ≠ b ∧ MH W ⟨g.N, [a, b]⟩ [.ins [(rowsF, .ref 1)], .lst bs] H := by
  obtain ⟨dx, ys, hH, s⟩ := m.obj i a _ ha hi
  obtain ⟨xs, hH2, s2⟩ := m.obj j b _ hb hj
  obtain ⟨b', rfl, hb'⟩ := s.one
  rw [hb] at hb'
  cases hb'
  have hab : a ≠ b := fun e => by rw [e, hH2] at hH; cases hH
  refine ⟨hab, rfl, by simp [hab], fun c x => ?_, m.nn, fun k c o e1 e2 => ?_⟩
  · rcases List.mem_cons.mp x with rfl | x
    · exact m.sub c (List.mem_of_getElem? ha)
    · rw [List.mem_singleton.mp x]; exact m.sub b (List.mem_of_getElem? hb)
  · match k with
    | 0 =>
      simp at e1 e2
      subst e1 e2
      exact ⟨dx, _, hH, .cons (.ref rfl) .nil⟩
    | 1 =>
      simp at e1 e2
      subst e1 e2
      exact ⟨xs, hH2, s2⟩
    | k + 2 => simp at e1
theorem MH.back2 {W : Wo} {g : Gh} {H H' : Hp} {h : AH} {N' : NS} {i j : Nat} {a b : Addr} {bs : List D} (m : MH W g h H) (ha : g.io[i]? = some a) (hb : g.io[j]? = some b) (hab : a ≠ b) (hi : h[i]? = some (.ins [(rowsF, .ref j)])) (e : Ext ⟨g.N, [a, b]⟩ H ⟨N', [a, b]⟩ H')
    (m' : MH W ⟨N', [a, b]⟩ [.ins [(rowsF, .ref 1)], .lst bs] H') : MH W ⟨N', g.io⟩ (h.set j (.lst bs)) H' := by
  have hs : ∀ c ∈ [a, b], c ∈ g.io := fun c x => by
    rcases List.mem_cons.mp x with rfl | x
    · exact List.mem_of_getElem? ha
    · rw [List.mem_singleton.mp x]; exact List.mem_of_getElem? hb
  have e' := back_ext (g := g) hs e
  have hij : i ≠ j := fun z => by subst z; rw [ha] at hb; exact hab (Option.some.inj hb)
  have hj : j < h.length := by rw [← m.len]; exact (List.getElem?_eq_some_iff.mp hb).1
  have inj : ∀ (k n : Nat) (c : Addr), g.io[k]? = some c → g.io[n]? = some c → k = n := fun k n c e1 e2 => by
    obtain ⟨l1, g1⟩ := List.getElem?_eq_some_iff.mp e1
    obtain ⟨l2, g2⟩ := List.getElem?_eq_some_iff.mp e2
    exact (List.getElem_inj m.nd).mp (g1.trans g2.symm)
  refine ⟨by simpa using m.len, m.nd, fun b x => e.sub b (m.sub b x), m'.nn, fun k c o e1 e2 => ?_⟩
  have e1 : g.io[k]? = some c := e1
  by_cases q : k = j
  · subst q
    rw [hb] at e1; cases e1
    rw [List.getElem?_set_self hj] at e2
    cases e2
    exact m'.obj 1 b (.lst bs) rfl rfl
  · rw [List.getElem?_set_ne (Ne.symm q)] at e2
    by_cases q2 : k = i
    · subst q2
      rw [ha] at e1; cases e1
      rw [hi] at e2; cases e2
      obtain ⟨dx, ys, hH, s⟩ := m'.obj 0 a _ rfl rfl
      obtain ⟨b', rfl, hb'⟩ := s.one
      have hb' : [a, b][1]? = some b' := hb'
      simp at hb'
      subst hb'
      exact ⟨dx, _, hH, .cons (.ref hb) .nil⟩
    · have hca : c ≠ a := fun z => q2 (inj k i c e1 (z ▸ ha))
      have hcb : c ≠ b := fun z => q (inj k j c e1 (z ▸ hb))
      exact (m.obj k c o e1 e2).mono (e'.keep m) (fun _ _ q => q) fun u q => e.fr c u q fun x => by
        rcases List.mem_cons.mp x with x | x
        · exact hca x
        · exact hcb (List.mem_singleton.mp x)
theorem rowsF_miss {x : Str} (h : (x == rowsF) = false) {v : V} : List.lookup x [(rowsF, v)] = none := by
  rw [List.lookup_cons, h]; rfl
def BMono (F : BFs) : Prop := ∀ ds bs (R R' : D → List D → Prop), (∀ d b, R d b → R' d b) → F ds bs R → F ds bs R'
theorem me_methM {x : Str} {o e : Expr} {es : List Expr} {to : AT} {t : AA} {k n : Nat} {F : BFs} {apos : Pos} {pl : Sem Bool} (hf : HasM X.prog X.w X.K X.mg X.base C k x n (mF F)) (hmono : BMono F) (hr : Room k X.A) (c : Cls X.K C) (ho : ME X C o to) (ha : MA X C (e :: es) t) (hx : (x == rowsF) = false := by decide)
    (hst : starEach (e :: es) X.env = (false, eval e X.env) :: starEach es X.env := by rfl) (hpl : (backTo pos (starEach es X.env)).any (·.1) = false := by rfl)
    (ht : eval (.Call (.Attribute o x apos) (e :: es) [] pos) X.env = (do
      let ov ← eval o X.env
      standAt apos.atName
      let (f, first) ← holding [ov] (getMethod ov x pl)
      callWith pos f first (backTo pos (starEach (e :: es) X.env)) (backToKw pos (keywordEach [] X.env))) := by rfl) :
    ME X C (.Call (.Attribute o x apos) (e :: es) [] pos) (eMethM n F to t) := by
  obtain ⟨f, fd, ps, hm, hb, hn, G⟩ := hf
  refine PE.imp (pe_meth ho c hm G hr hb .nil pass0 ha hst hpl ht) fun σ H Q ⟨g, h, ρ, R, m, re, ht, kk⟩ => ⟨g, h, ρ, _, m, re, ht, fun v H1 g1 h1 d e1 m1 r1 q1 => ?_⟩
  split at q1
  · rename_i i
    split at q1
    · rename_i f0 j hq0
      obtain ⟨ef, q1⟩ := q1
      subst ef
      obtain ⟨a, rfl, ha0⟩ := r1.inv_ref
      obtain ⟨dx, ys, hH, s⟩ := m1.obj i a _ ha0 hq0
      obtain ⟨b0, rfl, hb0⟩ := s.one
      refine ⟨a, dx, _, rfl, hH, rowsF_miss hx, g1, h1, ρ, _, m1, re.ext e1 m, q1, fun vs H2 g2 h2 as e2 m2 r2 q2 => ?_⟩
      split at q2
      · rename_i f2 j2 bs ds hi hj hd
        obtain ⟨ef, ej, q2, q3⟩ := q2
        subst ef ej
        have ead := datL_eq hd
        subst ead
        obtain ⟨more, hio⟩ := e2.pre
        have up : ∀ {k : Nat} {c : Addr}, g1.io[k]? = some c → g2.io[k]? = some c := fun {k c} z => by
          rw [hio, List.getElem?_append_left]
          · exact z
          · exact (List.getElem?_eq_some_iff.mp z).1
        obtain ⟨hab, m3⟩ := m2.two (up ha0) (up hb0) hi hj
        show cHF _ _ _ (.ref a :: (vs ++ [])) H2 Q E0
        rw [List.append_nil]
        refine ⟨⟨g2.N, [a, b0]⟩, [.ins [(rowsF, .ref 1)], .lst bs], .ref 0 :: ds.map .dat, (fun d hs' => ∃ bs', hs' = [.ins [(rowsF, .ref 1)], .lst bs'] ∧ R (.dat d) (h2.set j2 (.lst bs'))), m3, .cons (.ref rfl) (RVs.dats (g := ⟨g2.N, [a, b0]⟩) r2.dats), by simpa using q2, ?_, fun v H3 N' d hs' e3 m4 r3 q4 => ?_⟩
        · show rowsF = rowsF ∧ (match datL (ds.map .dat) with | some ds => F ds bs _ | none => False)
          rw [datL_map]
          exact ⟨rfl, hmono _ _ _ _ (fun d b z => ⟨b, rfl, z⟩) q3⟩
        · obtain ⟨bs', rfl, q4⟩ := q4
          have e4 := back_ext (g := g2) (fun c x => by
            rcases List.mem_cons.mp x with rfl | x
            · exact List.mem_of_getElem? (up ha0)
            · rw [List.mem_singleton.mp x]; exact List.mem_of_getElem? (up hb0)) e3
          exact kk _ _ ⟨N', g2.io⟩ _ (.dat d) ((e1.trans e2 m.sub).trans e4 m.sub) (m2.back2 (up ha0) (up hb0) hab hi e3 m4) (.dat r3) q4
      · cases q2
    · cases q1
  · cases q1

/-! ### Stepper(..) -/
def cInit (W : Wo) (F : PFs) : Sp := fun vs H Q _ => ∃ (g : NS) (H0 : Hp) (x dx : Addr) (u : V) (d : D) (R : D → Prop), vs = [.ref x, u] ∧ H = upd (upd H0 dx (.own x)) x (.ins W.C dx []) ∧ H0 x = none ∧ H0 dx = none ∧ dx ≠ x ∧ MH W ⟨g, []⟩ [] H0 ∧ RV W g H0 d u ∧ F [d] R ∧
  ∀ N' H' e, Ext ⟨g, []⟩ H0 ⟨N', []⟩ H' → MH W ⟨N', []⟩ [] H' → RV W N' H' e (.ref x) → R e → Q .non H'
def HasI (P : Program) (w : World) (K : PySem.W.Frag) (mg : Str → Option Value) (base : Heap) (C : Addr) (k : Nat) (x : Str) (F : PFs) : Prop :=
  ∃ f fd ps, mg x = some (.ref C) ∧ Mk K C f ∧ Binds K fd ps [] ∧ FnOk P w K mg base CX0 k f fd ps (cInit ⟨P, w, K, C⟩ F)
def eStepper (F : PFs) (t : AA) : AT := fun ρ h R => t ρ h fun vs h1 => match vs with | [.dat d] => F [d] fun e => R (.dat e) h1 | _ => False
theorem me_stepper {x : Str} {p : Pos} {e : Expr} {es : List Expr} {t : AA} {k : Nat} {F : PFs} (hf : HasI X.prog X.w X.K X.mg X.base C k x F) (hr : Room (k + 1) X.A) (ha : MA X C (e :: es) t)
    (hg : Gl X x := by rfl) (hdb : (x == ("__debug__" : Str)) = false := by decide) (he : starEach (e :: es) X.env = (false, eval e X.env) :: starEach es X.env := by rfl) (hpl : (backTo pos (starEach es X.env)).any (·.1) = false := by rfl) :
    ME X C (.Call (.Name x p) (e :: es) [] pos) (eStepper F t) := by
  obtain ⟨f, fd, ps, hm, hk, hb, G⟩ := hf
  refine PE.imp (pe_make hk G hr hg hm hb .nil pass0 ha hdb he hpl) fun σ H Q ⟨g, h, ρ, R, m, re, ht, kk⟩ => ⟨g, h, ρ, _, m, re, ht, fun vs H1 g1 h1 as e1 m1 r1 q1 x dx hx hdx hne => ?_⟩
  split at q1
  · rename_i d
    obtain ⟨u, rfl, ru⟩ := r1.one
    show cInit _ F [.ref x, u] _ _ E0
    refine ⟨g1.N, H1, x, dx, u, d, _, rfl, rfl, hx, hdx, hne, m1.none, ru.inv_dat, q1, fun N' H' e e2 m2 r2 q2 => ⟨rfl, ?_⟩⟩
    have e3 := back_ext (g := g1) (io := []) (fun a x => by cases x) e2
    exact kk _ _ ⟨N', g1.io⟩ h1 (.dat e) (e1.trans e3 m.sub) (m1.back0 e2 m2) (.dat r2) q2
  · cases q1
end
section
variable {P : Program} {w : World} {K : PySem.W.Frag} {mg : Str → Option Value} {base : Heap}
def topsF : Str := "tops"
/-- what __init__ has to leave -/
def iEnd (R : D → Prop) (h : AH) : Prop := ∃ rows tops, h = [.ins [(rowsF, .ref 1), (topsF, .dat (.lst tops))], .lst rows] ∧ R (.ins [.lst rows, .lst tops])
theorem hi_of {x qual : Str} {st : Stmt} {f : Addr} {fd : FuncData} {N ps : List Str} {k : Nat} {C : Addr} {F : PFs} {t : AS} (G : Fun K x qual st f fd) (S : FnScope N ps (defScope st)) (hps : ps.length = 2)
    (hbody : ∀ cdv A outer s H E, Room k (DX P w K mg base N qual st f cdv A outer s H E).A → MSs (DX P w K mg base N qual st f cdv A outer s H E) C (defBody st) t)
    (spec : ∀ d R, F [d] R → t (fun _ h => iEnd R h) (fun _ _ => False) (startA N [.ref 0, .dat d]) [.ins []]) :
    FnOk P w K mg base CX0 (k + 1) f fd ps (cInit ⟨P, w, K, C⟩ F) := by
  refine G.ok S (fun vs H Q E h => ?_) (fun cdv A outer s H vs Q E hr h => ?_)
  · obtain ⟨g, H0, x, dx, u, d, R, rfl, _⟩ := h
    exact hps.symm
  · obtain ⟨g, H0, x, dx, u, d, R, rfl, eH, hx, hdx, hne, m0, r0, hF, kk⟩ := h
    have keep0 : ∀ a o, H0 a = some o → H a = some o := fun a o e => by
      rw [eH, upd_ne (ne_of_none e hx), upd_ne (ne_of_none e hdx)]; exact e
    have nx : ¬ g x := m0.nfresh hx
    have m1 : MH ⟨P, w, K, C⟩ ⟨fun a => g a ∨ a = x, [x]⟩ [.ins []] H := by
      refine ⟨rfl, by simp, fun a z => .inr (List.mem_singleton.mp z), fun a z => ?_, fun n a o e1 e2 => ?_⟩
      · rcases z with z | z
        · obtain ⟨o, e⟩ := m0.nn a z
          exact ⟨o, keep0 a o e⟩
        · exact ⟨.ins C dx [], by rw [z, eH, upd_same]⟩
      · cases n with
        | zero =>
          simp at e1 e2
          subst e1 e2
          exact ⟨dx, [], by rw [eH, upd_same], .nil⟩
        | succ n => simp at e1
    have r1 : RV ⟨P, w, K, C⟩ (fun a => g a ∨ a = x) H d u := RV.mono (fun a o e n => ⟨keep0 a o e, fun z => z.elim n fun z => by rw [z, hx] at e; cases e⟩) d u r0
    refine ⟨_, hbody cdv A outer s H E hr, ⟨fun a => g a ∨ a = x, [x]⟩, [.ins []], startA N [.ref 0, .dat d], _, _, m1, RE.start (.cons (.ref rfl) (.cons (.dat r1) .nil)), spec d R hF, fun σ' H' g' h' ρ' e m' re' q => ?_, fun v H' g' h' d e m' r' q => q.elim⟩
    obtain ⟨rows, tops, rfl, hR⟩ := q
    obtain ⟨more, hio⟩ := e.pre
    have hl := m'.len
    have hio : g'.io = [x] ++ more := hio
    rw [hio] at hl
    obtain ⟨b, rfl⟩ : ∃ b, more = [b] := by
      match more, hl with
      | [b], _ => exact ⟨b, rfl⟩
    have hx' : g'.io[0]? = some x := by rw [hio]; rfl
    have hb' : g'.io[1]? = some b := by rw [hio]; rfl
    obtain ⟨dx', ys, hH, rf⟩ := m'.obj 0 x _ hx' rfl
    obtain ⟨xs, hH2, rr⟩ := m'.obj 1 b _ hb' rfl
    cases rf with
    | cons rf1 rf2 =>
      cases rf2 with
      | cons rf2 rf3 =>
        cases rf3
        obtain ⟨b', rfl, hb2⟩ := rf1.inv_ref
        rw [hb'] at hb2
        cases hb2
        rename_i tv
        have rt := rf2.inv_dat
        have hxb : x ≠ b := fun z => by have := m'.nd; rw [hio, z] at this; simp at this
        have hbn : H b = none := by
          rcases e.nw b (by rw [hio]; simp) with z | z
          · exact absurd (List.mem_singleton.mp z).symm hxb
          · exact z
        have hb0 : H0 b = none := by
          cases q : H0 b with
          | none => rfl
          | some o => rw [keep0 b o q] at hbn; cases hbn
        have nb : ¬ g b := m0.nfresh hb0
        have ks : ∀ a o, H' a = some o → ¬ g'.N a → H' a = some o ∧ ¬ (g'.N a ∧ a ≠ x ∧ a ≠ b) := fun a o q z => ⟨q, fun y => z y.1⟩
        refine kk (fun a => g'.N a ∧ a ≠ x ∧ a ≠ b) H' _ ⟨⟨[], rfl⟩, fun a z => ⟨e.sub a (.inl z), fun y => nx (y ▸ z), fun y => nb (y ▸ z)⟩, fun a z => ?_, fun a z => (by cases z), fun a o q _ => ?_⟩ ⟨rfl, .nil, fun a z => (by cases z), fun a z => m'.nn a z.1, fun n a o e1 => by simp at e1⟩
          (.ins (xs := [.ref b, tv]) hH (fun z => z.2.1 rfl) rfl (.cons (.lst (.inl ⟨.inl hH2, fun z => z.2.2 rfl⟩) (RVs.mono ks _ _ rr)) (.cons (RV.mono ks _ _ rt) .nil))) hR
        · obtain ⟨z1, z2, z3⟩ := z
          rcases e.new a z1 with (y | y) | y
          · exact .inl y
          · exact absurd y z2
          · refine .inr ?_
            cases q : H0 a with
            | none => rfl
            | some o => rw [keep0 a o q] at y; cases y
        · exact e.fr a o (keep0 a o q) fun z => by rw [List.mem_singleton.mp z, hx] at q; cases q
end
end AL
end
section
set_option Elab.async false
set_option linter.all false
set_option maxRecDepth 100000
/-! AL12: the reckoning of ints by letters, so that a denotation may be evaluated without opening + of Int. -/
namespace AL
open PySem PySem.Spec PyProof.Rows L2
inductive Op where
  | plus | minus | times | mn | mx | fm | fd | lt | le | cm | cd | nz
@[reducible] def Op.ty : Op → Type
  | .lt => Bool
  | .le => Bool
  | .cm => Prop
  | .cd => Prop
  | .nz => Prop
  | _ => Int
abbrev Ar := (o : Op) → Int → Int → o.ty
def realA : Ar := fun o i j => match o with
  | .plus => (i + j : Int)
  | .minus => (i - j : Int)
  | .times => (i * j : Int)
  | .mn => (if j < i then j else i : Int)
  | .mx => (if j > i then j else i : Int)
  | .fm => (i.fmod j : Int)
  | .fd => (i.fdiv j : Int)
  | .lt => decide (i < j)
  | .le => decide (i ≤ j)
  | .cm => CMul i j
  | .cd => CDivN i j
  | .nz => j ≠ 0
structure ArOk (Z : Ar) : Prop where
  plus : ∀ i j, Z .plus i j = i + j
  minus : ∀ i j, Z .minus i j = i - j
  times : ∀ i j, Z .times i j = i * j
  mn : ∀ i j, Z .mn i j = min i j
  mx : ∀ i j, Z .mx i j = max i j
  fm : ∀ i j, Z .fm i j = i.fmod j
  fd : ∀ i j, Z .fd i j = i.fdiv j
  lt : ∀ i j, Z .lt i j = decide (i < j)
  le : ∀ i j, Z .le i j = decide (i ≤ j)
  cm : ∀ i j, Z .cm i j = CMul i j
  cd : ∀ i j, Z .cd i j = CDivN i j
  nz : ∀ i j, Z .nz i j = (j ≠ 0)
theorem realA_ok : ArOk realA := ⟨fun _ _ => rfl, fun _ _ => rfl, fun _ _ => rfl, fun i j => by show (if j < i then j else i) = _; split <;> omega, fun i j => by show (if j > i then j else i) = _; split <;> omega, fun _ _ => rfl, fun _ _ => rfl, fun _ _ => rfl, fun _ _ => rfl, fun _ _ => rfl, fun _ _ => rfl, fun _ _ => rfl⟩
def rAddZ (Z : Ar) : AR2 := fun d e h R => match d, e with
  | .dat (.int i), .dat (.int j) => R (.dat (.int (Z .plus i j))) h
  | .dat (.str x), .dat (.str y) => x.length + y.length ≤ sizeLine ∧ R (.dat (.str (x ++ y))) h
  | .dat (.tup xs), .dat (.tup ys) => xs.length + ys.length ≤ sizeLine ∧ R (.dat (.tup (xs ++ ys))) h
  | .dat (.lst xs), .dat (.lst ys) => xs.length + ys.length ≤ sizeLine ∧ R (.dat (.lst (xs ++ ys))) h
  | _, _ => False
def rSubZ (Z : Ar) : AR2 := fun d e h R => match d, e with | .dat (.int i), .dat (.int j) => R (.dat (.int (Z .minus i j))) h | _, _ => False
def rMulZ (Z : Ar) : AR2 := fun d e h R => match d, e with | .dat (.int i), .dat (.int j) => Z .cm i j ∧ R (.dat (.int (Z .times i j))) h | _, _ => False
def rModZ (Z : Ar) : AR2 := fun d e h R => match d, e with | .dat (.int i), .dat (.int j) => Z .nz i j ∧ R (.dat (.int (Z .fm i j))) h | _, _ => False
def rFdivZ (Z : Ar) : AR2 := fun d e h R => match d, e with | .dat (.int i), .dat (.int j) => Z .cd i j ∧ R (.dat (.int (Z .fd i j))) h | _, _ => False
def rLtZ (Z : Ar) : AR2 := fun d e h R => match d, e with | .dat (.int i), .dat (.int j) => R (.dat (.bl (Z .lt i j))) h | _, _ => False
def rLeZ (Z : Ar) : AR2 := fun d e h R => match d, e with | .dat (.int i), .dat (.int j) => R (.dat (.bl (Z .le i j))) h | _, _ => False
def rGtZ (Z : Ar) : AR2 := fun d e h R => match d, e with | .dat (.int i), .dat (.int j) => R (.dat (.bl (Z .lt j i))) h | _, _ => False
def rGeZ (Z : Ar) : AR2 := fun d e h R => match d, e with | .dat (.int i), .dat (.int j) => R (.dat (.bl (Z .le j i))) h | _, _ => False
def rMin2Z (Z : Ar) : ARs := fun vs h R => match vs with
  | [.dat (.int i), .dat (.int j)] => R (.dat (.int (Z .mn i j))) h
  | _ => False
def rMax2Z (Z : Ar) : ARs := fun vs h R => match vs with
  | [.dat (.int i), .dat (.int j)] => R (.dat (.int (Z .mx i j))) h
  | _ => False
section
variable {X : Cx} {C : Addr}
theorem o_addZ : OpR X (binaryOp .Add) (cR2 (wo X C) (rAddZ realA)) := o_add
theorem o_subZ : OpR X (binaryOp .Sub) (cR2 (wo X C) (rSubZ realA)) := o_sub
theorem o_mulZ : OpR X (binaryOp .Mult) (cR2 (wo X C) (rMulZ realA)) := o_mul
theorem o_modZ : OpR X (binaryOp .Mod) (cR2 (wo X C) (rModZ realA)) := o_mod
theorem o_fdivZ : OpR X (binaryOp .FloorDiv) (cR2 (wo X C) (rFdivZ realA)) := o_fdiv
theorem o_ltZ : OpR X (compareOp .Lt) (cR2 (wo X C) (rLtZ realA)) := o_lt
theorem o_leZ : OpR X (compareOp .LtE) (cR2 (wo X C) (rLeZ realA)) := o_le
theorem o_gtZ : OpR X (compareOp .Gt) (cR2 (wo X C) (rGtZ realA)) := o_gt
theorem o_geZ : OpR X (compareOp .GtE) (cR2 (wo X C) (rGeZ realA)) := o_ge
theorem c_max2Z (hc : X.calm = true) : CallR X (.builtin "max") (cRs (wo X C) (rMax2Z realA)) := c_max2 hc
theorem c_min2Z (hc : X.calm = true) : CallR X (.builtin "min") (cRs (wo X C) (rMin2Z realA)) := c_min2 hc
end
end AL
end
section
set_option Elab.async false
set_option linter.all false
set_option maxRecDepth 100000
/-! AL13: lists, loops by letters, so that a denotation may be evaluated up to them. -/
namespace AL
open PySem PySem.Spec PyProof.Rows L2
inductive LOp where
  | app | appS | len | lenS | at_ | atS | set_ | last | init | cut | cutS | iL | sum | bL | any_ | pL | sL | zip_ | zipT | enum | rng | rng3 | rok | loop | lc | whl | valD | putD | lvl | fit | fit1 | fit2 | fitS | fitS2 | fitK | dzip | key | isIn | dep | notIn | fitN | appN
@[reducible] def LOp.ty : LOp → Type
  | .app => List D → List D → List D
  | .appS => Str → Str → Str
  | .len => List D → Int
  | .lenS => Str → Int
  | .at_ => List D → Int → Option D
  | .atS => Str → Int → Option Str
  | .set_ => List D → Int → D → Option (List D)
  | .last => List D → Option D
  | .init => List D → List D
  | .cut => List D → Option Int → Option Int → List D
  | .cutS => Str → Option Int → Option Int → Str
  | .iL => List D → Option (List Int)
  | .sum => List Int → Int
  | .bL => List D → Option (List Bool)
  | .any_ => List Bool → Bool
  | .pL => List D → Option (List (Int × Int))
  | .sL => List D → Option (List Str)
  | .zip_ => List D → List D → List D
  | .zipT => List D → List D → List D
  | .enum => List D → List D
  | .rng => Int → List D
  | .rng3 => Int → Int → List D
  | .rok => Int → Prop
  | .loop => AG → AS → (En → AH → Prop) → (AV → AH → Prop) → List D → En → AH → Prop
  | .lc => Tgt → AB → AT → En → List D → List D → AH → (AV → AH → Prop) → Prop
  | .whl => AB → AS → (En → AH → Prop) → (AV → AH → Prop) → En → AH → Prop
  | .valD => List (Key × D) → Key → Option D
  | .putD => List (Key × D) → Key → D → List (Key × D)
  | .lvl => List (Key × Int) → Key → Option Int
  | .fit => List D → Prop
  | .fit1 => List D → Prop
  | .fit2 => List D → List D → Prop
  | .fitS => Str → Prop
  | .fitS2 => Str → Str → Prop
  | .fitK => List (Key × D) → Prop
  | .dzip => List D → List D → Option (List (Key × Int))
  | .key => D → Option NestedKey
  | .isIn => NestedKey → List NestedKey → Bool
  | .dep => NestedKey → Prop
  | .notIn => NestedKey → List NestedKey → Prop
  | .fitN => List NestedKey → Prop
  | .appN => List NestedKey → NestedKey → List NestedKey
abbrev LY := (o : LOp) → o.ty
def dzipF (ks ds : List D) : Option (List (Key × Int)) := match strL ks, intL ds with
  | some ns, some is => if ns.Nodup ∧ ns.length = is.length then some ((ns.map Sum.inr).zip is) else none
  | _, _ => none
def realY : LY := fun o => match o with
  | .app => fun xs ys => xs ++ ys
  | .appS => fun xs ys => xs ++ ys
  | .len => fun xs => (xs.length : Int)
  | .lenS => fun xs => (xs.length : Int)
  | .at_ => fun xs i => atI xs i
  | .atS => fun x i => (atI x.cps.toList i).map fun c => ⟨#[c]⟩
  | .set_ => fun xs i d => (ixN xs.length i).map fun j => xs.set j d
  | .last => fun xs => xs[xs.length - 1]?
  | .init => fun xs => xs.dropLast
  | .cut => fun xs lo hi => cutD xs lo hi
  | .cutS => fun xs lo hi => cutS xs lo hi
  | .iL => intL
  | .sum => fun ns => ns.sum
  | .bL => blL
  | .any_ => fun bs => bs.any id
  | .pL => pairL
  | .sL => strL
  | .zip_ => zpD
  | .zipT => zpD
  | .enum => fun ds => enD 0 ds
  | .rng => fun j => rgD 0 1 j.toNat
  | .rng3 => fun i j => rgD i (-1) (i - j).toNat
  | .rok => fun j => -(2 ^ 62) ≤ j ∧ j < 2 ^ 62
  | .loop => loopA
  | .lc => lcA
  | .whl => sWhile
  | .valD => valD
  | .putD => putD
  | .lvl => fun kvs k => (kvs.find? fun kv => decide (kv.1 = k)).map (·.2)
  | .fit => fun xs => xs.length < sizeLine
  | .fit1 => fun xs => xs.length ≤ sizeLine
  | .fit2 => fun xs ys => xs.length + ys.length ≤ sizeLine
  | .fitS => fun x => x.length ≤ sizeLine
  | .fitS2 => fun x y => x.length + y.length ≤ sizeLine
  | .fitK => fun kvs => kvs.length < sizeLine
  | .dzip => dzipF
  | .key => toKey
  | .isIn => fun k ks => decide (k ∈ ks)
  | .dep => fun k => k.depth ≤ 8
  | .notIn => fun k ks => k ∉ ks
  | .fitN => fun ks => ks.length < sizeLine
  | .appN => fun ks k => ks ++ [k]
structure YOk (Y : LY) : Prop where
  app : ∀ a b, Y .app a b = a ++ b
  appS : ∀ a b, Y .appS a b = a ++ b
  len : ∀ a, Y .len a = (a.length : Int)
  lenS : ∀ a, Y .lenS a = (a.length : Int)
  at_ : ∀ a i, Y .at_ a i = atI a i
  atS : ∀ (x : Str) i, Y .atS x i = (atI x.cps.toList i).map fun c => (⟨#[c]⟩ : Str)
  set_ : ∀ a i d, Y .set_ a i d = (ixN a.length i).map fun j => a.set j d
  last : ∀ a, Y .last a = a[a.length - 1]?
  init : ∀ a, Y .init a = a.dropLast
  cut : ∀ a lo hi, Y .cut a lo hi = cutD a lo hi
  cutS : ∀ a lo hi, Y .cutS a lo hi = cutS a lo hi
  iL : ∀ a, Y .iL a = intL a
  sum : ∀ a, Y .sum a = a.sum
  bL : ∀ a, Y .bL a = blL a
  any_ : ∀ a, Y .any_ a = a.any id
  pL : ∀ a, Y .pL a = pairL a
  sL : ∀ a, Y .sL a = strL a
  zip_ : ∀ a b, Y .zip_ a b = zpD a b
  zipT : ∀ a b, Y .zipT a b = zpD a b
  enum : ∀ a, Y .enum a = enD 0 a
  rng : ∀ j : Int, Y .rng j = rgD 0 1 j.toNat
  rng3 : ∀ i j : Int, Y .rng3 i j = rgD i (-1) (i - j).toNat
  rok : ∀ j : Int, Y .rok j = (-(2 ^ 62) ≤ j ∧ j < 2 ^ 62)
  loop : Y .loop = loopA
  lc : Y .lc = lcA
  whl : Y .whl = sWhile
  valD : ∀ a k, Y .valD a k = valD a k
  putD : ∀ a k v, Y .putD a k v = putD a k v
  lvl : ∀ (kvs : List (Key × Int)) k, Y .lvl kvs k = (kvs.find? fun kv => decide (kv.1 = k)).map (·.2)
  fit : ∀ a, Y .fit a = (a.length < sizeLine)
  fit1 : ∀ a, Y .fit1 a = (a.length ≤ sizeLine)
  fit2 : ∀ a b, Y .fit2 a b = (a.length + b.length ≤ sizeLine)
  fitS : ∀ a, Y .fitS a = (a.length ≤ sizeLine)
  fitS2 : ∀ a b, Y .fitS2 a b = (a.length + b.length ≤ sizeLine)
  fitK : ∀ a, Y .fitK a = (a.length < sizeLine)
  dzip : ∀ a b, Y .dzip a b = dzipF a b
  key : ∀ d, Y .key d = toKey d
  isIn : ∀ k ks, Y .isIn k ks = decide (k ∈ ks)
  dep : ∀ k, Y .dep k = (k.depth ≤ 8)
  notIn : ∀ k ks, Y .notIn k ks = (k ∉ ks)
  fitN : ∀ ks, Y .fitN ks = (ks.length < sizeLine)
  appN : ∀ ks k, Y .appN ks k = ks ++ [k]
theorem realY_ok : YOk realY := by constructor <;> first | rfl | (intros; rfl)

def rAddY (Z : Ar) (Y : LY) : AR2 := fun d e h R => match d, e with
  | .dat (.int i), .dat (.int j) => R (.dat (.int (Z .plus i j))) h
  | .dat (.str x), .dat (.str y) => Y .fitS2 x y ∧ R (.dat (.str (Y .appS x y))) h
  | .dat (.tup xs), .dat (.tup ys) => Y .fit2 xs ys ∧ R (.dat (.tup (Y .app xs ys))) h
  | .dat (.lst xs), .dat (.lst ys) => Y .fit2 xs ys ∧ R (.dat (.lst (Y .app xs ys))) h
  | _, _ => False
def rLenY (Y : LY) : ARs := fun vs h R => match vs with
  | [.dat (.str x)] => Y .fitS x ∧ R (.dat (.int (Y .lenS x))) h
  | [v] => (match itemsOf h v with | some ds => R (.dat (.int (Y .len ds))) h | none => False)
  | _ => False
def rIxY (Y : LY) : AR2 := fun d e h R => match d, e with
  | .dat (.str x), .dat (.int i) => Y .fitS x ∧ (match Y .atS x i with | some c => R (.dat (.str c)) h | none => False)
  | d, .dat (.int i) => (match itemsOf h d with | some ds => (match Y .at_ ds i with | some z => R (.dat z) h | none => False) | none => False)
  | _, _ => False
def setLY (Y : LY) : ASet := fun o i v h R => match o, i, v with
  | .ref n, .dat (.int k), .dat d => (match h[n]? with
    | some (.lst ds) => (match Y .set_ ds k d with | some ds' => R (h.set n (.lst ds')) | none => False)
    | _ => False)
  | _, _, _ => False
def eAppendY (Y : LY) (to : AT) (t : AA) : AT := fun ρ h R => to ρ h fun o h1 => match o with
  | .ref n => (match h1[n]? with
    | some (.lst _) => t ρ h1 fun vs h2 => (match vs, h2[n]? with
      | [.dat d], some (.lst ds) => Y .fit ds ∧ R (.dat .non) (h2.set n (.lst (Y .app ds [d])))
      | _, _ => False)
    | _ => False)
  | _ => False
def ePopY (Y : LY) (to : AT) : AT := fun ρ h R => to ρ h fun o h1 => match o with
  | .ref n => (match h1[n]? with
    | some (.lst ds) => (match Y .last ds with | some d => R (.dat d) (h1.set n (.lst (Y .init ds))) | none => False)
    | _ => False)
  | _ => False
def rSlY (Y : LY) : AV → Option Int → Option Int → AH → (AV → AH → Prop) → Prop := fun d lo hi h R => match d with
  | .dat (.tup xs) => R (.dat (.tup (Y .cut xs lo hi))) h
  | .dat (.lst xs) => R (.dat (.lst (Y .cut xs lo hi))) h
  | .dat (.str x) => Y .fitS x ∧ R (.dat (.str (Y .cutS x lo hi))) h
  | _ => False
def eSlY (Y : LY) (te : AT) (tl th : AO1) : AT := fun ρ h R => te ρ h fun d h1 => tl ρ h1 fun lo h2 => th ρ h2 fun hi h3 => rSlY Y d lo hi h3 R
def rSumY (Y : LY) : ARs := fun vs h R => match vs with
  | [v] => (match itemsOf h v with | some ds => (match Y .iL ds with | some ns => R (.dat (.int (Y .sum ns))) h | none => False) | none => False)
  | _ => False
def rAnyY (Y : LY) : ARs := fun vs h R => match vs with
  | [v] => (match itemsOf h v with | some ds => (match Y .bL ds with | some ns => R (.dat (.bl (Y .any_ ns))) h | none => False) | none => False)
  | _ => False
def rMinLY (Y : LY) : ARs := fun vs h R => match vs with
  | [.dat (.lst ds)] => (match Y .iL ds with | some ns => 0 < ns.length ∧ ∀ i, i ∈ ns → (∀ y, y ∈ ns → i ≤ y) → R (.dat (.int i)) h | none => False)
  | _ => False
def rSortedY (Y : LY) : ARs := fun vs h R => match vs with
  | [.dat (.lst ds)] => (match Y .pL ds with | some ps => ∀ qs : List (Int × Int), qs.Perm ps → qs.Pairwise lexLe → R (.dat (.lst (qs.map pD))) h | none => False)
  | _ => False
def iRg1Y (Y : LY) (t : AA) : AI := fun ρ h S => t ρ h fun ds h1 => match ds with | [.dat (.int j)] => Y .rok j ∧ S (Y .rng j) h1 | _ => False
def iRg3Y (Y : LY) (t : AA) : AI := fun ρ h S => t ρ h fun ds h1 => match ds with
  | [.dat (.int i), .dat (.int j), .dat (.int (-1))] => Y .rok i ∧ Y .rok j ∧ S (Y .rng3 i j) h1 | _ => False
def iEnmY (Y : LY) (t : AA) : AI := fun ρ h S => t ρ h fun ds h1 => match ds with | [.dat (.lst ds)] => S (Y .enum ds) h1 | _ => False
def iZpY (Y : LY) (t : AA) : AI := fun ρ h S => t ρ h fun ds h1 => match ds with | [.dat (.lst ds), .dat (.lst es)] => S (Y .zip_ ds es) h1 | _ => False
def sForY (Y : LY) (wi : AI) (gt : AG) (tb : AS) : AS := fun nx rt ρ h => wi ρ h fun ds h1 => Y .loop gt tb nx rt ds ρ h1
def sWhileY (Y : LY) (c : AB) (t : AS) : AS := fun nx rt ρ h => Y .whl c t nx rt ρ h
def eLcY (Y : LY) (wi : AI) (t : Tgt) (tt : AB) (te : AT) : AT := fun ρ h R => wi ρ h fun ds h1 => Y .lc t tt te ρ ds [] h1 R
def eDGetY (Y : LY) (td tk : AT) : AT := fun ρ h R => td ρ h fun o h1 => tk ρ h1 fun i h2 => match o, i with
  | .ref n, .dat d => (match h2[n]?, keyOf d with
    | some (.dK kvs), some k => (match Y .valD kvs k with | some v => R (.dat v) h2 | none => False)
    | _, _ => False)
  | .dat (.dk kvs), .dat d => (match keyOf d with
    | some k => (match Y .lvl kvs k with | some v => R (.dat (.int v)) h2 | none => False)
    | none => False)
  | _, _ => False
def setDY (Y : LY) : ASet := fun o i v h R => match o, i, v with
  | .ref n, .dat i, .dat d => (match h[n]?, keyOf i with
    | some (.dK kvs), some k => Y .fitK kvs ∧ R (h.set n (.dK (Y .putD kvs k d)))
    | _, _ => False)
  | _, _, _ => False
def rInSY (Y : LY) (neg : Bool) : AR2 := fun d e h R => match d, itemsOf h e with
  | .dat (.str x), some ds => (match Y .sL ds with | some ss => R (.dat (.bl (if neg = true then !decide (x ∈ ss) else decide (x ∈ ss)))) h | none => False)
  | _, _ => False
theorem iRg1Y_eq (t : AA) : iRg1Y realY t = iRg1 t := by
  funext ρ h S
  unfold iRg1Y iRg1
  congr 1
  funext ds h1
  refine propext ⟨fun q => ?_, fun q => ?_⟩ <;> split at q
  · exact ⟨q.1.1, q.1.2, q.2⟩
  · cases q
  · exact ⟨⟨q.1, q.2.1⟩, q.2.2⟩
  · cases q
theorem iRg3Y_eq (t : AA) : iRg3Y realY t = iRg3 t := by
  funext ρ h S
  unfold iRg3Y iRg3
  congr 1
  funext ds h1
  refine propext ⟨fun q => ?_, fun q => ?_⟩ <;> split at q
  · exact ⟨q.1.1, q.1.2, q.2.1.1, q.2.1.2, q.2.2⟩
  · cases q
  · exact ⟨⟨q.1, q.2.1⟩, ⟨q.2.2.1, q.2.2.2.1⟩, q.2.2.2.2⟩
  · cases q

theorem mt_some {α β : Type} {o : Option α} {f : α → β} {k : β → Prop} : (match o.map f with | some c => k c | none => False) = (match o with | some c => k (f c) | none => False) := by cases o <;> rfl
theorem bd_some {α β : Type} {o : Option α} {f : α → Option β} {k : β → Prop} : (match o with | some c => (match f c with | some z => k z | none => False) | none => False) = (match o.bind f with | some c => k c | none => False) := by cases o <;> rfl
def rInKY (Y : LY) (neg : Bool) : AR2 := fun d e h R => match d, e with
  | .dat (.tup ds), .ref n => (match h[n]?, Y .key (.tup ds) with
    | some (.dN ks), some k => Y .dep k ∧ R (.dat (.bl (if neg = true then !(Y .isIn k ks) else Y .isIn k ks))) h
    | _, _ => False)
  | _, _ => False
def setKY (Y : LY) : ASet := fun o i v h R => match o, i, v with
  | .ref n, .dat (.tup ds), .dat (.bl true) => (match h[n]?, Y .key (.tup ds) with
    | some (.dN ks), some k => Y .dep k ∧ Y .notIn k ks ∧ Y .fitN ks ∧ R (h.set n (.dN (Y .appN ks k)))
    | _, _ => False)
  | _, _, _ => False
def eDKey1Y (Y : LY) (tk : AT) : AT := fun ρ h R => tk ρ h fun d h1 => match d with
  | .dat (.tup ds) => (match Y .key (.tup ds) with | some k => Y .dep k ∧ R (.ref h1.length) (h1 ++ [.dN [k]]) | none => False)
  | _ => False
def eDictZipY (Y : LY) (t : AA) : AT := fun ρ h R => t ρ h fun vs h1 => match vs with
  | [.dat (.lst ks), .dat (.tup ds)] => (match Y .dzip ks ds with
    | some kvs => R (.dat (.dk kvs)) h1
    | none => False)
  | _ => False
theorem eDictZipY_le {t : AA} {ρ : En} {h : AH} {R : AV → AH → Prop} : eDictZipY realY t ρ h R = eDictZip t ρ h R := by
  unfold eDictZipY eDictZip
  congr 1
  funext vs h1
  refine propext ⟨fun q => ?_, fun q => ?_⟩ <;> split at q
  · rename_i ks ds
    simp only [realY, dzipF] at q
    split at q
    · rename_i kvs he
      split at he
      · rename_i ns is e1 e2
        split at he
        · rename_i hc
          cases he
          first
            | (simp only [e1, e2]; exact ⟨hc.1, hc.2, q⟩)
            | exact ⟨hc.1, hc.2, q⟩
            | (rw [e1, e2]; exact ⟨hc.1, hc.2, q⟩)
        · cases he
      · cases he
    · cases q
  · cases q
  · rename_i ks ds
    simp only [realY, dzipF]
    split at q
    · rename_i ns is e1 e2
      simp only [e1, e2, if_pos (And.intro q.1 q.2.1)]
      exact q.2.2
    · cases q
  · cases q
theorem rIxY_eq : rIxY realY = rIx := by
  funext d e h R
  unfold rIxY rIx
  cases d with
  | dat d => cases e with
    | dat e =>
      cases d <;> cases e <;> try rfl
      case str.int x i => simp only [realY]; cases atI x.cps.toList i <;> rfl
    | ref _ => cases d <;> rfl
  | ref n => cases e with
    | dat e =>
      cases e <;> try rfl
      case int i =>
        simp only [realY]
        cases itemsOf h (.ref n) <;> rfl
    | ref _ => rfl
theorem setLY_eq : setLY realY = setL := by
  funext o i v h R
  unfold setLY setL
  cases o with
  | dat _ => rfl
  | ref n => cases i with
    | ref _ => rfl
    | dat i => cases i <;> try rfl
               case int k => cases v with
                 | ref _ => rfl
                 | dat d =>
                   simp only [realY]
                   cases h[n]? with
                   | none => rfl
                   | some o => cases o <;> try rfl
                               case lst ds => simp only; cases ixN ds.length k <;> rfl
theorem rSumY_eq : rSumY realY = rSum := by
  funext vs h R
  unfold rSumY rSum
  match vs with
  | [] => rfl
  | _ :: _ :: _ => rfl
  | [v] =>
    simp only [realY]
    cases itemsOf h v with
    | none => rfl
    | some ds => simp only [Option.bind_some] <;> (cases intL ds <;> rfl)
theorem rAnyY_eq : rAnyY realY = rAny := by
  funext vs h R
  unfold rAnyY rAny
  match vs with
  | [] => rfl
  | _ :: _ :: _ => rfl
  | [v] =>
    simp only [realY]
    cases itemsOf h v with
    | none => rfl
    | some ds => simp only [Option.bind_some] <;> (cases blL ds <;> rfl)
theorem rInSY_eq (neg : Bool) : rInSY realY neg = rInS neg := by
  funext d e h R
  unfold rInSY rInS
  cases itemsOf h e with
  | none => cases d with
    | dat d => cases d <;> rfl
    | ref _ => rfl
  | some ds =>
    simp only [Option.bind_some, realY]
    cases d with
    | dat d => cases d <;> first | rfl | (simp only; cases strL ds <;> rfl)
    | ref _ => rfl
section
variable {X : Cx} {C : Addr} {pos : Pos}
theorem o_addY : OpR X (binaryOp .Add) (cR2 (wo X C) (rAddY realA realY)) := o_add
theorem c_lenY : CallR X (.builtin "len") (cRs (wo X C) (rLenY realY)) := c_len
theorem me_ixY {a b : Expr} {ta tb : AT} (ha : ME X C a ta) (hb : ME X C b tb) (hs : PlainIx b := by exact fun _ _ => rfl) : ME X C (.Subscript a b pos) (eOp (rIxY realY) ta tb) := by
  rw [rIxY_eq]; exact me_ix ha hb hs
theorem p_setLY : PSet X (cSet (wo X C) (setLY realY)) := by rw [setLY_eq]; exact p_setL
theorem c_sumY (hc : X.calm = true) : CallR X (.builtin "sum") (cRs (wo X C) (rSumY realY)) := by rw [rSumY_eq]; exact c_sum hc
theorem c_anyY (hc : X.calm = true) : CallR X (.builtin "any") (cRs (wo X C) (rAnyY realY)) := by rw [rAnyY_eq]; exact c_any hc
theorem c_minLY (hc : X.calm = true) : CallR X (.builtin "min") (cRs (wo X C) (rMinLY realY)) := c_minL hc
theorem c_sortedY : CallR X (.builtin "sorted") (cRs (wo X C) (rSortedY realY)) := c_sorted
theorem mi_range1Y {tg a : Expr} {t : AA} {p : Pos} (hm : X.mg "range" = none) (ha : MA X C [a] t) (hg : Gl X "range" := by rfl) (hs : starEach [a] X.env = [(false, eval a X.env)] := by rfl) : MI X C tg (.Call (.Name "range" p) [a] [] pos) (iRg1Y realY t) := by
  rw [iRg1Y_eq]; exact mi_range1 hm ha hg hs
theorem mi_range3Y {tg a b c : Expr} {t : AA} {p : Pos} (hm : X.mg "range" = none) (ha : MA X C [a, b, c] t) (hg : Gl X "range" := by rfl)
    (hs : starEach [a, b, c] X.env = (false, eval a X.env) :: starEach [b, c] X.env := by rfl) (hpl : (backTo pos (starEach [b, c] X.env)).any (·.1) = false := by rfl) : MI X C tg (.Call (.Name "range" p) [a, b, c] [] pos) (iRg3Y realY t) := by
  rw [iRg3Y_eq]; exact mi_range3 hm ha hg hs hpl
theorem o_notinKY (hu : X.A.units + 64 < cLine) : OpR X (compareOp .NotIn) (cR2 (wo X C) (rInKY realY true)) := o_notinK hu
theorem p_setKY (hu : X.A.units + 64 < cLine) : PSet X (cSet (wo X C) (setKY realY)) := p_setK hu
theorem me_dkey1Y {e : Expr} {j} {pb : Pos} {tk : AT} (hu : X.A.units + 64 < cLine) (he : ME X C e tk) : ME X C (.Dict [some e] [.Constant (.bool true) j pb] pos) (eDKey1Y realY tk) := me_dkey1 hu he
theorem eDictZipY_eq (t : AA) : eDictZipY realY t = eDictZip t := by funext ρ h R; exact eDictZipY_le
theorem me_dictzipY {e e2 : Expr} {t : AA} {p p2 : Pos} {pos2 : Pos} (hc : X.calm = true) (hm : X.mg "dict" = none) (hmz : X.mg "zip" = none) (ha : MA X C [e, e2] t) (hg : Gl X "dict" := by rfl) (hgz : Gl X "zip" := by rfl)
    (hs : starEach [e, e2] X.env = (false, eval e X.env) :: starEach [e2] X.env := by rfl) (hpl : (backTo pos2 (starEach [e2] X.env)).any (·.1) = false := by rfl)
    (hs2 : starEach [.Call (.Name "zip" p2) [e, e2] [] pos2] X.env = (false, eval (.Call (.Name "zip" p2) [e, e2] [] pos2) X.env) :: starEach [] X.env := by rfl) (hpl2 : (backTo pos (starEach [] X.env)).any (·.1) = false := by rfl) :
    ME X C (.Call (.Name "dict" p) [.Call (.Name "zip" p2) [e, e2] [] pos2] [] pos) (eDictZipY realY t) := by
  rw [eDictZipY_eq]; exact me_dictzip hc hm hmz ha hg hgz hs hpl hs2 hpl2
theorem p_setDY (hu : X.A.units + 1 < cLine) : PSet X (cSet (wo X C) (setDY realY)) := p_setD hu
theorem o_inSY : OpR X (compareOp .In) (cR2 (wo X C) (rInSY realY false)) := by rw [rInSY_eq]; exact o_inS
theorem o_notinSY : OpR X (compareOp .NotIn) (cR2 (wo X C) (rInSY realY true)) := by rw [rInSY_eq]; exact o_notinS
end
end AL
end
section
set_option Elab.async false
set_option linter.all false
set_option maxRecDepth 100000
/-! AL14: f(xs), xs a list of the def's own, which f looks at alone; its value is a tuple of pairs. -/
namespace AL
open PySem PySem.Spec PyProof.Rows L2
def eCallL (F : PFs) (t : AA) : AT := fun ρ h R => t ρ h fun vs h1 => match vs with
  | [.ref j] => (match h1[j]? with
    | some (.lst ds) => F [.lst ds] fun d => ∃ ps : List (Int × Int), d = .tup (ps.map pD) ∧ R (.dat d) h1
    | _ => False)
  | _ => False
section
variable {W : Wo} {N : NS} {H : Hp} {a : Addr} {ys : List V}
theorem ft_more {p : Addr} {xs : List V} (ha : H a = some (.lst ys)) (f : FT W.K N H p xs) : FT W.K (fun b => N b ∨ b = a) H p xs := by
  rcases f with ⟨r, n⟩ | f
  · refine .inl ⟨r, fun z => z.elim n fun e => ?_⟩
    subst e
    rcases r with r | ⟨o, r⟩ <;> rw [ha] at r <;> cases r
  · exact .inr f
theorem rv_pair {p : Int × Int} {v : V} (ha : H a = some (.lst ys)) (r : RV W N H (pD p) v) : RV W (fun b => N b ∨ b = a) H (pD p) v := by
  cases r with
  | tup f rs =>
    refine .tup (ft_more ha f) ?_
    cases rs with
    | cons r1 rs => cases rs with
      | cons r2 rs =>
        cases r1; cases r2; cases rs
        exact .cons (.int _) (.cons (.int _) .nil)
theorem rvs_pairs (ha : H a = some (.lst ys)) : ∀ {ps : List (Int × Int)} {vs : List V}, RVs W N H (ps.map pD) vs → RVs W (fun b => N b ∨ b = a) H (ps.map pD) vs
  | [], _, r => by cases r; exact .nil
  | p :: ps, _, r => by
    cases r with
    | cons r1 r2 => exact .cons (rv_pair ha r1) (rvs_pairs ha r2)
theorem rv_pairs {ps : List (Int × Int)} {v : V} (ha : H a = some (.lst ys)) (r : RV W N H (.tup (ps.map pD)) v) : RV W (fun b => N b ∨ b = a) H (.tup (ps.map pD)) v := by
  cases r with
  | tup f rs => exact .tup (ft_more ha f) (rvs_pairs ha rs)
end
section
variable {X : Cx} {C : Addr} {pos : Pos}
theorem me_callL {x : Str} {p : Pos} {e : Expr} {t : AA} {k : Nat} {F : PFs} (hf : HasF X.prog X.w X.K X.mg X.base C k x 1 (pF F)) (hr : Room k X.A) (ha : MA X C [e] t)
    (hg : Gl X x := by rfl) (hdb : (x == ("__debug__" : Str)) = false := by decide) (he : starEach [e] X.env = (false, eval e X.env) :: starEach [] X.env := by rfl) (hpl : (backTo pos (starEach [] X.env)).any (·.1) = false := by rfl) :
    ME X C (.Call (.Name x p) [e] [] pos) (eCallL F t) := by
  obtain ⟨f, fd, ps, hm, hk, hb, hn, G⟩ := hf
  refine PE.imp (pe_call G hr hg hm hk hb .nil pass0 ha hdb he hpl) fun σ H Q ⟨g, h, ρ, R, m, re, ht, kk⟩ => ⟨g, h, ρ, _, m, re, ht, fun vs H1 g1 h1 as e1 m1 r1 q1 => ?_⟩
  show cHF _ _ _ (vs ++ []) H1 Q E0
  rw [List.append_nil]
  split at q1
  · rename_i j
    split at q1
    · rename_i ds hq
      obtain ⟨u, rfl, ru⟩ := r1.one
      obtain ⟨a, rfl, haj⟩ := ru.inv_ref
      obtain ⟨xs, hH, s⟩ := m1.obj j a _ haj hq
      have hin := List.mem_of_getElem? haj
      refine ⟨⟨fun b => g1.N b ∧ b ≠ a, []⟩, [], [.dat (.lst ds)], (fun d _ => ∃ ps : List (Int × Int), d = .tup (ps.map pD) ∧ R (.dat d) h1), ⟨rfl, .nil, (fun b x => by cases x), fun b x => m1.nn b x.1, fun n b o z => by simp at z⟩,
        .cons (.dat (.lst (.inl ⟨.inl hH, fun z => z.2 rfl⟩) (RVs.mono (fun b o q z => ⟨q, fun y => z y.1⟩) _ _ s))) .nil, rfl, q1, fun v H2 N' d hs' e2 m2 r2 q2 => ?_⟩
      obtain ⟨ps, rfl, q3⟩ := q2
      have h2a : H2 a = some (.lst xs) := e2.fr a _ hH (by simp)
      have e3 : Ext g1 H1 ⟨fun b => N' b ∨ b = a, g1.io⟩ H2 := ⟨⟨[], by simp⟩, fun b x => (by
          by_cases z : b = a
          · exact .inr z
          · exact .inl (e2.sub b ⟨x, z⟩)), fun b x => (by
          rcases x with x | rfl
          · exact (e2.new b x).imp (·.1) id
          · exact .inl (m1.sub b hin)), fun b x => .inl x, fun b o q z => e2.fr b o q (by simp)⟩
      have m3 : MH (wo X C) ⟨fun b => N' b ∨ b = a, g1.io⟩ h1 H2 := m1.mono (e3.keep m1) rfl (fun b _ u q => e2.fr b u q (by simp)) (fun b x => e3.sub b (m1.sub b x)) fun b x => (by
        rcases x with x | rfl
        · exact m2.nn b x
        · exact ⟨_, h2a⟩)
      exact kk _ _ _ h1 _ (e1.trans e3 m.sub) m3 (.dat (rv_pairs h2a r2)) q3
    · cases q1
  · cases q1
end
end AL
end
section
set_option Elab.async false
set_option linter.all false
set_option maxRecDepth 100000
set_option maxHeartbeats 1000000
/-! AL15: a def that makes a list, which its caller changes. -/
namespace AL
open PySem PySem.Spec PyProof.Rows L2
def cHN (W : Wo) (n : Nat) (F : PFs) : L2.Sp := fun vs H Q _ => ∃ g as R, MH W g [] H ∧ RAs W g H as vs ∧ as.length = n ∧ (∃ ds : List D, as = ds.map .dat ∧ F ds R) ∧
  ∀ p H' N' bs, Ext g H ⟨N', [p]⟩ H' → MH W ⟨N', [p]⟩ [.lst bs] H' → R (.lst bs) → Q (.ref p) H'
def HasN (P : Program) (w : World) (K : PySem.W.Frag) (mg : Str → Option Value) (base : Heap) (C : Addr) (k : Nat) (x : Str) (n : Nat) (F : PFs) : Prop :=
  ∃ f fd ps, mg x = some (.ref f) ∧ PySem.W.keepIn K (.ref f) = true ∧ Binds K fd ps [] ∧ ps.length = n ∧ FnOk P w K mg base CX0 k f fd ps (cHN ⟨P, w, K, C⟩ n F)
/-- the end: a list of the def's own -/
def finN (R : D → Prop) (v : AV) (h : AH) : Prop := ∃ j bs, v = .ref j ∧ h[j]? = some (.lst bs) ∧ R (.lst bs)
section
variable {P : Program} {w : World} {K : PySem.W.Frag} {mg : Str → Option Value} {base : Heap}
theorem hn_of {x qual : Str} {st : Stmt} {f : Addr} {fd : FuncData} {N ps : List Str} {k : Nat} {C : Addr} {F : PFs} {t : AS} (G : Fun K x qual st f fd) (S : FnScope N ps (defScope st))
    (hbody : ∀ cdv A outer s H E, Room k (DX P w K mg base N qual st f cdv A outer s H E).A → MSs (DX P w K mg base N qual st f cdv A outer s H E) C (defBody st) t)
    (spec : ∀ ds (R : D → Prop), ds.length = ps.length → F ds R → t (fun _ _ => False) (finN R) (startA N (ds.map .dat)) []) :
    FnOk P w K mg base CX0 (k + 1) f fd ps (cHN ⟨P, w, K, C⟩ ps.length F) := by
  refine G.ok S (fun vs H Q E h => ?_) (fun cdv A outer s H vs Q E hr h => ?_)
  · obtain ⟨g, as, R, m, r, hl, _⟩ := h
    rw [← hl]
    exact r.length.symm
  · obtain ⟨g, as, R, m, r, hl, ⟨ds, rfl, hF⟩, kk⟩ := h
    refine ⟨_, hbody cdv A outer s H E hr, g, [], startA N _, _, _, m, RE.start r, spec ds R (by simpa using hl) hF, fun σ' H' g' h' ρ' e m' re' q => q.elim, fun v H' g' h' d e m' r' q => ?_⟩
    obtain ⟨j, bs, rfl, hj, hR⟩ := q
    obtain ⟨a, rfl, ha⟩ := r'.inv_ref
    have h0 : g.io = [] := by
      have := m.len
      cases hio : g.io with
      | nil => rfl
      | cons _ _ => rw [hio] at this; simp at this
    refine kk a H' g'.N bs ⟨⟨[a], by rw [h0]; rfl⟩, e.sub, e.new, fun b hb => ?_, e.fr⟩ (m'.one ha hj) hR
    rw [List.mem_singleton.mp hb]
    exact e.nw a (List.mem_of_getElem? ha)
end
section
variable {X : Cx} {C : Addr} {pos : Pos}
def eCallN (n : Nat) (F : PFs) (t : AA) : AT := fun ρ h R => t ρ h fun vs h1 => match datL vs with
  | some ds => ds.length = n ∧ F ds fun d => (match d with | .lst bs => R (.ref h1.length) (h1 ++ [.lst bs]) | _ => False)
  | none => False
theorem me_callN {x : Str} {p : Pos} {e : Expr} {es : List Expr} {t : AA} {k n : Nat} {F : PFs} (hf : HasN X.prog X.w X.K X.mg X.base C k x n F) (hr : Room k X.A) (ha : MA X C (e :: es) t)
    (hg : Gl X x := by rfl) (hdb : (x == ("__debug__" : Str)) = false := by decide) (he : starEach (e :: es) X.env = (false, eval e X.env) :: starEach es X.env := by rfl) (hpl : (backTo pos (starEach es X.env)).any (·.1) = false := by rfl) :
    ME X C (.Call (.Name x p) (e :: es) [] pos) (eCallN n F t) := by
  obtain ⟨f, fd, ps, hm, hk, hb, hn, G⟩ := hf
  refine PE.imp (pe_call G hr hg hm hk hb .nil pass0 ha hdb he hpl) fun σ H Q ⟨g, h, ρ, R, m, re, ht, kk⟩ => ⟨g, h, ρ, _, m, re, ht, fun vs H1 g1 h1 as e1 m1 r1 q1 => ?_⟩
  split at q1
  · rename_i ds hd
    have ead := datL_eq hd
    subst ead
    show cHN _ _ _ (vs ++ []) H1 Q E0
    rw [List.append_nil]
    refine ⟨⟨g1.N, []⟩, ds.map .dat, _, m1.none, RVs.dats (g := ⟨g1.N, []⟩) r1.dats, by simpa using q1.1, ⟨ds, rfl, q1.2⟩, fun p H2 N' bs e2 m2 q2 => ?_⟩
    have hp0 : H1 p = none := (e2.nw p (by simp)).resolve_left fun z => by cases z
    have e3 : Ext g1 H1 ⟨N', g1.io ++ [p]⟩ H2 := ⟨⟨[p], rfl⟩, e2.sub, e2.new, fun b hb => (by
      rcases List.mem_append.mp hb with hb | hb
      · exact .inl hb
      · rw [List.mem_singleton.mp hb]; exact .inr hp0), fun b o q z => e2.fr b o q (by simp)⟩
    have m3 : MH (wo X C) ⟨N', g1.io ++ [p]⟩ (h1 ++ [.lst bs]) H2 := by
      refine ⟨by simp [m1.len], ?_, fun b hb => ?_, m2.nn, fun n a o x1 x2 => ?_⟩
      · refine List.nodup_append.mpr ⟨m1.nd, by simp, fun b hb c hc z => ?_⟩
        rw [List.mem_singleton.mp hc] at z
        subst z
        obtain ⟨o, ho⟩ := m1.nn b (m1.sub b hb)
        rw [hp0] at ho; cases ho
      · rcases List.mem_append.mp hb with hb | hb
        · exact e2.sub b (m1.sub b hb)
        · rw [List.mem_singleton.mp hb]; exact m2.sub p (by simp)
      · have x1 : (g1.io ++ [p])[n]? = some a := x1
        by_cases hn : n < g1.io.length
        · rw [List.getElem?_append_left hn] at x1
          rw [List.getElem?_append_left (by rw [← m1.len]; exact hn)] at x2
          exact (m1.obj n a o x1 x2).mono (e3.keep m1) (fun i b y => (by
            have hi := (List.getElem?_eq_some_iff.mp y).1
            show (g1.io ++ [p])[i]? = some b
            rw [List.getElem?_append_left hi]; exact y)) fun u y => e2.fr a u y (by simp)
        · have hn2 : n = g1.io.length := by
            have := (List.getElem?_eq_some_iff.mp x1).1
            simp at this; omega
          subst hn2
          rw [List.getElem?_append_right (Nat.le_refl _), Nat.sub_self] at x1
          rw [m1.len, List.getElem?_append_right (Nat.le_refl _), Nat.sub_self] at x2
          cases x1
          cases x2
          exact m2.obj 0 p (.lst bs) rfl rfl
    exact kk _ _ _ _ (.ref h1.length) (e1.trans e3 m.sub) m3 (.ref (by show (g1.io ++ [p])[h1.length]? = some p; rw [← m1.len, List.getElem?_append_right (Nat.le_refl _), Nat.sub_self]; rfl)) q2
  · cases q1
end
end AL
end
section
set_option Elab.async false
set_option linter.all false
set_option maxRecDepth 100000
/-! the denotations of the defs (printed by gen.py) -/
namespace AL
open PySem PySem.Spec PyProof.Rows L2
def d_long_of (Z : Ar) (Y : LY)  : AS :=
    (sRet (eCall (rSumY Y) (aCons (eLcY Y (iTup (eV 0)) (.tp [1, 2]) tYes (eV 2)) aNil)))
def d_placed (Z : Ar) (Y : LY)  : AS :=
    (sSeq (sPar 1 2 (aCons (eLstM aNil) (aCons (eC (.int 0)) aNil)))
    (sSeq (sForY Y (iTup (eV 0)) (gTup 2 (gCons (gN 3) (gCons (gN 4) gNil))) (sSeq (sExpr (eAppendY Y (eV 1) (aCons (eTup (aCons (eV 3) (aCons (eV 2) (aCons (eOp (rAddY Z Y) (eV 2) (eV 4)) aNil)))) aNil)))
    (sAug 2 (Z .plus) (eV 4))))
    (sRet (eV 1))))
def d_highs (Z : Ar) (Y : LY) (F_placed : PFs) : AS :=
    (sRet (eCall rTuple (aCons (eLcY Y (iSeq (eCallF 1 F_placed (aCons (eV 0) aNil))) (.tp [1, 2, 3]) (tst (eOp (rEqN false) (eV 1) (eC (.int 1)))) (eTup (aCons (eV 2) (aCons (eV 3) aNil)))) aNil)))
def d_runs_of (Z : Ar) (Y : LY)  : AS :=
    (sSeq (sAsg (eLstM aNil) (gN 1))
    (sSeq (sForY Y (iSeq (eV 0)) (gTup 2 (gCons (gN 2) (gCons (gN 3) gNil))) (sIf (tAnd (tst (eOp (rGtZ Z) (eV 3) (eC (.int 0)))) (tAnd (tst (eOp (rGtZ Z) (eCall (rLenY Y) (aCons (eV 1) aNil)) (eC (.int 0)))) (tst (eOp (rEqN false) (eOp (rIxY Y) (eOp (rIxY Y) (eV 1) (eUn rNeg (eC (.int 1)))) (eC (.int 0))) (eV 2))))) (sAsg (eTup (aCons (eV 2) (aCons (eOp (rAddY Z Y) (eOp (rIxY Y) (eOp (rIxY Y) (eV 1) (eUn rNeg (eC (.int 1)))) (eC (.int 1))) (eV 3)) aNil))) (gSub (eV 1) (eUn rNeg (eC (.int 1))) (setLY Y))) (sIf (tst (eOp (rGtZ Z) (eV 3) (eC (.int 0)))) (sExpr (eAppendY Y (eV 1) (aCons (eTup (aCons (eV 2) (aCons (eV 3) aNil))) aNil))) sNext)))
    (sRet (eCall rTuple (aCons (eV 1) aNil)))))
def d_comings (Z : Ar) (Y : LY) (F_placed : PFs) : AS :=
    (sRet (eCall rTuple (aCons (eLcY Y (iSeq (eCallF 1 F_placed (aCons (eV 0) aNil))) (.tp [2, 3, 4]) (tAnd (tst (eOp (rEqN false) (eV 2) (eV 1))) (tst (eOp (rGtZ Z) (eV 3) (eC (.int 0))))) (eV 3)) aNil)))
def d_rises (Z : Ar) (Y : LY) (F_comings : PFs) : AS :=
    (sRet (eCallF 2 F_comings (aCons (eV 0) (aCons (eC (.int 1)) aNil))))
def d_falls (Z : Ar) (Y : LY) (F_comings : PFs) : AS :=
    (sRet (eCallF 2 F_comings (aCons (eV 0) (aCons (eC (.int 0)) aNil))))
def d_moments_of (Z : Ar) (Y : LY) (F_long_of : PFs) : AS :=
    (sSeq (sAsg (eV 0) (gStar 1 (gCons (gTup 2 (gCons (gN 1) (gCons (gN 2) gNil))) (gCons (gN 3) gNil))))
    (sRet (eCallF 1 F_long_of (aCons (eV 2) aNil))))
def d_line_in (Z : Ar) (Y : LY)  : AS :=
    (sSeq (sForY Y (iTup (eV 0)) (gTup 2 (gCons (gN 2) (gCons (gN 3) gNil))) (sIf (tst (eOp (rEqN false) (eV 2) (eV 1))) (sRet (eV 3)) sNext))
    sNever)
def d_things_of (Z : Ar)  : AS :=
    (sRet (eLc (iZpT (aCons (eSorts (eOp rIx (eV 0) (eC (.int 0)))) (aCons (eSl (eV 0) (oSome (eC (.int 1))) oNone) aNil))) (.tp [2, 3]) (tst (eOp (rEqN false) (eV 2) (eV 1))) (eV 3)))
def d_parts_in (Z : Ar) (F_things_of : PFs) : AS :=
    (sRet (eCallK F_things_of (eV 0) (eC (.str "wish"))))
def d_last_of (Z : Ar)  : AS :=
    (sRet (eSl (eV 0) (oSome (eCall (rMax2Z Z) (aCons (eC (.int 0)) (aCons (eOp (rSubZ Z) (eCall rLen (aCons (eV 0) aNil)) (eV 1)) aNil)))) oNone))
def d_step_line (Z : Ar) (F_last_of : PFs) : AS :=
    (sSeq (sAsg (eV 0) (gStar 2 (gCons (gN 3) (gCons (gN 4) (gCons (gN 5) gNil)))))
    (sSeq (sIf (tst (eOp (rInS false) (eV 3) (eTup (aCons (eC (.str "high")) (aCons (eC (.str "low")) aNil))))) (sRet (eTup (aCons (eOp (rEqN false) (eV 2) (eCall rInt (aCons (eOp (rEqN false) (eV 3) (eC (.str "high"))) aNil))) (aCons (eTup aNil) aNil)))) sNext)
    (sSeq (sIf (tst (eOp (rInS false) (eV 3) (eTup (aCons (eC (.str "rise")) (aCons (eC (.str "fall")) aNil))))) (sRet (eTup (aCons (eAnd (eOp (rEqN false) (eV 1) (eTup (aCons (eCall rInt (aCons (eOp (rEqN false) (eV 3) (eC (.str "fall"))) aNil)) aNil))) (eOp (rEqN false) (eV 2) (eCall rInt (aCons (eOp (rEqN false) (eV 3) (eC (.str "rise"))) aNil)))) (aCons (eTup (aCons (eV 2) aNil)) aNil)))) sNext)
    (sSeq (sIf (tst (eOp (rEqN false) (eV 3) (eC (.str "pulse")))) (sSeq (sAsg (eV 5) (gUnl 3 (gCons (gN 6) (gCons (gN 7) (gCons (gN 8) gNil)))))
    (sSeq (sIf (tst (eOp (rEqN false) (eV 1) (eTup aNil))) (sRet (eTup (aCons (eC (.bl false)) (aCons (eTup (aCons (eV 2) (aCons (eC (.int 1)) (aCons (eC (.bl false)) aNil)))) aNil)))) sNext)
    (sSeq (sAsg (eV 1) (gTup 3 (gCons (gN 9) (gCons (gN 10) (gCons (gN 11) gNil)))))
    (sSeq (sIf (tst (eOp (rEqN false) (eV 9) (eV 2))) (sRet (eTup (aCons (eC (.bl false)) (aCons (eTup (aCons (eV 2) (aCons (eCall (rMin2Z Z) (aCons (eOp (rAddZ Z) (eV 10) (eC (.int 1))) (aCons (eOp (rAddZ Z) (eV 8) (eC (.int 1))) aNil))) (aCons (eV 11) aNil)))) aNil)))) sNext)
    (sRet (eTup (aCons (eAnd (eOp (rEqN false) (eV 9) (eV 6)) (eAnd (eV 11) (eChain (rLeZ Z) (rLeZ Z) (eV 7) (eV 10) (eV 8)))) (aCons (eTup (aCons (eV 2) (aCons (eC (.int 1)) (aCons (eC (.bl true)) aNil)))) aNil)))))))) sNext)
    (sSeq (sAsg (eV 5) (gUnl 3 (gCons (gN 12) (gCons (gN 7) (gCons (gN 8) gNil)))))
    (sSeq (sAsg (eCallF 2 F_last_of (aCons (eOp (rAddZ Z) (eSl (eV 1) (oSome (eC (.int 1))) oNone) (eTup (aCons (eCall rInt (aCons (eAnd (eOp (rEqN true) (eV 1) (eTup aNil)) (eOp (rEqN true) (eOp rIx (eV 1) (eC (.int 0))) (eV 2))) aNil)) aNil))) (aCons (eV 12) aNil))) (gN 13))
    (sRet (eTup (aCons (eChain (rLeZ Z) (rLeZ Z) (eV 7) (eCall rSum (aCons (eV 13) aNil)) (eV 8)) (aCons (eOp (rAddZ Z) (eTup (aCons (eV 2) aNil)) (eCallF 2 F_last_of (aCons (eV 13) (aCons (eOp (rSubZ Z) (eV 12) (eC (.int 1))) aNil)))) aNil))))))))))
def d_step_timed (Z : Ar) (F_last_of : PFs) : AS :=
    (sSeq (sIf (tst (eOp (rEqN false) (eV 0) (eC (.str "ago")))) (sSeq (sAsg (eCallF 2 F_last_of (aCons (eOp (rAddZ Z) (eV 2) (eTup (aCons (eV 3) aNil))) (aCons (eOp (rAddZ Z) (eV 1) (eC (.int 1))) aNil))) (gN 4))
    (sRet (eTup (aCons (eAnd (eOp (rGtZ Z) (eCall rLen (aCons (eV 4) aNil)) (eV 1)) (eOp rIx (eV 4) (eC (.int 0)))) (aCons (eCallF 2 F_last_of (aCons (eV 4) (aCons (eV 1) aNil))) aNil))))) sNext)
    (sSeq (sIf (tst (eOp (rEqN false) (eV 0) (eC (.str "within")))) (sSeq (sAsg (eCallF 2 F_last_of (aCons (eOp (rAddZ Z) (eV 2) (eTup (aCons (eV 3) aNil))) (aCons (eOp (rAddZ Z) (eV 1) (eC (.int 1))) aNil))) (gN 4))
    (sRet (eTup (aCons (eCall rAny (aCons (eV 4) aNil)) (aCons (eCallF 2 F_last_of (aCons (eV 4) (aCons (eV 1) aNil))) aNil))))) sNext)
    (sSeq (sIf (tst (eOp (rEqN false) (eV 0) (eC (.str "held")))) (sSeq (sAsg (eOp (rMulZ Z) (eCall (rMin2Z Z) (aCons (eV 1) (aCons (eOp (rAddZ Z) (eCall rSum (aCons (eV 2) aNil)) (eC (.int 1))) aNil))) (eCall rInt (aCons (eV 3) aNil))) (gN 5))
    (sRet (eTup (aCons (eOp (rEqN false) (eV 5) (eV 1)) (aCons (eTup (aCons (eV 5) aNil)) aNil))))) sNext)
    (sSeq (sAsg (eIf (tst (eOp (rEqN true) (eV 2) (eTup aNil))) (eV 2) (eTup (aCons (eC (.bl false)) (aCons (eC (.int 0)) aNil)))) (gTup 2 (gCons (gN 6) (gCons (gN 5) gNil))))
    (sSeq (sAsg (eCall (rMin2Z Z) (aCons (eOp (rAddZ Z) (eV 1) (eC (.int 1))) (aCons (eOp (rAddZ Z) (eV 5) (eCall rInt (aCons (eAnd (eV 3) (eNot (eV 6))) aNil))) aNil))) (gN 5))
    (sRet (eTup (aCons (eAnd (eV 3) (eAnd (eNot (eV 6)) (eOp (rEqN false) (eV 5) (eV 1)))) (aCons (eTup (aCons (eV 3) (aCons (eV 5) aNil))) aNil)))))))))
def d_step_part (Z : Ar) (F_step_line : PFs) (F_step_timed : PFs) : AS :=
    (sSeq (sAsg (eV 0) (gStar 1 (gCons (gN 4) (gCons (gN 5) gNil))))
    (sSeq (sIf (tst (eOp (rEqN false) (eV 4) (eC (.str "yes")))) (sRet (eTup (aCons (eC (.bl true)) (aCons (eTup aNil) aNil)))) sNext)
    (sSeq (sIf (tst (eOp (rEqN false) (eV 4) (eC (.str "not")))) (sRet (eTup (aCons (eNot (eOp rIx (eV 2) (eC (.int 0)))) (aCons (eTup aNil) aNil)))) sNext)
    (sSeq (sIf (tst (eOp (rEqN false) (eV 4) (eC (.str "both")))) (sRet (eTup (aCons (eAnd (eOp rIx (eV 2) (eC (.int 0))) (eOp rIx (eV 2) (eC (.int 1)))) (aCons (eTup aNil) aNil)))) sNext)
    (sSeq (sIf (tst (eOp (rEqN false) (eV 4) (eC (.str "either")))) (sRet (eTup (aCons (eOr (eOp rIx (eV 2) (eC (.int 0))) (eOp rIx (eV 2) (eC (.int 1)))) (aCons (eTup aNil) aNil)))) sNext)
    (sSeq (sIf (tst (eOp (rEqN false) (eV 4) (eC (.str "since")))) (sSeq (sAsg (eOr (eOp rIx (eV 2) (eC (.int 1))) (eAnd (eOp (rEqN false) (eV 1) (eTup (aCons (eC (.bl true)) aNil))) (eOp rIx (eV 2) (eC (.int 0))))) (gN 6))
    (sRet (eTup (aCons (eV 6) (aCons (eTup (aCons (eV 6) aNil)) aNil))))) sNext)
    (sSeq (sIf (tst (eOp (rInS false) (eV 4) (eTup (aCons (eC (.str "ago")) (aCons (eC (.str "within")) (aCons (eC (.str "held")) (aCons (eC (.str "nth")) aNil))))))) (sRet (eCallF 4 F_step_timed (aCons (eV 4) (aCons (eOp rIx (eV 5) (eC (.int 0))) (aCons (eV 1) (aCons (eOp rIx (eV 2) (eC (.int 0))) aNil)))))) sNext)
    (sRet (eCallF 3 F_step_line (aCons (eV 0) (aCons (eV 1) (aCons (eDGet (eV 3) (eOp rIx (eV 5) (eC (.int 0)))) aNil))))))))))))
def d___init__ (Z : Ar) (F_put_part : BFs) : AS :=
    (sSeq (sFldS (eV 0) (eLstM aNil) "rows_of")
    (sFldS (eV 0) (eLc (iTup (eV 1)) (.nm 2) tYes (eMethM 2 F_put_part (eV 0) (aCons (eV 2) aNil))) "tops"))
def d_put_part (Z : Ar) (F_parts_in : PFs) (F_put_part : BFs) : AS :=
    (sSeq (sAsg (eCall rLen (aCons (eFld (eV 0) "rows_of" 0) aNil)) (gN 2))
    (sSeq (sExpr (eAppend (eFld (eV 0) "rows_of" 0) (aCons (eTup (aCons (eV 1) (aCons (eTup aNil) aNil))) aNil)))
    (sSeq (sAsg (eTup (aCons (eV 1) (aCons (eCall rTuple (aCons (eLc (iSeq (eCallF 1 F_parts_in (aCons (eV 1) aNil))) (.nm 3) tYes (eMethM 2 F_put_part (eV 0) (aCons (eV 3) aNil))) aNil)) aNil))) (gSub (eFld (eV 0) "rows_of" 0) (eV 2) setL))
    (sRet (eV 2)))))
def d_step (Z : Ar) (Y : LY) (F_step_part : PFs) : AS :=
    (sSeq (sTAsg 2 (aCons eDNew (aCons eDNew aNil)) (gCons (gN 3) (gCons (gN 4) gNil)))
    (sSeq (sForY Y (iRg3Y Y (aCons (eOp (rSubZ Z) (eCall (rLenY Y) (aCons (eFld (eV 0) "rows_of" 0) aNil)) (eC (.int 1))) (aCons (eUn rNeg (eC (.int 1))) (aCons (eUn rNeg (eC (.int 1))) aNil)))) (gN 5) (sSeq (sAsg (eOp (rIxY Y) (eFld (eV 0) "rows_of" 0) (eV 5)) (gTup 2 (gCons (gN 6) (gCons (gN 7) gNil))))
    (sAsg (eCallF 4 F_step_part (aCons (eV 6) (aCons (eOp (rIxY Y) (eV 1) (eV 5)) (aCons (eLcY Y (iTup (eV 7)) (.nm 8) tYes (eDGetY Y (eV 3) (eV 8))) (aCons (eV 2) aNil))))) (gTup 2 (gCons (gSub (eV 3) (eV 5) (setDY Y)) (gCons (gSub (eV 4) (eV 5) (setDY Y)) gNil))))))
    (sRet (eTup (aCons (eLcY Y (iSeq (eFld (eV 0) "tops" 1)) (.nm 5) tYes (eDGetY Y (eV 3) (eV 5))) (aCons (eCall rTuple (aCons (eLcY Y (iRg1Y Y (aCons (eCall (rLenY Y) (aCons (eFld (eV 0) "rows_of" 0) aNil)) aNil)) (.nm 5) tYes (eDGetY Y (eV 4) (eV 5))) aNil)) aNil))))))
def d_level_rows (Z : Ar) (Y : LY)  : AS :=
    (sSeq (sAsg (eLst (aCons (eTup aNil) aNil)) (gN 1))
    (sSeq (sForY Y (iRg1Y Y (aCons (eV 0) aNil)) (gN 2) (sAsg (eLc2 3 4 (iSeq (eV 1)) (iTup (eTup (aCons (eC (.int 0)) (aCons (eC (.int 1)) aNil)))) (eOp (rAddY Z Y) (eV 3) (eTup (aCons (eV 4) aNil)))) (gN 1)))
    (sRet (eV 1))))
def d_catch_of (Z : Ar) (Y : LY) (F_runs_of : PFs) : AS :=
    (sRet (eCall rTuple (aCons (eLcY Y (iEnmY Y (aCons (eV 0) aNil)) (.tp [2, 3]) tYes (eTup (aCons (eV 3) (aCons (eCallF 1 F_runs_of (aCons (eLcY Y (iTup (eV 1)) (.nm 4) tYes (eTup (aCons (eOp (rIxY Y) (eV 4) (eV 2)) (aCons (eC (.int 1)) aNil)))) aNil)) aNil)))) aNil)))
def d_shortest (Z : Ar) (Y : LY) (F_level_rows : PFs) (F_catch_of : PFs) (F_step : PFs) (F_Stepper : PFs) : AS :=
    (sSeq (sAsg (eStepper F_Stepper (aCons (eV 1) aNil)) (gN 2))
    (sSeq (sAsg (eCall rTuple (aCons (eLcY Y (iSeq (eFld (eV 2) "rows_of" 0)) (.nm 12) tYes (eTup aNil)) aNil)) (gN 3))
    (sSeq (sPar3 4 5 6 (aCons (eDKey1Y Y (eV 3)) (aCons (eLstM (aCons (eTup (aCons (eV 3) (aCons (eTup aNil) aNil))) aNil)) (aCons (eC (.int 0)) aNil))))
    (sSeq (sWhileY Y (tst (eOp (rLtZ Z) (eV 6) (eCall (rLenY Y) (aCons (eV 5) aNil)))) (sSeq (sAsg (eOp (rIxY Y) (eV 5) (eV 6)) (gTup 2 (gCons (gN 7) (gCons (gN 8) gNil))))
    (sSeq (sAug 6 (Z .plus) (eC (.int 1)))
    (sForY Y (iSeq (eCallF 1 F_level_rows (aCons (eCall (rLenY Y) (aCons (eV 0) aNil)) aNil))) (gN 9) (sSeq (sAsg (eMethF 3 F_step (eV 2) (aCons (eV 7) (aCons (eDictZipY Y (aCons (eV 0) (aCons (eV 9) aNil))) aNil))) (gTup 2 (gCons (gN 10) (gCons (gN 11) gNil))))
    (sSeq (sIf (tst (eOp (rEqN false) (eCall (rSumY Y) (aCons (eLcY Y (iSeq (eV 10)) (.nm 13) tYes (eCall rInt (aCons (eV 13) aNil))) aNil)) (eC (.int 1)))) (sRet (eCallF 2 F_catch_of (aCons (eV 0) (aCons (eOp (rAddY Z Y) (eV 8) (eTup (aCons (eV 9) aNil))) aNil)))) sNext)
    (sIf (tst (eOp (rInKY Y true) (eV 11) (eV 4))) (sSeq (sAsg (eC (.bl true)) (gSub (eV 4) (eV 11) (setKY Y)))
    (sExpr (eAppendY Y (eV 5) (aCons (eTup (aCons (eV 11) (aCons (eOp (rAddY Z Y) (eV 8) (eTup (aCons (eV 9) aNil))) aNil))) aNil)))) sNext)))))))
    (sRet (eC .non))))))
def d_wishes_alike (Z : Ar) (Y : LY) (F_shortest : PFs) : AS :=
    (sSeq (sAsg (eCallF 2 F_shortest (aCons (eV 0) (aCons (eTup (aCons (eV 1) (aCons (eV 2) aNil))) aNil))) (gN 3))
    (sSeq (sIf (tst (eOp (rIsN false) (eV 3) (eC .non))) (sRet (eTup (aCons (eC (.str "same")) aNil))) sNext)
    (sRet (eTup (aCons (eC (.str "unlike")) (aCons (eV 3) aNil))))))
def d_soonest (Z : Ar) (Y : LY) (F_shortest : PFs) : AS :=
    (sRet (eCallF 2 F_shortest (aCons (eV 0) (aCons (eTup (aCons (eV 1) aNil)) aNil))))
def d_spans_of (Z : Ar) (Y : LY)  : AS :=
    (sSeq (sAsg (eLstM aNil) (gN 1))
    (sSeq (sForY Y (iSeq (eCall (rSortedY Y) (aCons (eLcY Y (iAny (eV 0)) (.tp [2, 3]) (tst (eOp (rLtZ Z) (eV 2) (eV 3))) (eTup (aCons (eV 2) (aCons (eV 3) aNil)))) aNil))) (gTup 2 (gCons (gN 2) (gCons (gN 3) gNil))) (sIf (tAnd (tst (eOp (rGtZ Z) (eCall (rLenY Y) (aCons (eV 1) aNil)) (eC (.int 0)))) (tst (eOp (rLeZ Z) (eV 2) (eOp (rIxY Y) (eOp (rIxY Y) (eV 1) (eUn rNeg (eC (.int 1)))) (eC (.int 1)))))) (sSeq (sAsg (ePopY Y (eV 1)) (gTup 2 (gCons (gN 4) (gCons (gN 5) gNil))))
    (sExpr (eAppendY Y (eV 1) (aCons (eTup (aCons (eV 4) (aCons (eCall (rMax2Z Z) (aCons (eV 5) (aCons (eV 3) aNil))) aNil))) aNil)))) (sExpr (eAppendY Y (eV 1) (aCons (eTup (aCons (eV 2) (aCons (eV 3) aNil))) aNil)))))
    (sRet (eCall rTuple (aCons (eV 1) aNil)))))
def d_both_of (Z : Ar) (Y : LY)  : AS :=
    (sSeq (sAsg (eLstM aNil) (gN 2))
    (sSeq (sAsg2 (eC (.int 0)) (gN 3) (gN 4))
    (sSeq (sWhileY Y (tAnd (tst (eOp (rLtZ Z) (eV 3) (eCall (rLenY Y) (aCons (eV 0) aNil)))) (tst (eOp (rLtZ Z) (eV 4) (eCall (rLenY Y) (aCons (eV 1) aNil))))) (sSeq (sPar 5 6 (aCons (eCall (rMax2Z Z) (aCons (eOp (rIxY Y) (eOp (rIxY Y) (eV 0) (eV 3)) (eC (.int 0))) (aCons (eOp (rIxY Y) (eOp (rIxY Y) (eV 1) (eV 4)) (eC (.int 0))) aNil))) (aCons (eCall (rMin2Z Z) (aCons (eOp (rIxY Y) (eOp (rIxY Y) (eV 0) (eV 3)) (eC (.int 1))) (aCons (eOp (rIxY Y) (eOp (rIxY Y) (eV 1) (eV 4)) (eC (.int 1))) aNil))) aNil)))
    (sSeq (sIf (tst (eOp (rLtZ Z) (eV 5) (eV 6))) (sExpr (eAppendY Y (eV 2) (aCons (eTup (aCons (eV 5) (aCons (eV 6) aNil))) aNil))) sNext)
    (sIf (tst (eOp (rLeZ Z) (eOp (rIxY Y) (eOp (rIxY Y) (eV 0) (eV 3)) (eC (.int 1))) (eOp (rIxY Y) (eOp (rIxY Y) (eV 1) (eV 4)) (eC (.int 1))))) (sAug 3 (Z .plus) (eC (.int 1))) (sAug 4 (Z .plus) (eC (.int 1)))))))
    (sRet (eCall rTuple (aCons (eV 2) aNil))))))
def d_either_of (Z : Ar) (Y : LY) (F_spans_of : PFs) : AS :=
    (sRet (eCallF 1 F_spans_of (aCons (eOp (rAddY Z Y) (eV 0) (eV 1)) aNil)))
def d_others (Z : Ar) (Y : LY)  : AS :=
    (sSeq (sAsg (eOp (rAddY Z Y) (eLst (aCons (eC (.int 0)) aNil)) (eLcY Y (iTup (eV 0)) (.tp [4, 5]) tYes (eV 5))) (gN 2))
    (sSeq (sAsg (eOp (rAddY Z Y) (eLcY Y (iTup (eV 0)) (.tp [4, 5]) tYes (eV 4)) (eLst (aCons (eV 1) aNil))) (gN 3))
    (sRet (eCall rTuple (aCons (eLcY Y (iZpY Y (aCons (eV 2) (aCons (eV 3) aNil))) (.tp [4, 5]) (tst (eOp (rLtZ Z) (eV 4) (eCall (rMin2Z Z) (aCons (eV 5) (aCons (eV 1) aNil))))) (eTup (aCons (eV 4) (aCons (eCall (rMin2Z Z) (aCons (eV 5) (aCons (eV 1) aNil))) aNil)))) aNil)))))
def d_later (Z : Ar) (Y : LY)  : AS :=
    (sRet (eCall rTuple (aCons (eLcY Y (iTup (eV 0)) (.tp [2, 3]) tYes (eTup (aCons (eOp (rAddY Z Y) (eV 2) (eV 1)) (aCons (eOp (rAddY Z Y) (eV 3) (eV 1)) aNil)))) aNil)))
def d_grown (Z : Ar) (Y : LY) (F_spans_of : PFs) : AS :=
    (sRet (eCallF 1 F_spans_of (aCons (eLcY Y (iTup (eV 0)) (.tp [2, 3]) tYes (eTup (aCons (eV 2) (aCons (eOp (rAddY Z Y) (eV 3) (eV 1)) aNil)))) aNil)))
def d_worn (Z : Ar) (Y : LY)  : AS :=
    (sRet (eCall rTuple (aCons (eLcY Y (iTup (eV 0)) (.tp [2, 3]) (tst (eOp (rLtZ Z) (eOp (rAddY Z Y) (eV 2) (eV 1)) (eV 3))) (eTup (aCons (eOp (rAddY Z Y) (eV 2) (eV 1)) (aCons (eV 3) aNil)))) aNil)))
def d_between (Z : Ar) (Y : LY) (F_spans_of : PFs) (F_both_of : PFs) : AS :=
    (sRet (eCallF 2 F_both_of (aCons (eV 0) (aCons (eCallF 1 F_spans_of (aCons (eLst (aCons (eTup (aCons (eV 1) (aCons (eV 2) aNil))) aNil)) aNil)) aNil))))
def d_first_of (Z : Ar) (Y : LY)  : AS :=
    (sSeq (sIf (tst (eOp (rEqN false) (eCall (rLenY Y) (aCons (eV 0) aNil)) (eC (.int 0)))) (sRet (eC .non)) sNext)
    (sRet (eOp (rIxY Y) (eOp (rIxY Y) (eV 0) (eC (.int 0))) (eC (.int 0)))))
def d_points (Z : Ar) (Y : LY) (F_spans_of : PFs) : AS :=
    (sRet (eCallF 1 F_spans_of (aCons (eLcY Y (iAny (eV 0)) (.nm 1) tYes (eTup (aCons (eV 1) (aCons (eOp (rAddY Z Y) (eV 1) (eC (.int 1))) aNil)))) aNil)))
def d_pulse_ends (Z : Ar) (Y : LY) (F_placed : PFs) : AS :=
    (sSeq (sAsg (eSlY Y (eCallF 1 F_placed (aCons (eV 0) aNil)) oNone (oSome (eUn rNeg (eC (.int 1))))) (gN 4))
    (sRet (eLcY Y (iSeq (eV 4)) (.tp [5, 6, 7]) (tAnd (tst (eOp (rEqN false) (eV 5) (eV 1))) (tAnd (tst (eOp (rGtZ Z) (eV 6) (eC (.int 0)))) (tst (eChain (rLeZ Z) (rLeZ Z) (eV 2) (eOp (rSubZ Z) (eV 7) (eV 6)) (eV 3))))) (eV 7))))
def d_counted (Z : Ar) (Y : LY) (F_spans_of : PFs) : AS :=
    (sSeq (sAsg (eOp (rAddY Z Y) (eLcY Y (iTup (eV 0)) (.nm 9) tYes (eTup (aCons (eV 9) (aCons (eC (.int 1)) aNil)))) (eLcY Y (iTup (eV 0)) (.nm 9) tYes (eTup (aCons (eOp (rAddY Z Y) (eV 9) (eV 1)) (aCons (eUn rNeg (eC (.int 1))) aNil))))) (gN 5))
    (sSeq (sPar3 6 7 8 (aCons (eLstM aNil) (aCons (eC (.int 0)) (aCons (eC (.int 0)) aNil))))
    (sSeq (sForY Y (iSeq (eOp (rAddY Z Y) (eCall (rSortedY Y) (aCons (eV 5) aNil)) (eLst (aCons (eTup (aCons (eV 4) (aCons (eC (.int 0)) aNil))) aNil)))) (gTup 2 (gCons (gN 9) (gCons (gN 10) gNil))) (sSeq (sAsg (eCall (rMin2Z Z) (aCons (eV 9) (aCons (eV 4) aNil))) (gN 11))
    (sSeq (sIf (tst (eChain (rLeZ Z) (rLeZ Z) (eV 2) (eV 8) (eV 3))) (sExpr (eAppendY Y (eV 6) (aCons (eTup (aCons (eV 7) (aCons (eV 11) aNil))) aNil))) sNext)
    (sSeq (sAsg (eV 11) (gN 7))
    (sAug 8 (Z .plus) (eV 10))))))
    (sRet (eCallL F_spans_of (aCons (eV 6) aNil))))))
def d_line_spans (Z : Ar) (Y : LY) (F_rises : PFs) (F_falls : PFs) (F_counted : PFs) (F_pulse_ends : PFs) (F_points : PFs) (F_highs : PFs) (F_others : PFs) (F_moments_of : PFs) (F_line_in : PFs) : AS :=
    (sSeq (sAsg (eV 1) (gStar 2 (gCons (gN 2) (gCons (gN 3) (gCons (gN 4) gNil)))))
    (sSeq (sPar 5 6 (aCons (eCallF 2 F_line_in (aCons (eV 0) (aCons (eV 3) aNil))) (aCons (eCallF 1 F_moments_of (aCons (eV 0) aNil)) aNil)))
    (sSeq (sIf (tst (eOp (rEqN false) (eV 2) (eC (.str "high")))) (sRet (eCallF 1 F_highs (aCons (eV 5) aNil))) sNext)
    (sSeq (sIf (tst (eOp (rEqN false) (eV 2) (eC (.str "low")))) (sRet (eCallF 2 F_others (aCons (eCallF 1 F_highs (aCons (eV 5) aNil)) (aCons (eV 6) aNil)))) sNext)
    (sSeq (sIf (tst (eOp (rEqN false) (eV 2) (eC (.str "rise")))) (sRet (eCallF 1 F_points (aCons (eCallF 1 F_rises (aCons (eV 5) aNil)) aNil))) sNext)
    (sSeq (sIf (tst (eOp (rEqN false) (eV 2) (eC (.str "fall")))) (sRet (eCallF 1 F_points (aCons (eCallF 1 F_falls (aCons (eV 5) aNil)) aNil))) sNext)
    (sSeq (sIf (tst (eOp (rEqN false) (eV 2) (eC (.str "pulse")))) (sRet (eCallF 1 F_points (aCons (eCallF 4 F_pulse_ends (aCons (eV 5) (aCons (eOp (rIxY Y) (eV 4) (eC (.int 0))) (aCons (eOp (rIxY Y) (eV 4) (eC (.int 1))) (aCons (eOp (rIxY Y) (eV 4) (eC (.int 2))) aNil))))) aNil))) sNext)
    (sRet (eCallF 5 F_counted (aCons (eOp (rAddY Z Y) (eCallF 1 F_rises (aCons (eV 5) aNil)) (eCallF 1 F_falls (aCons (eV 5) aNil))) (aCons (eOp (rIxY Y) (eV 4) (eC (.int 0))) (aCons (eOp (rIxY Y) (eV 4) (eC (.int 1))) (aCons (eOp (rIxY Y) (eV 4) (eC (.int 2))) (aCons (eV 6) aNil))))))))))))))
def d_since_spans (Z : Ar) (Y : LY) (F_spans_of : PFs) (F_between : PFs) (F_first_of : PFs) : AS :=
    (sSeq (sAsg (eCall rListM (aCons (eV 1) aNil)) (gN 2))
    (sSeq (sForY Y (iTup (eV 0)) (gTup 2 (gCons (gN 3) (gCons (gN 4) gNil))) (sSeq (sAsg (eCallF 1 F_first_of (aCons (eCallF 3 F_between (aCons (eV 1) (aCons (eCall (rMax2Z Z) (aCons (eC (.int 0)) (aCons (eOp (rSubZ Z) (eV 3) (eC (.int 1))) aNil))) (aCons (eV 4) aNil)))) aNil)) (gN 5))
    (sIf (tst (eOp (rIsN true) (eV 5) (eC .non))) (sExpr (eAppendY Y (eV 2) (aCons (eTup (aCons (eCall (rMax2Z Z) (aCons (eV 3) (aCons (eV 5) aNil))) (aCons (eV 4) aNil))) aNil))) sNext)))
    (sRet (eCallL F_spans_of (aCons (eV 2) aNil)))))
def d_timed_spans (Z : Ar) (Y : LY) (F_between : PFs) (F_worn : PFs) (F_grown : PFs) (F_later : PFs) (F_points : PFs) : AS :=
    (sSeq (sIf (tst (eOp (rEqN false) (eV 0) (eC (.str "nth")))) (sRet (eCallF 1 F_points (aCons (eLcY Y (iTup (eSlY Y (eV 2) (oSome (eOp (rSubZ Z) (eV 1) (eC (.int 1)))) (oSome (eV 1)))) (.tp [4, 5]) tYes (eV 4)) aNil))) sNext)
    (sSeq (sIf (tst (eOp (rEqN false) (eV 0) (eC (.str "ago")))) (sAsg (eCallF 2 F_later (aCons (eV 2) (aCons (eV 1) aNil))) (gN 2)) sNext)
    (sSeq (sIf (tst (eOp (rEqN false) (eV 0) (eC (.str "within")))) (sAsg (eCallF 2 F_grown (aCons (eV 2) (aCons (eV 1) aNil))) (gN 2)) sNext)
    (sSeq (sIf (tst (eOp (rEqN false) (eV 0) (eC (.str "held")))) (sAsg (eCallF 2 F_worn (aCons (eV 2) (aCons (eOp (rSubZ Z) (eV 1) (eC (.int 1))) aNil))) (gN 2)) sNext)
    (sRet (eCallF 3 F_between (aCons (eV 2) (aCons (eC (.int 0)) (aCons (eV 3) aNil)))))))))
def d_when (Z : Ar) (Y : LY) (F_line_spans : PFs) (F_when : PFs) (F_timed_spans : PFs) (F_since_spans : PFs) (F_either_of : PFs) (F_both_of : PFs) (F_others : PFs) (F_spans_of : PFs) (F_moments_of : PFs) : AS :=
    (sSeq (sAsg (eV 1) (gStar 1 (gCons (gN 2) (gCons (gN 3) gNil))))
    (sSeq (sAsg (eCallF 1 F_moments_of (aCons (eV 0) aNil)) (gN 4))
    (sSeq (sIf (tst (eOp (rEqN false) (eV 2) (eC (.str "yes")))) (sRet (eCallF 1 F_spans_of (aCons (eLst (aCons (eTup (aCons (eC (.int 0)) (aCons (eV 4) aNil))) aNil)) aNil))) sNext)
    (sSeq (sIf (tst (eOp (rEqN false) (eV 2) (eC (.str "read")))) sNever sNext)
    (sSeq (sIf (tst (eOp (rEqN false) (eV 2) (eC (.str "not")))) (sRet (eCallF 2 F_others (aCons (eCallF 2 F_when (aCons (eV 0) (aCons (eOp (rIxY Y) (eV 3) (eC (.int 0))) aNil))) (aCons (eV 4) aNil)))) sNext)
    (sSeq (sIf (tst (eOp (rInS false) (eV 2) (eTup (aCons (eC (.str "both")) (aCons (eC (.str "either")) (aCons (eC (.str "since")) aNil)))))) (sSeq (sPar 5 6 (aCons (eCallF 2 F_when (aCons (eV 0) (aCons (eOp (rIxY Y) (eV 3) (eC (.int 0))) aNil))) (aCons (eCallF 2 F_when (aCons (eV 0) (aCons (eOp (rIxY Y) (eV 3) (eC (.int 1))) aNil))) aNil)))
    (sSeq (sIf (tst (eOp (rEqN false) (eV 2) (eC (.str "both")))) (sRet (eCallF 2 F_both_of (aCons (eV 5) (aCons (eV 6) aNil)))) sNext)
    (sSeq (sIf (tst (eOp (rEqN false) (eV 2) (eC (.str "either")))) (sRet (eCallF 2 F_either_of (aCons (eV 5) (aCons (eV 6) aNil)))) sNext)
    (sRet (eCallF 2 F_since_spans (aCons (eV 5) (aCons (eV 6) aNil))))))) sNext)
    (sSeq (sIf (tst (eOp (rInS false) (eV 2) (eTup (aCons (eC (.str "ago")) (aCons (eC (.str "within")) (aCons (eC (.str "held")) (aCons (eC (.str "nth")) aNil))))))) (sRet (eCallF 4 F_timed_spans (aCons (eV 2) (aCons (eOp (rIxY Y) (eV 3) (eC (.int 0))) (aCons (eCallF 2 F_when (aCons (eV 0) (aCons (eOp (rIxY Y) (eV 3) (eC (.int 1))) aNil))) (aCons (eV 4) aNil)))))) sNext)
    (sRet (eCallF 2 F_line_spans (aCons (eV 0) (aCons (eV 1) aNil)))))))))))
def d_lw_box (Z : Ar) (Y : LY)  : AS :=
    (sSeq (sAsg (eOp (rAddY Z Y) (eOp (rMulZ Z) (eC (.int 7919)) (eV 1)) (eC (.int 11))) (gN 2))
    (sSeq (sIf (tst (eOp (rLtZ Z) (eV 1) (eCall (rLenY Y) (aCons (eV 0) aNil)))) (sAsg (eOp (rIxY Y) (eV 0) (eV 1)) (gN 2)) (sIf (tst (eOp (rGtZ Z) (eCall (rLenY Y) (aCons (eV 0) aNil)) (eC (.int 0)))) (sAsg (eOp (rAddY Z Y) (eV 2) (eOp (rMulZ Z) (eOp (rModZ Z) (eCall rInt (aCons (eOp (rIxY Y) (eV 0) (eOp (rModZ Z) (eCall rInt (aCons (eV 1) aNil)) (eCall (rLenY Y) (aCons (eV 0) aNil)))) aNil)) (eC (.int 2147483629))) (eC (.int 69623)))) (gN 2)) sNext))
    (sSeq (sAsg (eOp (rAddY Z Y) (eOp (rModZ Z) (eOp (rAddY Z Y) (eOp (rMulZ Z) (eOp (rModZ Z) (eCall rInt (aCons (eV 2) aNil)) (eC (.int 2147483629))) (eC (.int 48271))) (eOp (rMulZ Z) (eC (.int 40692)) (eV 1))) (eC (.int 2147483629))) (eC (.int 1))) (gN 3))
    (sRet (eLstM (aCons (eOp (rIxY Y) (eLst (aCons (eC (.int 0)) (aCons (eV 2) aNil))) (eCall rInt (aCons (eOp (rGeZ Z) (eV 2) (eOp rPow (eC (.int 10)) (eC (.int 18)))) aNil))) (aCons (eV 3) (aCons (eC (.int 0)) aNil))))))))
def d_lw_take (Z : Ar) (Y : LY)  : AS :=
    (sSeq (sIf (tst (eOp (rGtZ Z) (eOp (rIxY Y) (eV 0) (eC (.int 0))) (eC (.int 0)))) (sSeq (sAsg (eOp (rModZ Z) (eCall rInt (aCons (eOp (rIxY Y) (eV 0) (eC (.int 0))) aNil)) (eV 1)) (gN 2))
    (sSeq (sAsg (eOp (rFdivZ Z) (eOp (rIxY Y) (eV 0) (eC (.int 0))) (eV 1)) (gSub (eV 0) (eC (.int 0)) (setLY Y)))
    (sRet (eV 2)))) sNext)
    (sSeq (sAsg (eOp (rAddY Z Y) (eOp (rIxY Y) (eV 0) (eC (.int 2))) (eC (.int 1))) (gSub (eV 0) (eC (.int 2)) (setLY Y)))
    (sSeq (sAsg (eOp (rModZ Z) (eCall rInt (aCons (eOp (rMulZ Z) (eOp (rAddY Z Y) (eOp (rIxY Y) (eV 0) (eC (.int 1))) (eOp (rMulZ Z) (eC (.int 104729)) (eOp (rIxY Y) (eV 0) (eC (.int 2))))) (eC (.int 69623))) aNil)) (eC (.int 2147483647))) (gN 3))
    (sSeq (sAsg (eOp (rAddY Z Y) (eOp (rModZ Z) (eOp (rAddY Z Y) (eOp (rMulZ Z) (eV 3) (eC (.int 48271))) (eC (.int 30103))) (eC (.int 2147483629))) (eC (.int 1))) (gSub (eV 0) (eC (.int 1)) (setLY Y)))
    (sRet (eOp (rModZ Z) (eOp (rFdivZ Z) (eOp (rAddY Z Y) (eOp (rMulZ Z) (eV 3) (eC (.int 2147483647))) (eOp (rIxY Y) (eV 0) (eC (.int 1)))) (eC (.int 8191))) (eV 1)))))))
def d_lw_names (Z : Ar) (Y : LY) (F_lw_take : BFs) : AS :=
    (sSeq (sAsg (eC (.str "abcdefghijklmnopqrstuvwxyz")) (gN 2))
    (sSeq (sAsg (eLst (aCons (eC (.str "yes")) (aCons (eC (.str "high")) (aCons (eC (.str "rise")) (aCons (eC (.str "read")) (aCons (eC (.str "both")) (aCons (eC (.str "ago")) (aCons (eC (.str "nth")) (aCons (eC (.str "held")) (aCons (eC (.str "since")) (aCons (eC (.str "framed")) (aCons (eC (.str "even")) (aCons (eC (.str "none")) aNil))))))))))))) (gN 3))
    (sSeq (sAsg (eJoin (eC (.str "")) (eLcY Y (iRg1Y Y (aCons (eCallB 2 F_lw_take (aCons (eV 0) (aCons (eC (.int 6)) aNil))) aNil)) (.nm 8) tYes (eOp (rIxY Y) (eV 2) (eCallB 2 F_lw_take (aCons (eV 0) (aCons (eC (.int 26)) aNil)))))) (gN 4))
    (sSeq (sPar 5 6 (aCons (eCallB 2 F_lw_take (aCons (eV 0) (aCons (eOp (rAddY Z Y) (eCall (rLenY Y) (aCons (eV 4) aNil)) (eC (.int 1))) aNil))) (aCons (eCallB 2 F_lw_take (aCons (eV 0) (aCons (eC (.int 26)) aNil))) aNil)))
    (sSeq (sAsg (eLstM aNil) (gN 7))
    (sSeq (sForY Y (iRg1Y Y (aCons (eV 1) aNil)) (gN 8) (sSeq (sAsg (eOp (rAddY Z Y) (eOp (rAddY Z Y) (eSlY Y (eV 4) oNone (oSome (eV 5))) (eOp (rIxY Y) (eV 2) (eOp (rModZ Z) (eOp (rAddY Z Y) (eV 6) (eOp (rMulZ Z) (eC (.int 7)) (eV 8))) (eC (.int 26))))) (eSlY Y (eV 4) (oSome (eV 5)) oNone)) (gN 9))
    (sSeq (sIf (tst (eOp (rEqN false) (eCallB 2 F_lw_take (aCons (eV 0) (aCons (eC (.int 6)) aNil))) (eC (.int 0)))) (sAsg (eOp (rIxY Y) (eV 3) (eCallB 2 F_lw_take (aCons (eV 0) (aCons (eC (.int 12)) aNil)))) (gN 9)) sNext)
    (sSeq (sWhileY Y (tst (eOp (rInSY Y false) (eV 9) (eV 7))) (sAsg (eOp (rAddY Z Y) (eOp (rIxY Y) (eV 2) (eOp (rModZ Z) (eOp (rAddY Z Y) (eIndex (eV 2) (aCons (eOp (rIxY Y) (eV 9) (eC (.int 0))) aNil)) (eC (.int 1))) (eC (.int 26)))) (eSlY Y (eV 9) (oSome (eC (.int 1))) oNone)) (gN 9)))
    (sExpr (eAppendY Y (eV 7) (aCons (eV 9) aNil)))))))
    (sRet (eV 7))))))))
def d_lw_inner (Z : Ar) (Y : LY)  : AS :=
    (sRet (eLcY Y (iTup (eSlY Y (eV 0) (oSome (eC (.int 1))) oNone)) (.nm 1) (tAnd (tst (eIsi (eV 1) "tuple")) (tst (eOp (rEqN true) (eOp (rIxY Y) (eV 0) (eC (.int 0))) (eC (.str "read"))))) (eV 1)))
def d_lw_same (Z : Ar) (Y : LY)  : AS :=
    (sSeq (sAsg (eLstM (aCons (eTup (aCons (eV 0) (aCons (eV 1) aNil))) aNil)) (gN 2))
    (sSeq (sWhileY Y (tst (eOp (rGtZ Z) (eCall (rLenY Y) (aCons (eV 2) aNil)) (eC (.int 0)))) (sSeq (sAsg (ePopY Y (eV 2)) (gTup 2 (gCons (gN 3) (gCons (gN 4) gNil))))
    (sIf (tst (eIsi2 (eV 4) "tuple" "list")) sNever (sIf (tOr (tst (eIsi2 (eV 3) "tuple" "list")) (tst (eOp (rEqN true) (eIsi (eV 3) "bool") (eIsi (eV 4) "bool")))) (sRet (eC (.bl false))) (sIf (tOr (tst (eOp (rEqN true) (eIsi (eV 3) "int") (eIsi (eV 4) "int"))) (tst (eOp (rEqN true) (eV 3) (eV 4)))) (sRet (eC (.bl false))) sNext)))))
    (sRet (eC (.bl true)))))
def d_lw_small_leaf (Z : Ar) (Y : LY) (F_lw_take : BFs) : AS :=
    (sSeq (sPar3 2 3 4 (aCons (eOp (rIxY Y) (eV 1) (eCallB 2 F_lw_take (aCons (eV 0) (aCons (eCall (rLenY Y) (aCons (eV 1) aNil)) aNil)))) (aCons (eCallB 2 F_lw_take (aCons (eV 0) (aCons (eC (.int 8)) aNil))) (aCons (eCallB 2 F_lw_take (aCons (eV 0) (aCons (eC (.int 3)) aNil))) aNil))))
    (sSeq (sAsg (eOp (rAddY Z Y) (eV 4) (eCallB 2 F_lw_take (aCons (eV 0) (aCons (eOp (rSubZ Z) (eC (.int 3)) (eV 4)) aNil)))) (gN 5))
    (sSeq (sIf (tst (eOp (rEqN false) (eV 3) (eC (.int 0)))) (sRet (eTup (aCons (eC (.str "yes")) aNil))) sNext)
    (sSeq (sIf (tst (eOp (rEqN false) (eV 3) (eC (.int 5)))) (sRet (eTup (aCons (eC (.str "pulse")) (aCons (eV 2) (aCons (eCallB 2 F_lw_take (aCons (eV 0) (aCons (eC (.int 2)) aNil))) (aCons (eV 4) (aCons (eV 5) aNil))))))) sNext)
    (sSeq (sIf (tst (eOp (rEqN false) (eV 3) (eC (.int 6)))) (sRet (eTup (aCons (eC (.str "edges")) (aCons (eV 2) (aCons (eOp (rAddY Z Y) (eC (.int 1)) (eCallB 2 F_lw_take (aCons (eV 0) (aCons (eC (.int 2)) aNil)))) (aCons (eV 4) (aCons (eV 5) aNil))))))) sNext)
    (sRet (eTup (aCons (eOp (rIxY Y) (eLst (aCons (eC (.str "high")) (aCons (eC (.str "low")) (aCons (eC (.str "rise")) (aCons (eC (.str "fall")) aNil))))) (eOp (rModZ Z) (eCall rInt (aCons (eV 3) aNil)) (eC (.int 4)))) (aCons (eV 2) aNil)))))))))
def d_lw_small (Z : Ar) (Y : LY) (F_lw_small : BFs) (F_lw_take : BFs) (F_lw_small_leaf : BFs) : AS :=
    (sSeq (sAsg (eCallB 2 F_lw_take (aCons (eV 0) (aCons (eC (.int 9)) aNil))) (gN 3))
    (sSeq (sIf (tOr (tst (eOp (rLtZ Z) (eV 2) (eC (.int 2)))) (tst (eOp (rEqN false) (eV 3) (eC (.int 8))))) (sRet (eCallB 2 F_lw_small_leaf (aCons (eV 0) (aCons (eV 1) aNil)))) sNext)
    (sSeq (sIf (tOr (tst (eOp (rLtZ Z) (eV 3) (eC (.int 5)))) (tst (eOp (rLtZ Z) (eV 2) (eC (.int 3))))) (sSeq (sAsg (eOp (rIxY Y) (eLst (aCons (eC (.str "not")) (aCons (eC (.str "ago")) (aCons (eC (.str "within")) (aCons (eC (.str "held")) (aCons (eC (.str "nth")) aNil)))))) (eOp (rModZ Z) (eCall rInt (aCons (eV 3) aNil)) (eC (.int 5)))) (gN 4))
    (sSeq (sAsg (eCallB 3 F_lw_small (aCons (eV 0) (aCons (eV 1) (aCons (eOp (rSubZ Z) (eV 2) (eC (.int 1))) aNil)))) (gN 5))
    (sSeq (sAsg (eOp (rIxY Y) (eLst (aCons (eCallB 2 F_lw_take (aCons (eV 0) (aCons (eC (.int 3)) aNil))) (aCons (eOp (rAddY Z Y) (eC (.int 1)) (eCallB 2 F_lw_take (aCons (eV 0) (aCons (eC (.int 2)) aNil)))) aNil))) (eCall rInt (aCons (eOp (rInS false) (eV 4) (eTup (aCons (eC (.str "held")) (aCons (eC (.str "nth")) aNil)))) aNil))) (gN 6))
    (sRet (eOp (rIxY Y) (eLst (aCons (eTup (aCons (eV 4) (aCons (eV 6) (aCons (eV 5) aNil)))) (aCons (eTup (aCons (eC (.str "not")) (aCons (eV 5) aNil))) aNil))) (eCall rInt (aCons (eOp (rEqN false) (eV 4) (eC (.str "not"))) aNil))))))) sNext)
    (sSeq (sAsg (eOp (rAddY Z Y) (eC (.int 1)) (eCallB 2 F_lw_take (aCons (eV 0) (aCons (eOp (rSubZ Z) (eV 2) (eC (.int 2))) aNil)))) (gN 7))
    (sSeq (sPar 8 9 (aCons (eCallB 3 F_lw_small (aCons (eV 0) (aCons (eV 1) (aCons (eV 7) aNil)))) (aCons (eCallB 3 F_lw_small (aCons (eV 0) (aCons (eV 1) (aCons (eOp (rSubZ Z) (eOp (rSubZ Z) (eV 2) (eC (.int 1))) (eV 7)) aNil)))) aNil)))
    (sRet (eTup (aCons (eOp (rIxY Y) (eLst (aCons (eC (.str "both")) (aCons (eC (.str "either")) (aCons (eC (.str "since")) aNil)))) (eOp (rModZ Z) (eCall rInt (aCons (eV 3) aNil)) (eC (.int 3)))) (aCons (eV 8) (aCons (eV 9) aNil))))))))))
def d_lw_size (Z : Ar) (Y : LY) (F_lw_inner : PFs) (F_lw_size : PFs) : AS :=
    (sRet (eOp (rAddY Z Y) (eC (.int 1)) (eCall (rSumY Y) (aCons (eLcY Y (iSeq (eCallF 1 F_lw_inner (aCons (eV 0) aNil))) (.nm 1) tYes (eCallF 1 F_lw_size (aCons (eV 1) aNil))) aNil))))
def d_lw_line (Z : Ar) (Y : LY) (F_lw_take : BFs) : AS :=
    (sSeq (sPar3 2 3 4 (aCons (eCallB 2 F_lw_take (aCons (eV 0) (aCons (eC (.int 2)) aNil))) (aCons (eLstM aNil) (aCons (eV 1) aNil))))
    (sSeq (sWhileY Y (tst (eOp (rGtZ Z) (eV 4) (eC (.int 0)))) (sSeq (sAsg (eCall (rMin2Z Z) (aCons (eV 4) (aCons (eOp (rAddY Z Y) (eC (.int 1)) (eCallB 2 F_lw_take (aCons (eV 0) (aCons (eOp (rIxY Y) (eLst (aCons (eC (.int 1)) (aCons (eC (.int 3)) (aCons (eC (.int 9)) (aCons (eC (.int 40)) aNil))))) (eCallB 2 F_lw_take (aCons (eV 0) (aCons (eC (.int 4)) aNil)))) aNil)))) aNil))) (gN 5))
    (sSeq (sExpr (eAppendY Y (eV 3) (aCons (eTup (aCons (eV 2) (aCons (eV 5) aNil))) aNil)))
    (sPar 2 4 (aCons (eOp (rSubZ Z) (eC (.int 1)) (eV 2)) (aCons (eOp (rSubZ Z) (eV 4) (eV 5)) aNil))))))
    (sRet (eCall rTuple (aCons (eV 3) aNil)))))
def d_lw_many (Z : Ar) (Y : LY)  : AS :=
    (sSeq (sIf (tst (eOp (rIsN false) (eV 0) (eC .non))) (sRet (eC .non)) sNext)
    (sRet (eCall (rSumY Y) (aCons (eLcY Y (iTup (eOp (rIxY Y) (eOp (rIxY Y) (eV 0) (eC (.int 0))) (eC (.int 1)))) (.tp [1, 2]) tYes (eV 2)) aNil))))
def d_lw_told (Z : Ar) (Y : LY) (F_lw_many : PFs) (F_wishes_alike : PFs) : AS :=
    (sSeq (sAsg (eCallF 3 F_wishes_alike (aCons (eV 0) (aCons (eV 1) (aCons (eV 2) aNil)))) (gN 3))
    (sSeq (sIf (tst (eOp (rEqN false) (eV 3) (eTup (aCons (eC (.str "same")) aNil)))) (sRet (eC .non)) sNext)
    (sRet (eCallF 1 F_lw_many (aCons (eOp (rIxY Y) (eV 3) (eC (.int 1))) aNil)))))
def d_lw_due (Z : Ar) (Y : LY) (F_lw_many : PFs) (F_soonest : PFs) : AS :=
    (sSeq (sAsg (eLst (aCons (eCallF 2 F_soonest (aCons (eV 0) (aCons (eTup (aCons (eC (.str "both")) (aCons (eV 1) (aCons (eTup (aCons (eC (.str "not")) (aCons (eV 2) aNil))) aNil)))) aNil))) (aCons (eCallF 2 F_soonest (aCons (eV 0) (aCons (eTup (aCons (eC (.str "both")) (aCons (eTup (aCons (eC (.str "not")) (aCons (eV 1) aNil))) (aCons (eV 2) aNil)))) aNil))) aNil))) (gN 3))
    (sSeq (sAsg (eLcY Y (iSeq (eV 3)) (.nm 5) (tst (eOp (rIsN true) (eV 5) (eC .non))) (eCallF 1 F_lw_many (aCons (eV 5) aNil))) (gN 4))
    (sRet (eIf (tst (eOp (rEqN true) (eV 4) (eLst aNil))) (eCall (rMinLY Y) (aCons (eOp (rAddY Z Y) (eV 4) (eLst (aCons (eOp rPow (eC (.int 10)) (eC (.int 6))) aNil))) aNil)) (eC .non)))))
def d_law (Z : Ar) (Y : LY) (F_when : PFs) (F_lw_line : BFs) (F_lw_take : BFs) (F_lw_told : PFs) (F_lw_same : PFs) (F_lw_due : PFs) (F_lw_size : PFs) (F_lw_small : BFs) (F_lw_names : BFs) (F_lw_box : PFs) : AS :=
    (sSeq (sForY Y (iRg1Y Y (aCons (eCall (rMax2Z Z) (aCons (eC (.int 2)) (aCons (eCall (rMin2Z Z) (aCons (eC (.int 4)) (aCons (eCall (rLenY Y) (aCons (eV 0) aNil)) aNil))) aNil))) aNil)) (gN 1) (sSeq (sAsg (eCallN 2 F_lw_box (aCons (eV 0) (aCons (eV 1) aNil))) (gN 2))
    (sSeq (sAsg (eCallB 2 F_lw_names (aCons (eV 2) (aCons (eOp (rAddY Z Y) (eC (.int 1)) (eCall rInt (aCons (eOp (rEqN false) (eCallB 2 F_lw_take (aCons (eV 2) (aCons (eC (.int 3)) aNil))) (eC (.int 0))) aNil))) aNil))) (gN 3))
    (sSeq (sAsg (eCallB 3 F_lw_small (aCons (eV 2) (aCons (eV 3) (aCons (eOp (rAddY Z Y) (eC (.int 1)) (eCallB 2 F_lw_take (aCons (eV 2) (aCons (eC (.int 2)) aNil)))) aNil)))) (gN 4))
    (sSeq (sAsg (eCallB 3 F_lw_small (aCons (eV 2) (aCons (eV 3) (aCons (eOp (rSubZ Z) (eC (.int 4)) (eCallF 1 F_lw_size (aCons (eV 4) aNil))) aNil)))) (gN 5))
    (sSeq (sIf (tAnd (tst (eOp (rEqN false) (eCallB 2 F_lw_take (aCons (eV 2) (aCons (eC (.int 3)) aNil))) (eC (.int 0)))) (tst (eOp (rEqN false) (eCallF 1 F_lw_size (aCons (eV 4) aNil)) (eC (.int 1))))) (sSeq (sAsg (eLst (aCons (eTup (aCons (eC (.str "ago")) (aCons (eC (.int 0)) (aCons (eV 4) aNil)))) (aCons (eTup (aCons (eC (.str "not")) (aCons (eTup (aCons (eC (.str "not")) (aCons (eV 4) aNil))) aNil))) (aCons (eTup (aCons (eC (.str "either")) (aCons (eV 4) (aCons (eV 4) aNil)))) (aCons (eTup (aCons (eC (.str "since")) (aCons (eV 4) (aCons (eV 4) aNil)))) aNil))))) (gN 6))
    (sAsg (eOp (rIxY Y) (eV 6) (eCallB 2 F_lw_take (aCons (eV 2) (aCons (eC (.int 4)) aNil)))) (gN 5))) sNext)
    (sSeq (sAsg (eCallF 3 F_lw_due (aCons (eV 3) (aCons (eV 4) (aCons (eV 5) aNil)))) (gN 7))
    (sSeq (sIf (tOr (tNot (tst (eCallF 2 F_lw_same (aCons (eCallF 3 F_lw_told (aCons (eV 3) (aCons (eV 4) (aCons (eV 5) aNil)))) (aCons (eV 7) aNil))))) (tNot (tst (eCallF 2 F_lw_same (aCons (eCallF 3 F_lw_told (aCons (eV 3) (aCons (eV 5) (aCons (eV 4) aNil)))) (aCons (eV 7) aNil)))))) (sRet (eC (.bl false))) sNext)
    (sSeq (sIf (tNot (tst (eCallF 2 F_lw_same (aCons (eCallF 3 F_lw_told (aCons (eV 3) (aCons (eTup (aCons (eC (.str "not")) (aCons (eV 4) aNil))) (aCons (eTup (aCons (eC (.str "not")) (aCons (eV 5) aNil))) aNil)))) (aCons (eV 7) aNil))))) (sRet (eC (.bl false))) sNext)
    (sSeq (sIf (tst (eOp (rIsN true) (eCallF 3 F_lw_told (aCons (eV 3) (aCons (eV 4) (aCons (eV 4) aNil)))) (eC .non))) (sRet (eC (.bl false))) sNext)
    (sForY Y (iRg1Y Y (aCons (eC (.int 5)) aNil)) (gN 8) (sSeq (sAsg (eCallB 2 F_lw_take (aCons (eV 2) (aCons (eC (.int 41)) aNil))) (gN 9))
    (sSeq (sAsg (eCall rTuple (aCons (eLcY Y (iSeq (eV 3)) (.nm 11) tYes (eTup (aCons (eV 11) (aCons (eCallB 2 F_lw_line (aCons (eV 2) (aCons (eV 9) aNil))) aNil)))) aNil)) (gN 10))
    (sIf (tAnd (tst (eOp (rIsN false) (eV 7) (eC .non))) (tst (eOp (rEqN true) (eCallF 2 F_when (aCons (eV 10) (aCons (eV 4) aNil))) (eCallF 2 F_when (aCons (eV 10) (aCons (eV 5) aNil)))))) (sRet (eC (.bl false))) sNext))))))))))))))
    (sRet (eC (.bl true))))
end AL
end
section
set_option Elab.async false
set_option linter.all false
set_option maxRecDepth 100000
set_option autoImplicit true
/-! SP0: the combinators, one by one (printed by gensp.py) -/
namespace AL
open PySem PySem.Spec PyProof.Rows L2

@[simp] theorem eV_s (i : Nat) ρ h R : eV i ρ h R = (match ρ[i]? with | some (some d) => R d h | _ => False) := rfl
@[simp] theorem eC_s (d : D) x0_ h R : eC d x0_ h R = (R (.dat d) h) := rfl
@[simp] theorem aNil_s x0_ h R : aNil  x0_ h R = (R [] h) := rfl
@[simp] theorem aCons_s (t : AT) (u : AA) ρ h R : aCons t u ρ h R = (t ρ h fun d h1 => u ρ h1 fun ds h2 => R (d :: ds) h2) := rfl
@[simp] theorem eTup_s (t : AA) ρ h R : eTup t ρ h R = (t ρ h fun vs h1 => match datL vs with | some ds => ds.length ≤ sizeLine ∧ R (.dat (.tup ds)) h1 | none => False) := rfl
@[simp] theorem eLst_s (t : AA) ρ h R : eLst t ρ h R = (t ρ h fun vs h1 => match datL vs with | some ds => ds.length ≤ sizeLine ∧ R (.dat (.lst ds)) h1 | none => False) := rfl
@[simp] theorem eLstM_s (t : AA) ρ h R : eLstM t ρ h R = (t ρ h fun vs h1 => match datL vs with | some ds => ds.length ≤ sizeLine ∧ R (.ref h1.length) (h1 ++ [.lst ds]) | none => False) := rfl
@[simp] theorem eOp_s (r : AR2) (ta tb : AT) ρ h R : eOp r ta tb ρ h R = (ta ρ h fun d h1 => tb ρ h1 fun e h2 => r d e h2 R) := rfl
@[simp] theorem eUn_s (r : AR1) (ta : AT) ρ h R : eUn r ta ρ h R = (ta ρ h fun d h1 => r d h1 R) := rfl
@[simp] theorem rII_s (f : Int → Int → D) d e h R : rII f d e h R = (match d, e with | .dat (.int i), .dat (.int j) => R (.dat (f i j)) h | _, _ => False) := rfl
@[simp] theorem rIIc_s (c : Int → Int → Prop) (f : Int → Int → D) d e h R : rIIc c f d e h R = (match d, e with | .dat (.int i), .dat (.int j) => c i j ∧ R (.dat (f i j)) h | _, _ => False) := rfl
@[simp] theorem rSub_s : rSub  = rII fun i j => .int (i - j) := rfl
@[simp] theorem rMul_s : rMul  = rIIc CMul fun i j => .int (i * j) := rfl
@[simp] theorem rMod_s : rMod  = rIIc (fun _ j => j ≠ 0) fun i j => .int (i.fmod j) := rfl
@[simp] theorem rFdiv_s : rFdiv  = rIIc CDivN fun i j => .int (i.fdiv j) := rfl
@[simp] theorem rPow_s : rPow  = rIIc CPow fun i j => .int (i ^ j.toNat) := rfl
@[simp] theorem rLt_s : rLt  = rII fun i j => .bl (decide (i < j)) := rfl
@[simp] theorem rLe_s : rLe  = rII fun i j => .bl (decide (i ≤ j)) := rfl
@[simp] theorem rGt_s : rGt  = rII fun i j => .bl (decide (j < i)) := rfl
@[simp] theorem rGe_s : rGe  = rII fun i j => .bl (decide (j ≤ i)) := rfl
@[simp] theorem rNeg_s d h R : rNeg  d h R = (match d with | .dat (.int i) => R (.dat (.int (-i))) h | _ => False) := rfl
@[simp] theorem rIsN_s (neg : Bool) d e h R : rIsN neg d e h R = (match e with | .dat .non => R (.dat (.bl (if neg = true then !isNon d else isNon d))) h | _ => False) := rfl
@[simp] theorem tst_s (t : AT) ρ h R : tst t ρ h R = (t ρ h fun d h1 => match d with | .dat (.bl b) => R b h1 | _ => False) := rfl
@[simp] theorem tAnd_s (t u : AB) ρ h R : tAnd t u ρ h R = (t ρ h fun b h1 => if b = true then u ρ h1 R else R false h1) := rfl
@[simp] theorem tOr_s (t u : AB) ρ h R : tOr t u ρ h R = (t ρ h fun b h1 => if b = true then R true h1 else u ρ h1 R) := rfl
@[simp] theorem tNot_s (t : AB) ρ h R : tNot t ρ h R = (t ρ h fun b h1 => R (!b) h1) := rfl
@[simp] theorem eAnd_s (t u : AT) ρ h R : eAnd t u ρ h R = (t ρ h fun d h1 => match d with | .dat (.bl true) => u ρ h1 R | .dat (.bl false) => R (.dat (.bl false)) h1 | _ => False) := rfl
@[simp] theorem eOr_s (t u : AT) ρ h R : eOr t u ρ h R = (t ρ h fun d h1 => match d with | .dat (.bl true) => R (.dat (.bl true)) h1 | .dat (.bl false) => u ρ h1 R | _ => False) := rfl
@[simp] theorem eNot_s (t : AT) ρ h R : eNot t ρ h R = (t ρ h fun d h1 => match d with | .dat (.bl b) => R (.dat (.bl (!b))) h1 | _ => False) := rfl
@[simp] theorem eIf_s (c : AB) (t u : AT) ρ h R : eIf c t u ρ h R = (c ρ h fun b h1 => if b = true then t ρ h1 R else u ρ h1 R) := rfl
@[simp] theorem eChain_s (r r' : AR2) (ta tb tc : AT) ρ h R : eChain r r' ta tb tc ρ h R = (ta ρ h fun d h1 => tb ρ h1 fun e h2 => r d e h2 fun z h3 => match z with
  | .dat (.bl true) => tc ρ h3 fun f h4 => r' e f h4 R
  | .dat (.bl false) => R (.dat (.bl false)) h3
  | _ => False) := rfl
@[simp] theorem rAdd_s d e h R : rAdd  d e h R = (match d, e with
  | .dat (.int i), .dat (.int j) => R (.dat (.int (i + j))) h
  | .dat (.str x), .dat (.str y) => x.length + y.length ≤ sizeLine ∧ R (.dat (.str (x ++ y))) h
  | .dat (.tup xs), .dat (.tup ys) => xs.length + ys.length ≤ sizeLine ∧ R (.dat (.tup (xs ++ ys))) h
  | .dat (.lst xs), .dat (.lst ys) => xs.length + ys.length ≤ sizeLine ∧ R (.dat (.lst (xs ++ ys))) h
  | _, _ => False) := rfl
@[simp] theorem rEqN_s (neg : Bool) d e h R : rEqN neg d e h R = (match d, e with
  | .dat (.int i), .dat (.int j) => R (.dat (.bl (if neg = true then !decide (i = j) else decide (i = j)))) h
  | .dat (.str i), .dat (.str j) => R (.dat (.bl (if neg = true then !decide (i = j) else decide (i = j)))) h
  | .dat (.bl i), .dat (.bl j) => R (.dat (.bl (if neg = true then !decide (i = j) else decide (i = j)))) h
  | .dat d, .dat e => okD d ∧ okD e ∧ R (.dat (.bl (if neg = true then !eqD d e else eqD d e))) h
  | _, _ => False) := rfl
@[simp] theorem rInS_s (neg : Bool) d e h R : rInS neg d e h R = (match d, (itemsOf h e).bind strL with
  | .dat (.str x), some ss => R (.dat (.bl (if neg = true then !decide (x ∈ ss) else decide (x ∈ ss)))) h
  | _, _ => False) := rfl
@[simp] theorem rIx_s d e h R : rIx  d e h R = (match d, e with
  | .dat (.str x), .dat (.int i) => x.length ≤ sizeLine ∧ (match atI x.cps.toList i with | some c => R (.dat (.str ⟨#[c]⟩)) h | none => False)
  | d, .dat (.int i) => (match (itemsOf h d).bind fun ds => atI ds i with | some z => R (.dat z) h | none => False)
  | _, _ => False) := rfl
@[simp] theorem oNone_s x0_ h R : oNone  x0_ h R = (R none h) := rfl
@[simp] theorem oSome_s (t : AT) ρ h R : oSome t ρ h R = (t ρ h fun d h1 => match d with | .dat (.int i) => R (some i) h1 | _ => False) := rfl
@[simp] theorem rSl_s d lo hi h R : rSl  d lo hi h R = (match d with
  | .dat (.tup xs) => R (.dat (.tup (cutD xs lo hi))) h
  | .dat (.lst xs) => R (.dat (.lst (cutD xs lo hi))) h
  | .dat (.str x) => x.length ≤ sizeLine ∧ R (.dat (.str (cutS x lo hi))) h
  | _ => False) := rfl
@[simp] theorem eSl_s (te : AT) (tl th : AO1) ρ h R : eSl te tl th ρ h R = (te ρ h fun d h1 => tl ρ h1 fun lo h2 => th ρ h2 fun hi h3 => rSl d lo hi h3 R) := rfl
@[simp] theorem eCall_s (r : ARs) (t : AA) ρ h R : eCall r t ρ h R = (t ρ h fun ds h1 => r ds h1 R) := rfl
@[simp] theorem rLen_s vs h R : rLen  vs h R = (match vs with
  | [.dat (.str x)] => x.length ≤ sizeLine ∧ R (.dat (.int x.length)) h
  | [v] => (match itemsOf h v with | some ds => R (.dat (.int ds.length)) h | none => False)
  | _ => False) := rfl
@[simp] theorem rInt_s vs h R : rInt  vs h R = (match vs with
  | [.dat (.int i)] => R (.dat (.int i)) h
  | [.dat (.bl b)] => R (.dat (.int (if b = true then 1 else 0))) h
  | _ => False) := rfl
@[simp] theorem rMax2_s vs h R : rMax2  vs h R = (match vs with
  | [.dat (.int i), .dat (.int j)] => R (.dat (.int (if j > i then j else i))) h
  | _ => False) := rfl
@[simp] theorem rMin2_s vs h R : rMin2  vs h R = (match vs with
  | [.dat (.int i), .dat (.int j)] => R (.dat (.int (if j < i then j else i))) h
  | _ => False) := rfl
@[simp] theorem rSum_s vs h R : rSum  vs h R = (match vs with
  | [v] => (match (itemsOf h v).bind intL with | some ns => R (.dat (.int ns.sum)) h | none => False)
  | _ => False) := rfl
@[simp] theorem rAny_s vs h R : rAny  vs h R = (match vs with
  | [v] => (match (itemsOf h v).bind blL with | some ns => R (.dat (.bl (ns.any id))) h | none => False)
  | _ => False) := rfl
@[simp] theorem rMinL_s vs h R : rMinL  vs h R = (match vs with
  | [.dat (.lst ds)] => (match intL ds with | some ns => 0 < ns.length ∧ ∀ i, i ∈ ns → (∀ y, y ∈ ns → i ≤ y) → R (.dat (.int i)) h | none => False)
  | _ => False) := rfl
@[simp] theorem rTuple_s vs h R : rTuple  vs h R = (match vs with
  | [v] => (match itemsOf h v with | some ds => R (.dat (.tup ds)) h | none => False)
  | _ => False) := rfl
@[simp] theorem rListM_s vs h R : rListM  vs h R = (match vs with
  | [v] => (match itemsOf h v with | some ds => R (.ref h.length) (h ++ [.lst ds]) | none => False)
  | _ => False) := rfl
@[simp] theorem rSorted_s vs h R : rSorted  vs h R = (match vs with
  | [.dat (.lst ds)] => (match pairL ds with | some ps => ∀ qs : List (Int × Int), qs.Perm ps → qs.Pairwise lexLe → R (.dat (.lst (qs.map pD))) h | none => False)
  | _ => False) := rfl
@[simp] theorem eIsi_s (t : AT) (n : String) ρ h R : eIsi t n ρ h R = (t ρ h fun d h1 => match d with
  | .dat d => (match tyD d with | some ty => R (.dat (.bl (isi1 ty n))) h1 | none => False)
  | .ref _ => False) := rfl
@[simp] theorem eIsi2_s (t : AT) (n1 n2 : String) ρ h R : eIsi2 t n1 n2 ρ h R = (t ρ h fun d h1 => match d with
  | .dat d => (match tyD d with | some ty => R (.dat (.bl (isi1 ty n1 || isi1 ty n2))) h1 | none => False)
  | .ref _ => False) := rfl
@[simp] theorem gN_s (i : Nat) d ρ h R : gN i d ρ h R = (R (ρ.set i (some d)) h) := rfl
@[simp] theorem gNil_s vs ρ h R : gNil  vs ρ h R = (vs = [] ∧ R ρ h) := rfl
@[simp] theorem gCons_s (t : AG) (u : AGs) vs ρ h R : gCons t u vs ρ h R = (match vs with | d :: r => t d ρ h fun ρ1 h1 => u r ρ1 h1 R | [] => False) := rfl
@[simp] theorem gTup_s (n : Nat) (t : AGs) d ρ h R : gTup n t d ρ h R = (match d with | .dat (.tup ds) => ds.length = n ∧ t (ds.map .dat) ρ h R | _ => False) := rfl
@[simp] theorem gUnl_s (n : Nat) (t : AGs) d ρ h R : gUnl n t d ρ h R = (match d with | .dat (.lst ds) => ds.length = n ∧ t (ds.map .dat) ρ h R | _ => False) := rfl
@[simp] theorem gStar_s (i : Nat) (t : AGs) d ρ h R : gStar i t d ρ h R = (match d with
  | .dat (.tup ds) => i ≤ ds.length ∧ ds.length ≤ 16384 ∧ t ((ds.take i).map .dat ++ [.dat (.lst (ds.drop i))]) ρ h R
  | _ => False) := rfl
@[simp] theorem setL_s o i v h R : setL  o i v h R = (match o, i, v with
  | .ref n, .dat (.int k), .dat d => (match h[n]? with
    | some (.lst ds) => (match ixN ds.length k with | some j => R (h.set n (.lst (ds.set j d))) | none => False)
    | _ => False)
  | _, _, _ => False) := rfl
@[simp] theorem gSub_s (to ti : AT) (t : ASet) v ρ h R : gSub to ti t v ρ h R = (to ρ h fun o h1 => ti ρ h1 fun i h2 => t o i v h2 fun h3 => R ρ h3) := rfl
@[simp] theorem sNext_s nx x1_ ρ h : sNext  nx x1_ ρ h = (nx ρ h) := rfl
@[simp] theorem sSeq_s (t u : AS) nx rt ρ h : sSeq t u nx rt ρ h = (t (fun ρ1 h1 => u nx rt ρ1 h1) rt ρ h) := rfl
@[simp] theorem sNever_s x0_ x1_ x2_ x3_ : sNever  x0_ x1_ x2_ x3_ = (False) := rfl
@[simp] theorem sExpr_s (t : AT) nx x1_ ρ h : sExpr t nx x1_ ρ h = (t ρ h fun _ h1 => nx ρ h1) := rfl
@[simp] theorem sRet_s (t : AT) x0_ rt ρ h : sRet t x0_ rt ρ h = (t ρ h rt) := rfl
@[simp] theorem sIf_s (c : AB) (t u : AS) nx rt ρ h : sIf c t u nx rt ρ h = (c ρ h fun b h1 => if b = true then t nx rt ρ h1 else u nx rt ρ h1) := rfl
@[simp] theorem sAsg_s (t : AT) (g : AG) nx x1_ ρ h : sAsg t g nx x1_ ρ h = (t ρ h fun d h1 => g d ρ h1 nx) := rfl
@[simp] theorem sAsg2_s (t : AT) (g1 g2 : AG) nx x1_ ρ h : sAsg2 t g1 g2 nx x1_ ρ h = (t ρ h fun d h1 => g1 d ρ h1 fun ρ2 h2 => g2 d ρ2 h2 nx) := rfl
@[simp] theorem sPar_s (i j : Nat) (t : AA) nx x1_ ρ h : sPar i j t nx x1_ ρ h = (t ρ h fun ds h1 => match ds with | [d, e] => nx ((ρ.set i (some d)).set j (some e)) h1 | _ => False) := rfl
@[simp] theorem sPar3_s (i j l : Nat) (t : AA) nx x1_ ρ h : sPar3 i j l t nx x1_ ρ h = (t ρ h fun ds h1 => match ds with | [d, e, f] => nx (((ρ.set i (some d)).set j (some e)).set l (some f)) h1 | _ => False) := rfl
@[simp] theorem sAug_s (i : Nat) (f : Int → Int → Int) (t : AT) nx x1_ ρ h : sAug i f t nx x1_ ρ h = (match ρ[i]? with
  | some (some (.dat (.int a))) => t ρ h fun d h1 => (match d with | .dat (.int b) => nx (ρ.set i (some (.dat (.int (f a b))))) h1 | _ => False)
  | _ => False) := rfl
@[simp] theorem sWhile_s (c : AB) (t : AS) nx rt ρ h : sWhile c t nx rt ρ h = (∃ n, itW c t nx rt n ρ h) := rfl
@[simp] theorem iSeq_s (t : AT) ρ h S : iSeq t ρ h S = (t ρ h fun d h1 => match d with | .dat (.lst ds) => S ds h1 | _ => False) := rfl
@[simp] theorem iTup_s (t : AT) ρ h S : iTup t ρ h S = (t ρ h fun d h1 => match d with | .dat (.tup ds) => S ds h1 | _ => False) := rfl
@[simp] theorem iRg1_s (t : AA) ρ h S : iRg1 t ρ h S = (t ρ h fun ds h1 => match ds with | [.dat (.int j)] => -(2 ^ 62) ≤ j ∧ j < 2 ^ 62 ∧ S (rgD 0 1 j.toNat) h1 | _ => False) := rfl
@[simp] theorem iRg3_s (t : AA) ρ h S : iRg3 t ρ h S = (t ρ h fun ds h1 => match ds with
  | [.dat (.int i), .dat (.int j), .dat (.int (-1))] => -(2 ^ 62) ≤ i ∧ i < 2 ^ 62 ∧ -(2 ^ 62) ≤ j ∧ j < 2 ^ 62 ∧ S (rgD i (-1) (i - j).toNat) h1 | _ => False) := rfl
@[simp] theorem iEnm_s (t : AA) ρ h S : iEnm t ρ h S = (t ρ h fun ds h1 => match ds with | [.dat (.lst ds)] => S (enD 0 ds) h1 | _ => False) := rfl
@[simp] theorem iZp_s (t : AA) ρ h S : iZp t ρ h S = (t ρ h fun ds h1 => match ds with | [.dat (.lst ds), .dat (.lst es)] => S (zpD ds es) h1 | _ => False) := rfl
@[simp] theorem sFor_s (wi : AI) (gt : AG) (tb : AS) nx rt ρ h : sFor wi gt tb nx rt ρ h = (wi ρ h fun ds h1 => loopA gt tb nx rt ds ρ h1) := rfl
@[simp] theorem tYes_s x0_ h R : tYes  x0_ h R = (R true h) := rfl
@[simp] theorem eLc_s (wi : AI) (t : Tgt) (tt : AB) (te : AT) ρ h R : eLc wi t tt te ρ h R = (wi ρ h fun ds h1 => lcA t tt te ρ ds [] h1 R) := rfl
@[simp] theorem eAppend_s (to : AT) (t : AA) ρ h R : eAppend to t ρ h R = (to ρ h fun o h1 => match o with
  | .ref n => (match h1[n]? with
    | some (.lst _) => t ρ h1 fun vs h2 => (match vs, h2[n]? with
      | [.dat d], some (.lst ds) => ds.length < sizeLine ∧ R (.dat .non) (h2.set n (.lst (ds ++ [d])))
      | _, _ => False)
    | _ => False)
  | _ => False) := rfl
@[simp] theorem ePop_s (to : AT) ρ h R : ePop to ρ h R = (to ρ h fun o h1 => match o with
  | .ref n => (match h1[n]? with
    | some (.lst ds) => (match ds[ds.length - 1]? with | some d => R (.dat d) (h1.set n (.lst ds.dropLast)) | none => False)
    | _ => False)
  | _ => False) := rfl
@[simp] theorem eJoin_s (to te : AT) ρ h R : eJoin to te ρ h R = (to ρ h fun o h1 => match o with
  | .dat (.str a) => te ρ h1 fun v h2 => (match (itemsOf h2 v).bind strL with
    | some ys => (ys.map (·.length)).sum + ys.length * a.length ≤ 16777216 ∧ R (.dat (.str (Txt.join a ys))) h2
    | none => False)
  | _ => False) := rfl
@[simp] theorem eIndex_s (to : AT) (t : AA) ρ h R : eIndex to t ρ h R = (to ρ h fun o h1 => match o with
  | .dat (.str a) => t ρ h1 fun vs h2 => (match vs with
    | [.dat (.str b)] => (match Txt.index0 a b with | some i => R (.dat (.int (i : Nat))) h2 | none => False)
    | _ => False)
  | _ => False) := rfl
@[simp] theorem eDNew_s x0_ h R : eDNew  x0_ h R = (R (.ref h.length) (h ++ [.dK []])) := rfl
@[simp] theorem eDGet_s (td tk : AT) ρ h R : eDGet td tk ρ h R = (td ρ h fun o h1 => tk ρ h1 fun i h2 => match o, i with
  | .ref n, .dat d => (match h2[n]?, keyOf d with
    | some (.dK kvs), some k => (match valD kvs k with | some v => R (.dat v) h2 | none => False)
    | _, _ => False)
  | .dat (.dk kvs), .dat d => (match keyOf d with
    | some k => (match (kvs.find? fun kv => decide (kv.1 = k)).map (·.2) with | some v => R (.dat (.int v)) h2 | none => False)
    | none => False)
  | _, _ => False) := rfl
@[simp] theorem setD_s o i v h R : setD  o i v h R = (match o, i, v with
  | .ref n, .dat i, .dat d => (match h[n]?, keyOf i with
    | some (.dK kvs), some k => kvs.length < sizeLine ∧ R (h.set n (.dK (putD kvs k d)))
    | _, _ => False)
  | _, _, _ => False) := rfl
@[simp] theorem eFld_s (te : AT) (f : Str) (j : Nat) ρ h R : eFld te f j ρ h R = (te ρ h fun o h1 => match o with
  | .ref n => (match h1[n]? with
    | some (.ins fs) => (match fs.lookup f with | some v => R v h1 | none => False)
    | _ => False)
  | .dat (.ins ds) => (match ds[j]? with | some d => R (.dat d) h1 | none => False)
  | _ => False) := rfl
@[simp] theorem eCallF_s (n : Nat) (F : PFs) (t : AA) ρ h R : eCallF n F t ρ h R = (t ρ h fun vs h1 => match datL vs with | some ds => ds.length = n ∧ F ds fun d => R (.dat d) h1 | none => False) := rfl
@[simp] theorem eCallB_s (n : Nat) (F : BFs) (t : AA) ρ h R : eCallB n F t ρ h R = (t ρ h fun vs h1 => match vs with
  | .ref j :: r => (match h1[j]?, datL r with
    | some (.lst bs), some ds => ds.length + 1 = n ∧ F ds bs fun d bs' => R (.dat d) (h1.set j (.lst bs'))
    | _, _ => False)
  | _ => False) := rfl
@[simp] theorem eMethF_s (n : Nat) (F : PFs) (to : AT) (t : AA) ρ h R : eMethF n F to t ρ h R = (to ρ h fun o h1 => match o with
  | .dat (.ins fs) => t ρ h1 fun vs h2 => (match datL vs with | some ds => ds.length + 1 = n ∧ F (.ins fs :: ds) fun d => R (.dat d) h2 | none => False)
  | _ => False) := rfl
@[simp] theorem sTAsg_s (n : Nat) (t : AA) (g : AGs) nx x1_ ρ h : sTAsg n t g nx x1_ ρ h = (t ρ h fun vs h1 => vs.length = n ∧ n ≤ sizeLine ∧ g vs ρ h1 nx) := rfl
@[simp] theorem iAny_s (t : AT) ρ h S : iAny t ρ h S = (t ρ h fun d h1 => match d with | .dat (.tup ds) => S ds h1 | .dat (.lst ds) => S ds h1 | _ => False) := rfl
@[simp] theorem rInK_s (neg : Bool) d e h R : rInK neg d e h R = (match d, e with
  | .dat (.tup ds), .ref n => (match h[n]?, toKey (.tup ds) with
    | some (.dN ks), some k => k.depth ≤ 8 ∧ R (.dat (.bl (if neg = true then !decide (k ∈ ks) else decide (k ∈ ks)))) h
    | _, _ => False)
  | _, _ => False) := rfl
@[simp] theorem setK_s o i v h R : setK  o i v h R = (match o, i, v with
  | .ref n, .dat (.tup ds), .dat (.bl true) => (match h[n]?, toKey (.tup ds) with
    | some (.dN ks), some k => k.depth ≤ 8 ∧ k ∉ ks ∧ ks.length < sizeLine ∧ R (h.set n (.dN (ks ++ [k])))
    | _, _ => False)
  | _, _, _ => False) := rfl
@[simp] theorem eDKey1_s (tk : AT) ρ h R : eDKey1 tk ρ h R = (tk ρ h fun d h1 => match d with
  | .dat (.tup ds) => (match toKey (.tup ds) with | some k => k.depth ≤ 8 ∧ R (.ref h1.length) (h1 ++ [.dN [k]]) | none => False)
  | _ => False) := rfl
@[simp] theorem eDictZip_s (t : AA) ρ h R : eDictZip t ρ h R = (t ρ h fun vs h1 => match vs with
  | [.dat (.lst ks), .dat (.tup ds)] => (match strL ks, intL ds with
    | some ns, some is => ns.Nodup ∧ ns.length = is.length ∧ R (.dat (.dk ((ns.map Sum.inr).zip is))) h1
    | _, _ => False)
  | _ => False) := rfl
@[simp] theorem iZpT_s (t : AA) ρ h S : iZpT t ρ h S = (t ρ h fun ds h1 => match ds with | [.dat (.tup ds), .dat (.tup es)] => S (zpD ds es) h1 | _ => False) := rfl
@[simp] theorem eLc2_s (i j : Nat) (wi wi1 : AI) (te : AT) ρ h R : eLc2 i j wi wi1 te ρ h R = (wi ρ h fun ds h1 => h1 = [] ∧ lcO i j wi1 te ρ ds [] fun acc => R (.dat (.lst acc)) []) := rfl
@[simp] theorem eSorts_s (tb : AT) ρ h R : eSorts tb ρ h R = (tb ρ h fun d h1 => match d with
  | .dat (.str x) => (match sortsOf x with | some ss => R (.dat (.tup (ss.map .str))) h1 | none => False)
  | _ => False) := rfl
@[simp] theorem eCallK_s (F : PFs) (ta tk : AT) ρ h R : eCallK F ta tk ρ h R = (ta ρ h fun d h1 => tk ρ h1 fun e h2 => match d, e with
  | .dat d, .dat e => F [d, e] fun x => R (.dat x) h2
  | _, _ => False) := rfl
@[simp] theorem sFldS_s (to tv : AT) (f : Str) nx x1_ ρ h : sFldS to tv f nx x1_ ρ h = (tv ρ h fun v h1 => to ρ h1 fun o h2 => match o with
  | .ref n => (match h2[n]? with
    | some (.ins fs) => fs.length < 1000 ∧ nx ρ (h2.set n (.ins (putA f v fs)))
    | _ => False)
  | _ => False) := rfl
@[simp] theorem eMethM_s (n : Nat) (F : BFs) (to : AT) (t : AA) ρ h R : eMethM n F to t ρ h R = (to ρ h fun o h1 => match o with
  | .ref i => (match h1[i]? with
    | some (.ins [(f, .ref j)]) => f = rowsF ∧ t ρ h1 fun vs h2 => (match h2[i]?, h2[j]?, datL vs with
      | some (.ins [(f2, .ref j2)]), some (.lst bs), some ds => f2 = rowsF ∧ j2 = j ∧ ds.length + 1 = n ∧ F ds bs fun d bs' => R (.dat d) (h2.set j (.lst bs'))
      | _, _, _ => False)
    | _ => False)
  | _ => False) := rfl
@[simp] theorem eStepper_s (F : PFs) (t : AA) ρ h R : eStepper F t ρ h R = (t ρ h fun vs h1 => match vs with | [.dat d] => F [d] fun e => R (.dat e) h1 | _ => False) := rfl
@[simp] theorem rAddZ_s (Z : Ar) d e h R : rAddZ Z d e h R = (match d, e with
  | .dat (.int i), .dat (.int j) => R (.dat (.int (Z .plus i j))) h
  | .dat (.str x), .dat (.str y) => x.length + y.length ≤ sizeLine ∧ R (.dat (.str (x ++ y))) h
  | .dat (.tup xs), .dat (.tup ys) => xs.length + ys.length ≤ sizeLine ∧ R (.dat (.tup (xs ++ ys))) h
  | .dat (.lst xs), .dat (.lst ys) => xs.length + ys.length ≤ sizeLine ∧ R (.dat (.lst (xs ++ ys))) h
  | _, _ => False) := rfl
@[simp] theorem rSubZ_s (Z : Ar) d e h R : rSubZ Z d e h R = (match d, e with | .dat (.int i), .dat (.int j) => R (.dat (.int (Z .minus i j))) h | _, _ => False) := rfl
@[simp] theorem rMulZ_s (Z : Ar) d e h R : rMulZ Z d e h R = (match d, e with | .dat (.int i), .dat (.int j) => Z .cm i j ∧ R (.dat (.int (Z .times i j))) h | _, _ => False) := rfl
@[simp] theorem rModZ_s (Z : Ar) d e h R : rModZ Z d e h R = (match d, e with | .dat (.int i), .dat (.int j) => Z .nz i j ∧ R (.dat (.int (Z .fm i j))) h | _, _ => False) := rfl
@[simp] theorem rFdivZ_s (Z : Ar) d e h R : rFdivZ Z d e h R = (match d, e with | .dat (.int i), .dat (.int j) => Z .cd i j ∧ R (.dat (.int (Z .fd i j))) h | _, _ => False) := rfl
@[simp] theorem rLtZ_s (Z : Ar) d e h R : rLtZ Z d e h R = (match d, e with | .dat (.int i), .dat (.int j) => R (.dat (.bl (Z .lt i j))) h | _, _ => False) := rfl
@[simp] theorem rLeZ_s (Z : Ar) d e h R : rLeZ Z d e h R = (match d, e with | .dat (.int i), .dat (.int j) => R (.dat (.bl (Z .le i j))) h | _, _ => False) := rfl
@[simp] theorem rGtZ_s (Z : Ar) d e h R : rGtZ Z d e h R = (match d, e with | .dat (.int i), .dat (.int j) => R (.dat (.bl (Z .lt j i))) h | _, _ => False) := rfl
@[simp] theorem rGeZ_s (Z : Ar) d e h R : rGeZ Z d e h R = (match d, e with | .dat (.int i), .dat (.int j) => R (.dat (.bl (Z .le j i))) h | _, _ => False) := rfl
@[simp] theorem rMin2Z_s (Z : Ar) vs h R : rMin2Z Z vs h R = (match vs with
  | [.dat (.int i), .dat (.int j)] => R (.dat (.int (Z .mn i j))) h
  | _ => False) := rfl
@[simp] theorem rMax2Z_s (Z : Ar) vs h R : rMax2Z Z vs h R = (match vs with
  | [.dat (.int i), .dat (.int j)] => R (.dat (.int (Z .mx i j))) h
  | _ => False) := rfl
@[simp] theorem rAddY_s (Z : Ar) (Y : LY) d e h R : rAddY Z Y d e h R = (match d, e with
  | .dat (.int i), .dat (.int j) => R (.dat (.int (Z .plus i j))) h
  | .dat (.str x), .dat (.str y) => Y .fitS2 x y ∧ R (.dat (.str (Y .appS x y))) h
  | .dat (.tup xs), .dat (.tup ys) => Y .fit2 xs ys ∧ R (.dat (.tup (Y .app xs ys))) h
  | .dat (.lst xs), .dat (.lst ys) => Y .fit2 xs ys ∧ R (.dat (.lst (Y .app xs ys))) h
  | _, _ => False) := rfl
@[simp] theorem rLenY_s (Y : LY) vs h R : rLenY Y vs h R = (match vs with
  | [.dat (.str x)] => Y .fitS x ∧ R (.dat (.int (Y .lenS x))) h
  | [v] => (match itemsOf h v with | some ds => R (.dat (.int (Y .len ds))) h | none => False)
  | _ => False) := rfl
@[simp] theorem rIxY_s (Y : LY) d e h R : rIxY Y d e h R = (match d, e with
  | .dat (.str x), .dat (.int i) => Y .fitS x ∧ (match Y .atS x i with | some c => R (.dat (.str c)) h | none => False)
  | d, .dat (.int i) => (match itemsOf h d with | some ds => (match Y .at_ ds i with | some z => R (.dat z) h | none => False) | none => False)
  | _, _ => False) := rfl
@[simp] theorem setLY_s (Y : LY) o i v h R : setLY Y o i v h R = (match o, i, v with
  | .ref n, .dat (.int k), .dat d => (match h[n]? with
    | some (.lst ds) => (match Y .set_ ds k d with | some ds' => R (h.set n (.lst ds')) | none => False)
    | _ => False)
  | _, _, _ => False) := rfl
@[simp] theorem eAppendY_s (Y : LY) (to : AT) (t : AA) ρ h R : eAppendY Y to t ρ h R = (to ρ h fun o h1 => match o with
  | .ref n => (match h1[n]? with
    | some (.lst _) => t ρ h1 fun vs h2 => (match vs, h2[n]? with
      | [.dat d], some (.lst ds) => Y .fit ds ∧ R (.dat .non) (h2.set n (.lst (Y .app ds [d])))
      | _, _ => False)
    | _ => False)
  | _ => False) := rfl
@[simp] theorem ePopY_s (Y : LY) (to : AT) ρ h R : ePopY Y to ρ h R = (to ρ h fun o h1 => match o with
  | .ref n => (match h1[n]? with
    | some (.lst ds) => (match Y .last ds with | some d => R (.dat d) (h1.set n (.lst (Y .init ds))) | none => False)
    | _ => False)
  | _ => False) := rfl
@[simp] theorem rSlY_s (Y : LY) d lo hi h R : rSlY Y d lo hi h R = (match d with
  | .dat (.tup xs) => R (.dat (.tup (Y .cut xs lo hi))) h
  | .dat (.lst xs) => R (.dat (.lst (Y .cut xs lo hi))) h
  | .dat (.str x) => Y .fitS x ∧ R (.dat (.str (Y .cutS x lo hi))) h
  | _ => False) := rfl
@[simp] theorem eSlY_s (Y : LY) (te : AT) (tl th : AO1) ρ h R : eSlY Y te tl th ρ h R = (te ρ h fun d h1 => tl ρ h1 fun lo h2 => th ρ h2 fun hi h3 => rSlY Y d lo hi h3 R) := rfl
@[simp] theorem rSumY_s (Y : LY) vs h R : rSumY Y vs h R = (match vs with
  | [v] => (match itemsOf h v with | some ds => (match Y .iL ds with | some ns => R (.dat (.int (Y .sum ns))) h | none => False) | none => False)
  | _ => False) := rfl
@[simp] theorem rAnyY_s (Y : LY) vs h R : rAnyY Y vs h R = (match vs with
  | [v] => (match itemsOf h v with | some ds => (match Y .bL ds with | some ns => R (.dat (.bl (Y .any_ ns))) h | none => False) | none => False)
  | _ => False) := rfl
@[simp] theorem rMinLY_s (Y : LY) vs h R : rMinLY Y vs h R = (match vs with
  | [.dat (.lst ds)] => (match Y .iL ds with | some ns => 0 < ns.length ∧ ∀ i, i ∈ ns → (∀ y, y ∈ ns → i ≤ y) → R (.dat (.int i)) h | none => False)
  | _ => False) := rfl
@[simp] theorem rSortedY_s (Y : LY) vs h R : rSortedY Y vs h R = (match vs with
  | [.dat (.lst ds)] => (match Y .pL ds with | some ps => ∀ qs : List (Int × Int), qs.Perm ps → qs.Pairwise lexLe → R (.dat (.lst (qs.map pD))) h | none => False)
  | _ => False) := rfl
@[simp] theorem iRg1Y_s (Y : LY) (t : AA) ρ h S : iRg1Y Y t ρ h S = (t ρ h fun ds h1 => match ds with | [.dat (.int j)] => Y .rok j ∧ S (Y .rng j) h1 | _ => False) := rfl
@[simp] theorem iRg3Y_s (Y : LY) (t : AA) ρ h S : iRg3Y Y t ρ h S = (t ρ h fun ds h1 => match ds with
  | [.dat (.int i), .dat (.int j), .dat (.int (-1))] => Y .rok i ∧ Y .rok j ∧ S (Y .rng3 i j) h1 | _ => False) := rfl
@[simp] theorem iEnmY_s (Y : LY) (t : AA) ρ h S : iEnmY Y t ρ h S = (t ρ h fun ds h1 => match ds with | [.dat (.lst ds)] => S (Y .enum ds) h1 | _ => False) := rfl
@[simp] theorem iZpY_s (Y : LY) (t : AA) ρ h S : iZpY Y t ρ h S = (t ρ h fun ds h1 => match ds with | [.dat (.lst ds), .dat (.lst es)] => S (Y .zip_ ds es) h1 | _ => False) := rfl
@[simp] theorem sForY_s (Y : LY) (wi : AI) (gt : AG) (tb : AS) nx rt ρ h : sForY Y wi gt tb nx rt ρ h = (wi ρ h fun ds h1 => Y .loop gt tb nx rt ds ρ h1) := rfl
@[simp] theorem sWhileY_s (Y : LY) (c : AB) (t : AS) nx rt ρ h : sWhileY Y c t nx rt ρ h = (Y .whl c t nx rt ρ h) := rfl
@[simp] theorem eLcY_s (Y : LY) (wi : AI) (t : Tgt) (tt : AB) (te : AT) ρ h R : eLcY Y wi t tt te ρ h R = (wi ρ h fun ds h1 => Y .lc t tt te ρ ds [] h1 R) := rfl
@[simp] theorem eDGetY_s (Y : LY) (td tk : AT) ρ h R : eDGetY Y td tk ρ h R = (td ρ h fun o h1 => tk ρ h1 fun i h2 => match o, i with
  | .ref n, .dat d => (match h2[n]?, keyOf d with
    | some (.dK kvs), some k => (match Y .valD kvs k with | some v => R (.dat v) h2 | none => False)
    | _, _ => False)
  | .dat (.dk kvs), .dat d => (match keyOf d with
    | some k => (match Y .lvl kvs k with | some v => R (.dat (.int v)) h2 | none => False)
    | none => False)
  | _, _ => False) := rfl
@[simp] theorem setDY_s (Y : LY) o i v h R : setDY Y o i v h R = (match o, i, v with
  | .ref n, .dat i, .dat d => (match h[n]?, keyOf i with
    | some (.dK kvs), some k => Y .fitK kvs ∧ R (h.set n (.dK (Y .putD kvs k d)))
    | _, _ => False)
  | _, _, _ => False) := rfl
@[simp] theorem rInSY_s (Y : LY) (neg : Bool) d e h R : rInSY Y neg d e h R = (match d, itemsOf h e with
  | .dat (.str x), some ds => (match Y .sL ds with | some ss => R (.dat (.bl (if neg = true then !decide (x ∈ ss) else decide (x ∈ ss)))) h | none => False)
  | _, _ => False) := rfl
@[simp] theorem rInKY_s (Y : LY) (neg : Bool) d e h R : rInKY Y neg d e h R = (match d, e with
  | .dat (.tup ds), .ref n => (match h[n]?, Y .key (.tup ds) with
    | some (.dN ks), some k => Y .dep k ∧ R (.dat (.bl (if neg = true then !(Y .isIn k ks) else Y .isIn k ks))) h
    | _, _ => False)
  | _, _ => False) := rfl
@[simp] theorem setKY_s (Y : LY) o i v h R : setKY Y o i v h R = (match o, i, v with
  | .ref n, .dat (.tup ds), .dat (.bl true) => (match h[n]?, Y .key (.tup ds) with
    | some (.dN ks), some k => Y .dep k ∧ Y .notIn k ks ∧ Y .fitN ks ∧ R (h.set n (.dN (Y .appN ks k)))
    | _, _ => False)
  | _, _, _ => False) := rfl
@[simp] theorem eDKey1Y_s (Y : LY) (tk : AT) ρ h R : eDKey1Y Y tk ρ h R = (tk ρ h fun d h1 => match d with
  | .dat (.tup ds) => (match Y .key (.tup ds) with | some k => Y .dep k ∧ R (.ref h1.length) (h1 ++ [.dN [k]]) | none => False)
  | _ => False) := rfl
@[simp] theorem eDictZipY_s (Y : LY) (t : AA) ρ h R : eDictZipY Y t ρ h R = (t ρ h fun vs h1 => match vs with
  | [.dat (.lst ks), .dat (.tup ds)] => (match Y .dzip ks ds with
    | some kvs => R (.dat (.dk kvs)) h1
    | none => False)
  | _ => False) := rfl
@[simp] theorem isNon_s1 : isNon (.dat .non) = true := rfl
@[simp] theorem finA_d {n : Nat} {R : D → AH → Prop} {d : D} {h : AH} (hl : h.length = n) : finA n R (.dat d) h = ((h.all (clO n)) = true ∧ R d h) := by
  unfold finA
  rw [List.take_of_length_le (by omega)]
  exact propext ⟨fun ⟨d', e, a, r⟩ => by cases e; exact ⟨a, r⟩, fun ⟨a, r⟩ => ⟨d, rfl, a, r⟩⟩
/-- the end of a def without changing objects handed in -/
@[simp] theorem finA_0 {R : D → AH → Prop} {d : D} {h : AH} : finA 0 R (.dat d) h = R d [] := by
  unfold finA
  exact propext ⟨fun ⟨d', e, a, r⟩ => by cases e; simpa using r, fun r => ⟨d, rfl, by simp, by simpa using r⟩⟩
theorem finA_ref {R : D → AH → Prop} {j : Nat} {ds : List D} {h : AH} (e : h[j]? = some (.lst ds)) : finA 0 R (.ref j) h = R (.lst ds) [] := by
  unfold finA
  simp only [fz, Nat.zero_le, if_true, e]
  exact propext ⟨fun ⟨d', e, a, r⟩ => by cases e; simpa using r, fun r => ⟨_, rfl, by simp, by simpa using r⟩⟩
/-- a while by a measure -/
theorem while_of {c : AB} {t : AS} {nx : En → AH → Prop} {rt : AV → AH → Prop} (Inv : Nat → En → AH → Prop)
    (step : ∀ n K ρ h, (∀ ρ' h', Inv n ρ' h' → K ρ' h') → Inv (n + 1) ρ h → c ρ h fun b h1 => if b = true then t K rt ρ h1 else nx ρ h1)
    (zero : ∀ ρ h, Inv 0 ρ h → False) : ∀ n ρ h, Inv n ρ h → sWhile c t nx rt ρ h := by
  intro n ρ h i
  refine ⟨n, ?_⟩
  induction n generalizing ρ h with
  | zero => exact zero ρ h i
  | succ n ih => exact step n _ ρ h (fun ρ' h' => ih ρ' h') i
/-- a for over a list -/
theorem loop_of {gt : AG} {tb : AS} {nx : En → AH → Prop} {rt : AV → AH → Prop} {ds : List D} (Inv : Nat → En → AH → Prop)
    (step : ∀ i d K ρ h, ds[i]? = some d → (∀ ρ' h', Inv (i + 1) ρ' h' → K ρ' h') → Inv i ρ h → gt (.dat d) ρ h fun ρ2 h2 => tb K rt ρ2 h2)
    (last : ∀ ρ h, Inv ds.length ρ h → nx ρ h) (ρ : En) (h : AH) (i0 : Inv 0 ρ h) : loopA gt tb nx rt ds ρ h := by
  have all : ∀ (es : List D) (i : Nat) ρ h, ds.drop i = es → i ≤ ds.length → Inv i ρ h → loopA gt tb nx rt es ρ h := by
    intro es
    induction es with
    | nil =>
      intro i ρ h e hi q
      have : i = ds.length := by
        have := congrArg List.length e
        rw [List.length_drop] at this
        simp at this; omega
      subst this
      exact last ρ h q
    | cons d es ih =>
      intro i ρ h e hi q
      have hlt : i < ds.length := by
        have := congrArg List.length e
        rw [List.length_drop, List.length_cons] at this
        omega
      rw [List.drop_eq_getElem_cons hlt] at e
      injection e with e1 e2
      exact step i d _ ρ h (by rw [List.getElem?_eq_getElem hlt, e1]) (fun ρ' h' q' => ih (i + 1) ρ' h' e2 hlt q') q
  exact all ds 0 ρ h rfl (Nat.zero_le _) i0
/-- a comprehension whose turns change nothing: item d is bound, tested, told -/
theorem lc_pure {t : Tgt} {tt : AB} {te : AT} {ρ : En} {h : AH} {R : AV → AH → Prop} (p : D → Bool) (f : D → D) : ∀ (ds acc : List D),
    (∀ d ∈ ds, ∃ ρ2, t.bd d (wip ρ t.vs) = some ρ2 ∧ (∀ K, K (p d) h → tt ρ2 h K) ∧ (p d = true → ∀ K, K (.dat (f d)) h → te ρ2 h K)) → acc.length + ds.length ≤ sizeLine → R (.dat (.lst (acc ++ (ds.filter p).map f))) h → lcA t tt te ρ ds acc h R
  | [], acc, _, _, q => by simpa [lcA] using q
  | d :: ds, acc, hd, hz, q => by
    obtain ⟨ρ2, e1, e2, e3⟩ := hd d List.mem_cons_self
    unfold lcA
    rw [e1]
    refine e2 _ ?_
    rw [List.length_cons] at hz
    cases hp : p d with
    | true =>
      rw [if_pos rfl]
      refine e3 hp _ ?_
      refine ⟨by omega, lc_pure p f ds (acc ++ [f d]) (fun x hx => hd x (List.mem_cons_of_mem _ hx)) (by simp; omega) ?_⟩
      rw [List.filter_cons_of_pos hp] at q
      simpa using q
    | false =>
      rw [if_neg Bool.false_ne_true]
      refine lc_pure p f ds acc (fun x hx => hd x (List.mem_cons_of_mem _ hx)) (by omega) ?_
      rw [List.filter_cons_of_neg (by simp [hp])] at q
      exact q
/-- .. without a test -/
theorem lc_map {t : Tgt} {te : AT} {ρ : En} {h : AH} {R : AV → AH → Prop} (f : D → D) {ds : List D}
    (hd : ∀ d ∈ ds, ∃ ρ2, t.bd d (wip ρ t.vs) = some ρ2 ∧ ∀ K, K (.dat (f d)) h → te ρ2 h K) (hz : ds.length ≤ sizeLine) (q : R (.dat (.lst (ds.map f))) h) : lcA t tYes te ρ ds [] h R := by
  refine lc_pure (fun _ => true) f ds [] (fun d hx => ?_) (by simpa using hz) (by rw [List.filter_eq_self.mpr (fun _ _ => rfl)]; simpa using q)
  obtain ⟨ρ2, e1, e2⟩ := hd d hx
  exact ⟨ρ2, e1, fun K k => k, fun _ => e2⟩
theorem atI0 {α : Type} (x : α) (xs : List α) : atI (x :: xs) 0 = some x := by unfold atI ixN; simp
theorem atI1 {α : Type} (x y : α) (xs : List α) : atI (x :: y :: xs) 1 = some y := by unfold atI ixN; simp [show (1 : Int) < (xs.length : Int) + 1 + 1 by omega]
theorem atI2 {α : Type} (x y z : α) (xs : List α) : atI (x :: y :: z :: xs) 2 = some z := by unfold atI ixN; simp [show (2 : Int) < (xs.length : Int) + 1 + 1 + 1 by omega]
theorem atIN {α : Type} {xs : List α} {j : Nat} {v : α} (h : xs[j]? = some v) : atI xs (j : Int) = some v := atI_nat h
@[simp] theorem itemsOf_tup {h : AH} {ds : List D} : itemsOf h (.dat (.tup ds)) = some ds := rfl
@[simp] theorem itemsOf_lst {h : AH} {ds : List D} : itemsOf h (.dat (.lst ds)) = some ds := rfl
@[simp] theorem intL_nil : intL [] = some [] := rfl
@[simp] theorem blL_nil : blL [] = some [] := rfl
@[simp] theorem strL_nil : strL [] = some [] := rfl
end AL
end
section
set_option Elab.async false
set_option linter.all false
set_option maxRecDepth 100000
/-! SP1: texts, == of trees. -/
namespace AL
open PySem PySem.Spec PyProof.Rows L2
theorem ofS_inj {a b : String} : ((Str.ofString a = Str.ofString b) = (a = b)) := by
  refine propext ⟨fun h => ?_, fun h => by rw [h]⟩
  rw [Str.ofString_eq_toList, Str.ofString_eq_toList] at h
  have h1 : a.toList.map Char.toNat = b.toList.map Char.toNat := by
    have := congrArg (fun x : Str => x.cps.toList) h
    simpa using this
  have h2 : ∀ l m : List Char, l.map Char.toNat = m.map Char.toNat → l = m := by
    intro l
    induction l with
    | nil => intro m e; cases m with
      | nil => rfl
      | cons _ _ => simp at e
    | cons c l ih =>
      intro m e
      cases m with
      | nil => simp at e
      | cons d m =>
        rw [List.map_cons, List.map_cons] at e
        injection e with e1 e2
        rw [ih m e2, Char.toNat_inj.mp e1]
  exact String.toList_inj.mp (h2 _ _ h1)
theorem strL_cons (x : Str) (r : List D) : strL (.str x :: r) = (strL r).map (x :: ·) := rfl
theorem intL_cons (x : Int) (r : List D) : intL (.int x :: r) = (intL r).map (x :: ·) := rfl
theorem blL_cons (x : Bool) (r : List D) : blL (.bl x :: r) = (blL r).map (x :: ·) := rfl
theorem eqD_int {i j : Int} : eqD (.int i) (.int j) = (i == j) := by unfold eqD toPy PyData.eqv; rfl
theorem eqD_bl {i j : Bool} : eqD (.bl i) (.bl j) = (i == j) := by unfold eqD toPy PyData.eqv; rfl
theorem eqD_str {i j : Str} : eqD (.str i) (.str j) = (i == j) := by unfold eqD toPy PyData.eqv; rfl
theorem eqD_non : eqD .non .non = true := by unfold eqD toPy PyData.eqv; rfl
theorem eqD_nonint {i : Int} : eqD .non (.int i) = false := by unfold eqD toPy PyData.eqv; rfl
theorem eqD_intnon {i : Int} : eqD (.int i) .non = false := by unfold eqD toPy PyData.eqv; rfl
def eqDs (ds es : List D) : Bool := PyData.eqvAll (toPys ds) (toPys es)
theorem eqD_tup {ds es : List D} : eqD (.tup ds) (.tup es) = eqDs ds es := by unfold eqD eqDs toPy PyData.eqv; rfl
theorem eqD_lst {ds es : List D} : eqD (.lst ds) (.lst es) = eqDs ds es := by unfold eqD eqDs toPy PyData.eqv; rfl
theorem eqDs_nil : eqDs [] [] = true := by unfold eqDs toPys PyData.eqvAll; rfl
theorem eqDs_cons {d e : D} {ds es : List D} : eqDs (d :: ds) (e :: es) = (eqD d e && eqDs ds es) := by
  show PyData.eqvAll (toPy d :: toPys ds) (toPy e :: toPys es) = _
  rw [PyData.eqvAll]; rfl
theorem eqDs_nc {e : D} {es : List D} : eqDs [] (e :: es) = false := by
  show PyData.eqvAll [] (toPy e :: toPys es) = _
  rw [PyData.eqvAll]
theorem eqDs_cn {e : D} {es : List D} : eqDs (e :: es) [] = false := by
  show PyData.eqvAll (toPy e :: toPys es) [] = _
  rw [PyData.eqvAll]
theorem lookup_rows {α : Type} {v : α} {r : List (Str × α)} : List.lookup (Str.ofString "rows_of") ((rowsF, v) :: r) = some v := by
  unfold rowsF
  rw [List.lookup_cons, beq_self_eq_true]
/-- may be compared, at most so deep -/
def okN (n : Nat) (d : D) : Prop := (toPy d).canLay0 = true ∧ (toPy d).depth ≤ n
theorem okD_of {n : Nat} {d : D} (h : okN n d) (hn : n ≤ 64 := by decide) : okD d := by
  unfold okD SeqAt.shaped
  rw [h.1, decide_eq_true (Nat.le_trans h.2 hn)]; rfl
theorem okN_int (n : Nat) (i : Int) : okN n (.int i) := by unfold okN toPy PyData.canLay0 PyData.depth; exact ⟨rfl, Nat.zero_le _⟩
theorem okN_bl (n : Nat) (i : Bool) : okN n (.bl i) := by unfold okN toPy PyData.canLay0 PyData.depth; exact ⟨rfl, Nat.zero_le _⟩
theorem okN_non (n : Nat) : okN n .non := by unfold okN toPy PyData.canLay0 PyData.depth; exact ⟨rfl, Nat.zero_le _⟩
theorem okN_str (n : Nat) {x : Str} (h : PyData.strOk x = true) : okN n (.str x) := by unfold okN toPy PyData.canLay0 PyData.depth; exact ⟨h, Nat.zero_le _⟩
theorem okNs {n : Nat} : ∀ {ds : List D}, (∀ d ∈ ds, okN n d) → PyData.canLayAll0 (toPys ds) = true ∧ PyData.depthAll (toPys ds) ≤ n
  | [], _ => ⟨by unfold toPys PyData.canLayAll0; rfl, by unfold toPys PyData.depthAll; exact Nat.zero_le _⟩
  | d :: ds, h => by
    obtain ⟨a, b⟩ := h d List.mem_cons_self
    obtain ⟨c, e⟩ := okNs (ds := ds) fun x hx => h x (List.mem_cons_of_mem _ hx)
    show (PyData.canLayAll0 (toPy d :: toPys ds)) = true ∧ PyData.depthAll (toPy d :: toPys ds) ≤ n
    rw [PyData.canLayAll0, PyData.depthAll, a, c]
    exact ⟨rfl, Nat.max_le.mpr ⟨b, e⟩⟩
theorem okN_tup {n : Nat} {ds : List D} (h : ∀ d ∈ ds, okN n d) : okN (n + 1) (.tup ds) := by
  obtain ⟨a, b⟩ := okNs h
  unfold okN toPy PyData.canLay0 PyData.depth
  exact ⟨a, Nat.succ_le_succ b⟩
theorem okN_lst {n : Nat} {ds : List D} (h : ∀ d ∈ ds, okN n d) : okN (n + 1) (.lst ds) := by
  obtain ⟨a, b⟩ := okNs h
  unfold okN toPy PyData.canLay0 PyData.depth
  exact ⟨a, Nat.succ_le_succ b⟩
theorem okD_nil : okD (.tup []) := okD_of (okN_tup (n := 0) fun d h => by cases h)
theorem okD_lnil : okD (.lst []) := okD_of (okN_lst (n := 0) fun d h => by cases h)
theorem okD_ints (ns : List Int) : okD (.tup (ns.map .int)) := okD_of (okN_tup (n := 0) fun d h => by
  obtain ⟨i, _, rfl⟩ := List.mem_map.mp h
  exact okN_int _ _)
theorem okD_lints (ns : List Int) : okD (.lst (ns.map .int)) := okD_of (okN_lst (n := 0) fun d h => by
  obtain ⟨i, _, rfl⟩ := List.mem_map.mp h
  exact okN_int _ _)
end AL
end
section
set_option Elab.async false
set_option linter.all false
/-! M1: wishes, what a stepper knows of them, words. -/
namespace AL
/-- small wishes -/
inductive Wi (α : Type) where
  | yes | high (x : α) | low (x : α) | rise (x : α) | fall (x : α)
  | pulse (x : α) (lev : Int) (lo hi : Nat) | edges (x : α) (n lo hi : Nat)
  | not (a : Wi α) | both (a b : Wi α) | either (a b : Wi α) | since (a b : Wi α)
  | ago (n : Nat) (a : Wi α) | within (n : Nat) (a : Wi α) | held (n : Nat) (a : Wi α) | nth (n : Nat) (a : Wi α)
section
variable {α : Type}
def Wi.parts : Wi α → List (Wi α)
  | .not a => [a]
  | .both a b => [a, b]
  | .either a b => [a, b]
  | .since a b => [a, b]
  | .ago _ a => [a]
  | .within _ a => [a]
  | .held _ a => [a]
  | .nth _ a => [a]
  | _ => []
def Wi.size : Wi α → Nat
  | .not a => a.size + 1
  | .both a b => a.size + b.size + 1
  | .either a b => a.size + b.size + 1
  | .since a b => a.size + b.size + 1
  | .ago _ a => a.size + 1
  | .within _ a => a.size + 1
  | .held _ a => a.size + 1
  | .nth _ a => a.size + 1
  | _ => 1
/-- how many parts keep something -/
def Wi.cost : Wi α → Nat
  | .yes => 0
  | .high _ => 0
  | .low _ => 0
  | .not a => a.cost
  | .both a b => a.cost + b.cost
  | .either a b => a.cost + b.cost
  | .since a b => a.cost + b.cost + 1
  | .ago _ a => a.cost + 1
  | .within _ a => a.cost + 1
  | .held _ a => a.cost + 1
  | .nth _ a => a.cost + 1
  | _ => 1
theorem Wi.cost_le : ∀ w : Wi α, w.cost ≤ w.size
  | .yes => Nat.zero_le _
  | .high _ => Nat.zero_le _
  | .low _ => Nat.zero_le _
  | .rise _ => Nat.le_refl _
  | .fall _ => Nat.le_refl _
  | .pulse _ _ _ _ => Nat.le_refl _
  | .edges _ _ _ _ => Nat.le_refl _
  | .not a => by have := a.cost_le; simp only [cost, size]; omega
  | .both a b => by have := a.cost_le; have := b.cost_le; simp only [cost, size]; omega
  | .either a b => by have := a.cost_le; have := b.cost_le; simp only [cost, size]; omega
  | .since a b => by have := a.cost_le; have := b.cost_le; simp only [cost, size]; omega
  | .ago _ a => by have := a.cost_le; simp only [cost, size]; omega
  | .within _ a => by have := a.cost_le; simp only [cost, size]; omega
  | .held _ a => by have := a.cost_le; simp only [cost, size]; omega
  | .nth _ a => by have := a.cost_le; simp only [cost, size]; omega
/-- what is right of its numbers and names: `ok x` of names -/
def Wi.good (ok : α → Prop) : Wi α → Prop
  | .yes => True
  | .high x => ok x
  | .low x => ok x
  | .rise x => ok x
  | .fall x => ok x
  | .pulse x lev lo hi => ok x ∧ (lev = 0 ∨ lev = 1) ∧ lo ≤ 2 ∧ hi ≤ 2
  | .edges x n lo hi => ok x ∧ 1 ≤ n ∧ n ≤ 2 ∧ lo ≤ 2 ∧ hi ≤ 2
  | .not a => a.good ok
  | .both a b => a.good ok ∧ b.good ok
  | .either a b => a.good ok ∧ b.good ok
  | .since a b => a.good ok ∧ b.good ok
  | .ago n a => n ≤ 2 ∧ a.good ok
  | .within n a => n ≤ 2 ∧ a.good ok
  | .held n a => 1 ≤ n ∧ n ≤ 2 ∧ a.good ok
  | .nth n a => 1 ≤ n ∧ n ≤ 2 ∧ a.good ok
theorem Wi.good_parts {ok : α → Prop} : ∀ (w : Wi α), w.good ok → ∀ p ∈ w.parts, p.good ok := by
  intro w h p hp
  cases w <;> simp only [parts, List.mem_cons, List.not_mem_nil, or_false] at hp <;> simp only [good] at h
  all_goals first
    | exact hp.elim
    | (subst hp; first | exact h | exact h.2 | exact h.2.2)
    | (rcases hp with rfl | rfl <;> first | exact h.1 | exact h.2)

def b2 (b : Bool) : Int := if b = true then 1 else 0
def lastOf {β : Type} (r : List β) (n : Nat) : List β := r.drop (r.length - n)
/-- whether a part is so at the next moment, and what it keeps -/
def stepO (w : Wi α) (own : List Int) (inner : List Bool) (l : α → Int) : Bool × List Int :=
  match w with
  | .yes => (true, [])
  | .high x => (decide (l x = 1), [])
  | .low x => (decide (l x = 0), [])
  | .rise x => (decide (own = [0]) && decide (l x = 1), [l x])
  | .fall x => (decide (own = [1]) && decide (l x = 0), [l x])
  | .pulse x lev lo hi => match own with
    | [e, long, fl] => if e = l x then (false, [l x, min (long + 1) (hi + 1), fl]) else (decide (e = lev) && (decide (fl = 1) && (decide ((lo : Int) ≤ long) && decide (long ≤ hi))), [l x, 1, 1])
    | _ => (false, [l x, 1, 0])
  | .edges x n lo hi =>
    let row := lastOf (own.tail ++ [b2 (match own with | [] => false | e :: _ => decide (e ≠ l x))]) n
    (decide ((lo : Int) ≤ row.sum) && decide (row.sum ≤ hi), l x :: lastOf row (n - 1))
  | .not _ => (!(inner.getD 0 false), [])
  | .both _ _ => (inner.getD 0 false && inner.getD 1 false, [])
  | .either _ _ => (inner.getD 0 false || inner.getD 1 false, [])
  | .since _ _ => let now := inner.getD 1 false || (decide (own = [1]) && inner.getD 0 false); (now, [b2 now])
  | .ago n _ => let row := lastOf (own ++ [b2 (inner.getD 0 false)]) (n + 1)
    (decide (n < row.length) && decide (row.head? = some 1), lastOf row n)
  | .within n _ => let row := lastOf (own ++ [b2 (inner.getD 0 false)]) (n + 1)
    (row.any (fun i => decide (i = 1)), lastOf row n)
  | .held n _ => let many := min (n : Int) (own.sum + 1) * b2 (inner.getD 0 false); (decide (many = n), [many])
  | .nth n _ =>
    let elder := decide (own.head? = some 1)
    let many := min ((n : Int) + 1) ((own.tail.headD 0) + b2 (inner.getD 0 false && !elder))
    (inner.getD 0 false && (!elder && decide (many = n)), [b2 (inner.getD 0 false), many])
/-- a word, the last moment first -/
abbrev Wd (α : Type) := List (α → Int)
def runO (w : Wi α) (iv : Wd α → List Bool) : Wd α → Bool × List Int
  | [] => (false, [])
  | l :: r => stepO w (runO w iv r).2 (iv (l :: r)) l
def ev : Wi α → Wd α → Bool × List Int
  | .yes => runO .yes fun _ => []
  | .high x => runO (.high x) fun _ => []
  | .low x => runO (.low x) fun _ => []
  | .rise x => runO (.rise x) fun _ => []
  | .fall x => runO (.fall x) fun _ => []
  | .pulse x lev lo hi => runO (.pulse x lev lo hi) fun _ => []
  | .edges x n lo hi => runO (.edges x n lo hi) fun _ => []
  | .not a => runO (.not a) fun r => [(ev a r).1]
  | .both a b => runO (.both a b) fun r => [(ev a r).1, (ev b r).1]
  | .either a b => runO (.either a b) fun r => [(ev a r).1, (ev b r).1]
  | .since a b => runO (.since a b) fun r => [(ev a r).1, (ev b r).1]
  | .ago n a => runO (.ago n a) fun r => [(ev a r).1]
  | .within n a => runO (.within n a) fun r => [(ev a r).1]
  | .held n a => runO (.held n a) fun r => [(ev a r).1]
  | .nth n a => runO (.nth n a) fun r => [(ev a r).1]
theorem ev_nil (w : Wi α) : ev w [] = (false, []) := by cases w <;> rfl
theorem ev_cons (w : Wi α) (l : α → Int) (r : Wd α) : ev w (l :: r) = stepO w (ev w r).2 (w.parts.map fun p => (ev p (l :: r)).1) l := by cases w <;> rfl

/-- wishes with the places of their parts -/
abbrev Rows (α : Type) := List (Wi α × List Nat)
def RowsOk (rows : Rows α) : Prop := ∀ (j : Nat) (w : Wi α) (ks : List Nat), rows[j]? = some (w, ks) → ks.map (fun k => (rows[k]?).map (·.1)) = w.parts.map some ∧ ∀ k ∈ ks, j < k
/-- what all parts know behind a word -/
def stR (rows : Rows α) (r : Wd α) : List (List Int) := rows.map fun q => (ev q.1 r).2
theorem stR_eq_own {rows : Rows α} {r1 r2 : Wd α} (h : stR rows r1 = stR rows r2) : ∀ q ∈ rows, (ev q.1 r1).2 = (ev q.1 r2).2 := by
  unfold stR at h
  induction rows with
  | nil => intro q hq; cases hq
  | cons q rows ih =>
    rw [List.map_cons, List.map_cons, List.cons.injEq] at h
    intro p hp
    rcases List.mem_cons.mp hp with rfl | hp
    · exact h.1
    · exact ih h.2 p hp
theorem size_parts : ∀ (w p : Wi α), p ∈ w.parts → p.size < w.size := by
  intro w p hp
  cases w <;> simp only [Wi.parts, List.mem_cons, List.not_mem_nil, or_false] at hp
  all_goals first
    | exact hp.elim
    | (subst hp; simp only [Wi.size]; omega)
    | (rcases hp with rfl | rfl <;> simp only [Wi.size] <;> omega)
/-- the step hangs on what is known alone -/
theorem ev_det {S : List (Wi α)} (hS : ∀ w ∈ S, ∀ p ∈ w.parts, p ∈ S) {r1 r2 : Wd α} (h : ∀ w ∈ S, (ev w r1).2 = (ev w r2).2) (l : α → Int) : ∀ (n : Nat) (w : Wi α), w ∈ S → w.size ≤ n → ev w (l :: r1) = ev w (l :: r2) := by
  intro n
  induction n with
  | zero => intro w hw hn; cases w <;> simp [Wi.size] at hn
  | succ n ih =>
    intro w hw hn
    rw [ev_cons, ev_cons, h w hw]
    congr 1
    refine List.map_congr_left fun p hp => ?_
    rw [ih p (hS w hw p hp) (by have := size_parts w p hp; omega)]
theorem rows_closed {rows : Rows α} (ok : RowsOk rows) : ∀ w ∈ rows.map (·.1), ∀ p ∈ w.parts, p ∈ rows.map (·.1) := by
  intro w hw p hp
  obtain ⟨q, hq, rfl⟩ := List.mem_map.mp hw
  obtain ⟨j, hj⟩ := List.getElem?_of_mem hq
  have h := (ok j q.1 q.2 hj).1
  have hp2 : some p ∈ q.1.parts.map some := List.mem_map.mpr ⟨p, hp, rfl⟩
  rw [← h] at hp2
  obtain ⟨k, hk, e⟩ := List.mem_map.mp hp2
  obtain ⟨z, hz, e2⟩ := Option.map_eq_some_iff.mp e
  exact List.mem_map.mpr ⟨z, List.mem_of_getElem? hz, e2⟩
theorem rows_det {rows : Rows α} (ok : RowsOk rows) {r1 r2 : Wd α} (h : stR rows r1 = stR rows r2) (l : α → Int) : (∀ q ∈ rows, ev q.1 (l :: r1) = ev q.1 (l :: r2)) ∧ stR rows (l :: r1) = stR rows (l :: r2) := by
  have h2 := stR_eq_own h
  have k : ∀ q ∈ rows, ev q.1 (l :: r1) = ev q.1 (l :: r2) := fun q hq => ev_det (rows_closed ok) (fun w hw => by
    obtain ⟨z, hz, rfl⟩ := List.mem_map.mp hw
    exact h2 z hz) l _ q.1 (List.mem_map.mpr ⟨q, hq, rfl⟩) (Nat.le_refl _)
  exact ⟨k, List.map_congr_left fun q hq => by rw [k q hq]⟩

/-- the parts of a wish, from a place on -/
def rowsAt (off : Nat) : Wi α → Rows α
  | .not a => (.not a, [off + 1]) :: rowsAt (off + 1) a
  | .both a b => (.both a b, [off + 1, off + 1 + a.size]) :: (rowsAt (off + 1) a ++ rowsAt (off + 1 + a.size) b)
  | .either a b => (.either a b, [off + 1, off + 1 + a.size]) :: (rowsAt (off + 1) a ++ rowsAt (off + 1 + a.size) b)
  | .since a b => (.since a b, [off + 1, off + 1 + a.size]) :: (rowsAt (off + 1) a ++ rowsAt (off + 1 + a.size) b)
  | .ago n a => (.ago n a, [off + 1]) :: rowsAt (off + 1) a
  | .within n a => (.within n a, [off + 1]) :: rowsAt (off + 1) a
  | .held n a => (.held n a, [off + 1]) :: rowsAt (off + 1) a
  | .nth n a => (.nth n a, [off + 1]) :: rowsAt (off + 1) a
  | w => [(w, [])]
theorem rowsAt_length : ∀ (w : Wi α) (off : Nat), (rowsAt off w).length = w.size := by
  intro w
  induction w <;> intro off <;> simp only [rowsAt, Wi.size, List.length_cons, List.length_append, List.length_nil, *]
theorem rowsAt_head (w : Wi α) (off : Nat) : ∃ ks, (rowsAt off w)[0]? = some (w, ks) := by cases w <;> exact ⟨_, rfl⟩
/-- a list of rows that stands from a place on -/
def SegOk (off : Nat) (seg : Rows α) : Prop := ∀ (j : Nat) (w : Wi α) (ks : List Nat), seg[j]? = some (w, ks) → ks.length = w.parts.length ∧ ∀ (i k : Nat) (p : Wi α), ks[i]? = some k → w.parts[i]? = some p → off + j < k ∧ ∃ z, off ≤ k ∧ seg[k - off]? = some (p, z)
theorem SegOk.append {off : Nat} {s1 s2 : Rows α} (h1 : SegOk off s1) (h2 : SegOk (off + s1.length) s2) : SegOk off (s1 ++ s2) := by
  intro j w ks hj
  by_cases h : j < s1.length
  · rw [List.getElem?_append_left h] at hj
    obtain ⟨e, k⟩ := h1 j w ks hj
    refine ⟨e, fun i c p hi hp => ?_⟩
    obtain ⟨a, z, b, q⟩ := k i c p hi hp
    refine ⟨a, z, b, ?_⟩
    rw [List.getElem?_append_left (List.getElem?_eq_some_iff.mp q).1]; exact q
  · rw [List.getElem?_append_right (by omega)] at hj
    obtain ⟨e, k⟩ := h2 _ w ks hj
    refine ⟨e, fun i c p hi hp => ?_⟩
    obtain ⟨a, z, b, q⟩ := k i c p hi hp
    refine ⟨by omega, z, by omega, ?_⟩
    rw [List.getElem?_append_right (by omega)]
    rw [show c - off - s1.length = c - (off + s1.length) by omega]; exact q
theorem SegOk.cons {off : Nat} {w : Wi α} {ks : List Nat} {s : Rows α} (h : SegOk (off + 1) s) (hl : ks.length = w.parts.length)
    (hk : ∀ (i k : Nat) (p : Wi α), ks[i]? = some k → w.parts[i]? = some p → off + 1 ≤ k ∧ ∃ z, s[k - (off + 1)]? = some (p, z)) : SegOk off ((w, ks) :: s) := by
  intro j w' ks' hj
  cases j with
  | zero =>
    simp at hj
    obtain ⟨rfl, rfl⟩ := hj
    refine ⟨hl, fun i k p hi hp => ?_⟩
    obtain ⟨a, z, q⟩ := hk i k p hi hp
    refine ⟨by omega, z, by omega, ?_⟩
    rw [show k - off = (k - (off + 1)) + 1 by omega]
    simpa using q
  | succ j =>
    obtain ⟨e, k⟩ := h j w' ks' (by simpa using hj)
    refine ⟨e, fun i c p hi hp => ?_⟩
    obtain ⟨a, z, b, q⟩ := k i c p hi hp
    refine ⟨by omega, z, by omega, ?_⟩
    rw [show c - off = (c - (off + 1)) + 1 by omega]
    simpa using q
theorem SegOk.leaf {off : Nat} {w : Wi α} (h : w.parts = []) : SegOk off [(w, [])] := by
  intro j w' ks' hj
  cases j with
  | zero =>
    simp at hj
    obtain ⟨rfl, rfl⟩ := hj
    exact ⟨by simp [h], fun i k p hi => by simp at hi⟩
  | succ j => simp at hj
theorem SegOk.one {off : Nat} {w a : Wi α} (h : w.parts = [a]) (ha : SegOk (off + 1) (rowsAt (off + 1) a)) : SegOk off ((w, [off + 1]) :: rowsAt (off + 1) a) := by
  refine SegOk.cons ha (by rw [h]; rfl) fun i k p hi hp => ?_
  rw [h] at hp
  match i with
  | 0 =>
    simp at hi hp
    subst hi hp
    obtain ⟨z, q⟩ := rowsAt_head a (off + 1)
    exact ⟨Nat.le_refl _, z, by simpa using q⟩
  | i + 1 => simp at hi
theorem SegOk.two {off : Nat} {w a b : Wi α} (h : w.parts = [a, b]) (ha : SegOk (off + 1) (rowsAt (off + 1) a)) (hb : SegOk (off + 1 + a.size) (rowsAt (off + 1 + a.size) b)) :
    SegOk off ((w, [off + 1, off + 1 + a.size]) :: (rowsAt (off + 1) a ++ rowsAt (off + 1 + a.size) b)) := by
  refine SegOk.cons (SegOk.append ha (by rw [rowsAt_length]; exact hb)) (by rw [h]; rfl) fun i k p hi hp => ?_
  rw [h] at hp
  match i with
  | 0 =>
    simp at hi hp
    subst hi hp
    obtain ⟨z, q⟩ := rowsAt_head a (off + 1)
    refine ⟨Nat.le_refl _, z, ?_⟩
    rw [Nat.sub_self, List.getElem?_append_left (List.getElem?_eq_some_iff.mp q).1]; exact q
  | 1 =>
    simp at hi hp
    subst hi hp
    obtain ⟨z, q⟩ := rowsAt_head b (off + 1 + a.size)
    refine ⟨by omega, z, ?_⟩
    rw [List.getElem?_append_right (by rw [rowsAt_length]; omega), rowsAt_length]
    rw [show off + 1 + a.size - (off + 1) - a.size = 0 by omega]; exact q
  | i + 2 => simp at hi
theorem rowsAt_ok : ∀ (w : Wi α) (off : Nat), SegOk off (rowsAt off w) := by
  intro w
  induction w <;> intro off <;> unfold rowsAt
  case not a ih => exact SegOk.one rfl (ih _)
  case ago n a ih => exact SegOk.one rfl (ih _)
  case within n a ih => exact SegOk.one rfl (ih _)
  case held n a ih => exact SegOk.one rfl (ih _)
  case nth n a ih => exact SegOk.one rfl (ih _)
  case both a b ha hb => exact SegOk.two rfl (ha _) (hb _)
  case either a b ha hb => exact SegOk.two rfl (ha _) (hb _)
  case since a b ha hb => exact SegOk.two rfl (ha _) (hb _)
  all_goals exact SegOk.leaf rfl
/-- the rows of some wishes, and where each begins -/
def rowsL (off : Nat) : List (Wi α) → Rows α
  | [] => []
  | w :: ws => rowsAt off w ++ rowsL (off + w.size) ws
def topsL (off : Nat) : List (Wi α) → List Nat
  | [] => []
  | w :: ws => off :: topsL (off + w.size) ws
theorem rowsAt_eq (w : Wi α) (off : Nat) : rowsAt off w = (w, topsL (off + 1) w.parts) :: rowsL (off + 1) w.parts := by
  cases w <;> simp [rowsAt, Wi.parts, topsL, rowsL]
theorem rowsL_seg : ∀ (ws : List (Wi α)) (off : Nat), SegOk off (rowsL off ws)
  | [], off => fun j w ks h => by simp [rowsL] at h
  | w :: ws, off => (rowsAt_ok w off).append (by rw [rowsAt_length]; exact rowsL_seg ws _)
theorem rowsL_ok (ws : List (Wi α)) : RowsOk (rowsL 0 ws) := by
  intro j w ks hj
  obtain ⟨e, k⟩ := rowsL_seg ws 0 j w ks hj
  constructor
  · refine List.ext_getElem? fun i => ?_
    rw [List.getElem?_map, List.getElem?_map]
    by_cases hi : i < ks.length
    · have h1 : ks[i]? = some ks[i] := List.getElem?_eq_getElem hi
      have h2 : w.parts[i]? = some w.parts[i] := List.getElem?_eq_getElem (by omega)
      obtain ⟨_, z, _, q⟩ := k i _ _ h1 h2
      rw [h1, h2]
      simp only [Option.map_some]
      rw [Nat.sub_zero] at q
      rw [q]; rfl
    · rw [List.getElem?_eq_none (by omega), List.getElem?_eq_none (by omega)]; rfl
  · intro c hc
    obtain ⟨i, hi⟩ := List.getElem?_of_mem hc
    have hl := (List.getElem?_eq_some_iff.mp hi).1
    obtain ⟨a, _⟩ := k i c _ hi (List.getElem?_eq_getElem (by omega))
    omega
theorem rowsL_length : ∀ (ws : List (Wi α)) (off : Nat), (rowsL off ws).length = (ws.map Wi.size).sum
  | [], _ => rfl
  | w :: ws, off => by simp [rowsL, rowsAt_length, rowsL_length ws]
theorem topsL_get : ∀ (ws : List (Wi α)) (off : Nat) (pre : Rows α), pre.length = off → (topsL off ws).map (fun k => ((pre ++ rowsL off ws)[k]?).map (·.1)) = ws.map some
  | [], _, _, _ => rfl
  | w :: ws, off, pre, h => by
    unfold topsL rowsL
    rw [List.map_cons, List.map_cons]
    congr 1
    · obtain ⟨z, q⟩ := rowsAt_head w off
      rw [List.getElem?_append_right (by omega), h, Nat.sub_self, List.getElem?_append_left (by rw [rowsAt_length]; cases w <;> simp [Wi.size]), q]; rfl
    · rw [← List.append_assoc]
      exact topsL_get ws _ (pre ++ rowsAt off w) (by rw [List.length_append, rowsAt_length, h])
theorem tops_get (ws : List (Wi α)) : (topsL 0 ws).map (fun k => ((rowsL 0 ws)[k]?).map (·.1)) = ws.map some := by
  simpa using topsL_get ws 0 [] rfl
end
end AL
end
section
set_option Elab.async false
set_option linter.all false
/-! M2: the states are few; the search by breadth finds the shortest. -/
namespace AL
section
variable {α : Type}
def ownsB : List (List Int) := [[], [0], [1], [0, 0], [0, 1], [1, 0], [1, 1]]
def ownsP : List (List Int) := [[], [0, 1, 0], [0, 1, 1], [0, 2, 0], [0, 2, 1], [0, 3, 0], [0, 3, 1], [1, 1, 0], [1, 1, 1], [1, 2, 0], [1, 2, 1], [1, 3, 0], [1, 3, 1]]
def ownsN : List (List Int) := [[], [0, 0], [0, 1], [0, 2], [0, 3], [1, 0], [1, 1], [1, 2], [1, 3]]
def Wi.owns : Wi α → List (List Int)
  | .rise _ => ownsB
  | .fall _ => ownsB
  | .pulse _ _ _ _ => ownsP
  | .edges _ _ _ _ => ownsB
  | .since _ _ => ownsB
  | .ago _ _ => ownsB
  | .within _ _ => ownsB
  | .held _ _ => [[], [0], [1], [2]]
  | .nth _ _ => ownsN
  | _ => [[]]
theorem own_pulse : ∀ hi ∈ [0, 1, 2], ∀ own ∈ ownsP, ∀ lv ∈ ([0, 1] : List Int), ∀ lev ∈ ([0, 1] : List Int), ∀ lo ∈ [0, 1, 2], (stepO (Wi.pulse () lev lo hi) own [] (fun _ => lv)).2 ∈ ownsP := by decide +kernel
theorem own_edges : ∀ n ∈ [1, 2], ∀ own ∈ ownsB, ∀ lv ∈ ([0, 1] : List Int), (stepO (Wi.edges () n 0 0) own [] (fun _ => lv)).2 ∈ ownsB := by decide +kernel
theorem own_ago : ∀ n ∈ [0, 1, 2], ∀ own ∈ ownsB, ∀ b ∈ [false, true], (stepO (Wi.ago n (Wi.yes : Wi Unit)) own [b] (fun _ => 0)).2 ∈ ownsB := by decide +kernel
theorem own_held : ∀ n ∈ [1, 2], ∀ own ∈ ([[], [0], [1], [2]] : List (List Int)), ∀ b ∈ [false, true], (stepO (Wi.held n (Wi.yes : Wi Unit)) own [b] (fun _ => 0)).2 ∈ ([[], [0], [1], [2]] : List (List Int)) := by decide +kernel
theorem own_nth : ∀ n ∈ [1, 2], ∀ own ∈ ownsN, ∀ b ∈ [false, true], (stepO (Wi.nth n (Wi.yes : Wi Unit)) own [b] (fun _ => 0)).2 ∈ ownsN := by decide +kernel
theorem mem012 {n : Nat} (h : n ≤ 2) : n ∈ [0, 1, 2] := by
  match n, h with
  | 0, _ => decide
  | 1, _ => decide
  | 2, _ => decide
theorem mem12 {n : Nat} (h1 : 1 ≤ n) (h : n ≤ 2) : n ∈ [1, 2] := by
  match n, h1, h with
  | 1, _, _ => decide
  | 2, _, _ => decide
theorem mem01 {i : Int} (h : i = 0 ∨ i = 1) : i ∈ ([0, 1] : List Int) := by rcases h with rfl | rfl <;> decide
theorem memB (b : Bool) : b ∈ [false, true] := by cases b <;> decide
theorem inner_one {f : Wi α → Bool} {a : Wi α} : ([a].map f) = [f a] := rfl
/-- what a part keeps is one of few -/
theorem own_mem {ok : α → Prop} : ∀ (w : Wi α), w.good ok → ∀ r : Wd α, (∀ l ∈ r, ∀ x, ok x → l x = 0 ∨ l x = 1) → (ev w r).2 ∈ w.owns := by
  intro w hw r hr
  induction r with
  | nil => rw [ev_nil]; cases w <;> simp [Wi.owns, ownsB, ownsP, ownsN]
  | cons l r ih =>
    have ih := ih fun l hl => hr l (List.mem_cons_of_mem _ hl)
    have hl := hr l List.mem_cons_self
    rw [ev_cons]
    generalize (ev w r).2 = own at ih
    cases w with
    | yes => exact List.mem_singleton.mpr rfl
    | high x => exact List.mem_singleton.mpr rfl
    | low x => exact List.mem_singleton.mpr rfl
    | not a => exact List.mem_singleton.mpr rfl
    | both a b => exact List.mem_singleton.mpr rfl
    | either a b => exact List.mem_singleton.mpr rfl
    | rise x =>
      show [l x] ∈ ownsB
      rcases hl x hw with e | e <;> rw [e] <;> decide
    | fall x =>
      show [l x] ∈ ownsB
      rcases hl x hw with e | e <;> rw [e] <;> decide
    | pulse x lev lo hi => exact own_pulse hi (mem012 hw.2.2.2) own ih (l x) (mem01 (hl x hw.1)) lev (mem01 hw.2.1) lo (mem012 hw.2.2.1)
    | edges x n lo hi => exact own_edges n (mem12 hw.2.1 hw.2.2.1) own ih (l x) (mem01 (hl x hw.1))
    | since a b =>
      show [b2 _] ∈ ownsB
      unfold b2
      split <;> decide
    | ago n a => exact own_ago n (mem012 hw.1) own ih _ (memB (ev a (l :: r)).1)
    | within n a => exact own_ago n (mem012 hw.1) own ih _ (memB (ev a (l :: r)).1)
    | held n a => exact own_held n (mem12 hw.1 hw.2.1) own ih _ (memB (ev a (l :: r)).1)
    | nth n a => exact own_nth n (mem12 hw.1 hw.2.1) own ih _ (memB (ev a (l :: r)).1)
def prodL {β : Type} : List (List β) → List (List β)
  | [] => [[]]
  | xs :: r => xs.flatMap fun x => (prodL r).map (x :: ·)
theorem mem_prodL {β : Type} : ∀ {Ls : List (List β)} {xs : List β}, xs.length = Ls.length → (∀ (i : Nat) (x : β) (L : List β), xs[i]? = some x → Ls[i]? = some L → x ∈ L) → xs ∈ prodL Ls
  | [], [], _, _ => List.mem_singleton.mpr rfl
  | L :: Ls, x :: xs, h, k => by
    unfold prodL
    refine List.mem_flatMap.mpr ⟨x, k 0 x L rfl rfl, List.mem_map.mpr ⟨xs, mem_prodL (by simpa using h) fun i y M h1 h2 => k (i + 1) y M (by simpa using h1) (by simpa using h2), rfl⟩⟩
theorem sum_const {β : Type} (n : Nat) : ∀ L : List β, (L.map fun _ => n).sum = L.length * n
  | [] => by simp
  | _ :: L => by rw [List.map_cons, List.sum_cons, sum_const n L, List.length_cons, Nat.add_mul, Nat.one_mul, Nat.add_comm]
theorem prodL_length {β : Type} : ∀ Ls : List (List β), (prodL Ls).length = (Ls.map List.length).foldr (· * ·) 1
  | [] => rfl
  | L :: Ls => by
    unfold prodL
    rw [List.length_flatMap, List.map_cons, List.foldr_cons, ← prodL_length Ls]
    simp [sum_const]
def wgt (rows : Rows α) : Nat := (rows.map fun q => q.1.owns.length).foldr (· * ·) 1
theorem wgt_cons (q : Wi α × List Nat) (rows : Rows α) : wgt (q :: rows) = q.1.owns.length * wgt rows := rfl
theorem wgt_append : ∀ (r s : Rows α), wgt (r ++ s) = wgt r * wgt s
  | [], s => by unfold wgt; simp
  | q :: r, s => by rw [List.cons_append, wgt_cons, wgt_cons, wgt_append r s, Nat.mul_assoc]
theorem wgt_rowsAt : ∀ (w : Wi α) (off : Nat), wgt (rowsAt off w) ≤ 13 ^ w.cost := by
  intro w
  have p1 : ∀ (n k c : Nat), n ≤ 13 ^ c → k ≤ 13 → k * n ≤ 13 ^ (c + 1) := fun n k c h1 h2 => by
    rw [Nat.pow_succ, Nat.mul_comm (13 ^ c)]; exact Nat.mul_le_mul h2 h1
  have p0 : ∀ (n c : Nat), n ≤ 13 ^ c → 1 * n ≤ 13 ^ c := fun n c h => by omega
  have p2 : ∀ (n m c d : Nat), n ≤ 13 ^ c → m ≤ 13 ^ d → n * m ≤ 13 ^ (c + d) := fun n m c d h1 h2 => by
    rw [Nat.pow_add]; exact Nat.mul_le_mul h1 h2
  induction w <;> intro off <;> unfold rowsAt <;> rw [wgt_cons]
  case not a ih => exact p0 _ _ (ih _)
  case ago n a ih => exact p1 _ _ _ (ih _) (Nat.le_of_ble_eq_true rfl)
  case within n a ih => exact p1 _ _ _ (ih _) (Nat.le_of_ble_eq_true rfl)
  case held n a ih => exact p1 _ _ _ (ih _) (Nat.le_of_ble_eq_true rfl)
  case nth n a ih => exact p1 _ _ _ (ih _) (Nat.le_of_ble_eq_true rfl)
  case both a b ha hb => rw [wgt_append]; exact p0 _ _ (p2 _ _ _ _ (ha _) (hb _))
  case either a b ha hb => rw [wgt_append]; exact p0 _ _ (p2 _ _ _ _ (ha _) (hb _))
  case since a b ha hb => rw [wgt_append]; exact p1 _ _ _ (p2 _ _ _ _ (ha _) (hb _)) (Nat.le_of_ble_eq_true rfl)
  all_goals (show _ * 1 ≤ _; simp only [Wi.owns, Wi.cost]; decide)
theorem wgt_rowsL : ∀ (ws : List (Wi α)) (off : Nat), wgt (rowsL off ws) ≤ 13 ^ (ws.map Wi.cost).sum
  | [], _ => by simp [rowsL, wgt]
  | w :: ws, off => by
    unfold rowsL
    rw [wgt_append, List.map_cons, List.sum_cons, Nat.pow_add]
    exact Nat.mul_le_mul (wgt_rowsAt w off) (wgt_rowsL ws _)
theorem rowsAt_good {ok : α → Prop} : ∀ (w : Wi α) (off : Nat), w.good ok → ∀ q ∈ rowsAt off w, q.1.good ok := by
  intro w
  induction w <;> intro off h q hq
  case not a ih => exact (List.mem_cons.mp hq).elim (fun e => e ▸ h) (ih _ h q)
  case ago n a ih => exact (List.mem_cons.mp hq).elim (fun e => e ▸ h) (ih _ h.2 q)
  case within n a ih => exact (List.mem_cons.mp hq).elim (fun e => e ▸ h) (ih _ h.2 q)
  case held n a ih => exact (List.mem_cons.mp hq).elim (fun e => e ▸ h) (ih _ h.2.2 q)
  case nth n a ih => exact (List.mem_cons.mp hq).elim (fun e => e ▸ h) (ih _ h.2.2 q)
  case both a b ha hb => exact (List.mem_cons.mp hq).elim (fun e => e ▸ h) fun hq => (List.mem_append.mp hq).elim (ha _ h.1 q) (hb _ h.2 q)
  case either a b ha hb => exact (List.mem_cons.mp hq).elim (fun e => e ▸ h) fun hq => (List.mem_append.mp hq).elim (ha _ h.1 q) (hb _ h.2 q)
  case since a b ha hb => exact (List.mem_cons.mp hq).elim (fun e => e ▸ h) fun hq => (List.mem_append.mp hq).elim (ha _ h.1 q) (hb _ h.2 q)
  all_goals exact (List.mem_singleton.mp hq) ▸ h
theorem rowsL_good {ok : α → Prop} : ∀ (ws : List (Wi α)) (off : Nat), (∀ w ∈ ws, w.good ok) → ∀ q ∈ rowsL off ws, q.1.good ok
  | [], _, _, q, hq => by cases hq
  | w :: ws, off, h, q, hq => (List.mem_append.mp hq).elim (rowsAt_good w off (h w List.mem_cons_self) q) (rowsL_good ws _ (fun w hw => h w (List.mem_cons_of_mem _ hw)) q)
theorem stR_mem {ok : α → Prop} {rows : Rows α} (h : ∀ q ∈ rows, q.1.good ok) {r : Wd α} (hr : ∀ l ∈ r, ∀ x, ok x → l x = 0 ∨ l x = 1) : stR rows r ∈ prodL (rows.map fun q => q.1.owns) := by
  refine mem_prodL (by simp [stR]) fun i x L h1 h2 => ?_
  unfold stR at h1
  rw [List.getElem?_map] at h1 h2
  obtain ⟨q, e1, e2⟩ := Option.map_eq_some_iff.mp h1
  obtain ⟨q', e3, e4⟩ := Option.map_eq_some_iff.mp h2
  rw [e1] at e3
  cases e3
  subst e2 e4
  exact own_mem q.1 (h q (List.mem_of_getElem? e1)) r hr
theorem nodup_le {β : Type} [DecidableEq β] : ∀ {xs ys : List β}, xs.Nodup → (∀ x ∈ xs, x ∈ ys) → xs.length ≤ ys.length
  | [], _, _, _ => Nat.zero_le _
  | x :: xs, ys, h, k => by
    rw [List.nodup_cons] at h
    have hx := k x List.mem_cons_self
    have := nodup_le (xs := xs) (ys := ys.erase x) h.2 fun y hy => (List.mem_erase_of_ne (fun e : y = x => h.1 (e ▸ hy))).mpr (k y (List.mem_cons_of_mem _ hy))
    rw [List.length_erase_of_mem hx] at this
    have hpos := List.length_pos_of_mem hx
    rw [List.length_cons]; omega
/-- how many states there are -/
theorem few {ok : α → Prop} {ws : List (Wi α)} (hg : ∀ w ∈ ws, w.good ok) (hc : (ws.map Wi.cost).sum ≤ 4) {Ws : List (Wd α)} (hW : ∀ r ∈ Ws, ∀ l ∈ r, ∀ x, ok x → l x = 0 ∨ l x = 1) (nd : (Ws.map (stR (rowsL 0 ws))).Nodup) : Ws.length ≤ 28561 := by
  have h := nodup_le nd (ys := prodL ((rowsL 0 ws).map fun q => q.1.owns)) fun x hx => by
    obtain ⟨r, hr, rfl⟩ := List.mem_map.mp hx
    exact stR_mem (rowsL_good ws 0 hg) (hW r hr)
  rw [List.length_map, prodL_length, List.map_map] at h
  have h2 := wgt_rowsL ws 0
  have h3 : 13 ^ (ws.map Wi.cost).sum ≤ 13 ^ 4 := Nat.pow_le_pow_right (by decide) hc
  have e : ((rowsL 0 ws).map (List.length ∘ fun q => q.1.owns)).foldr (· * ·) 1 = wgt (rowsL 0 ws) := rfl
  rw [e] at h
  exact Nat.le_trans h (Nat.le_trans h2 h3)
end

/-! ### the search by breadth -/
section
variable {A K : Type} (As : List A) (key : List A → K) (hit : List A → Bool)
structure Bfs (W : List (List A)) (n : Nat) : Prop where
  one : W[0]? = some []
  let_ : ∀ r ∈ W, ∀ a ∈ r, a ∈ As
  nd : (W.map key).Nodup
  up : (W.map List.length).Pairwise (· ≤ ·)
  le : n ≤ W.length
  old : ∀ j, j < n → ∀ v, W[j]? = some v → ∀ a ∈ As, hit (a :: v) = false ∧ ∃ v', v' ∈ W ∧ key v' = key (a :: v) ∧ v'.length ≤ v.length + 1
  near : ∀ v, W[n]? = some v → ∀ u ∈ W, u.length ≤ v.length + 1
/-- amid the letters of the n-th -/
structure BfsI (W : List (List A)) (n : Nat) (v : List A) (done : List A) : Prop where
  one : W[0]? = some []
  let_ : ∀ r ∈ W, ∀ a ∈ r, a ∈ As
  nd : (W.map key).Nodup
  up : (W.map List.length).Pairwise (· ≤ ·)
  here : W[n]? = some v
  old : ∀ j, j < n → ∀ v, W[j]? = some v → ∀ a ∈ As, hit (a :: v) = false ∧ ∃ v', v' ∈ W ∧ key v' = key (a :: v) ∧ v'.length ≤ v.length + 1
  cur : ∀ a ∈ done, hit (a :: v) = false ∧ ∃ v', v' ∈ W ∧ key v' = key (a :: v) ∧ v'.length ≤ v.length + 1
  near : ∀ u ∈ W, u.length ≤ v.length + 1
variable {As key hit} {W : List (List A)} {n : Nat} {v done : List A}
theorem Bfs.start : Bfs As key hit [[]] 0 :=
  ⟨rfl, fun r hr a ha => (by rw [List.mem_singleton.mp hr] at ha; cases ha), by simp, by simp, Nat.zero_le _, fun j hj => by omega, fun v hv u hu => by rw [List.mem_singleton.mp hu]; simp⟩
theorem Bfs.open_ (b : Bfs As key hit W n) (h : W[n]? = some v) : BfsI As key hit W n v [] :=
  ⟨b.one, b.let_, b.nd, b.up, h, b.old, fun a ha => (by cases ha), b.near v h⟩
theorem BfsI.stay (b : BfsI As key hit W n v done) {a : A} (ha : a ∈ As) (hh : hit (a :: v) = false) (hk : key (a :: v) ∈ W.map key) : BfsI As key hit W n v (done ++ [a]) := by
  refine ⟨b.one, b.let_, b.nd, b.up, b.here, b.old, fun c hc => ?_, b.near⟩
  rcases List.mem_append.mp hc with hc | hc
  · exact b.cur c hc
  · rw [List.mem_singleton.mp hc]
    obtain ⟨v', h1, h2⟩ := List.mem_map.mp hk
    exact ⟨hh, v', h1, h2, b.near v' h1⟩
theorem BfsI.more (b : BfsI As key hit W n v done) {a : A} (ha : a ∈ As) (hh : hit (a :: v) = false) (hk : key (a :: v) ∉ W.map key) : BfsI As key hit (W ++ [a :: v]) n v (done ++ [a]) := by
  have hn := (List.getElem?_eq_some_iff.mp b.here).1
  have wid : ∀ {u : List A} {c : A}, (∃ v', v' ∈ W ∧ key v' = key (c :: u) ∧ v'.length ≤ u.length + 1) → ∃ v', v' ∈ W ++ [a :: v] ∧ key v' = key (c :: u) ∧ v'.length ≤ u.length + 1 := fun ⟨v', h1, h2⟩ => ⟨v', List.mem_append_left _ h1, h2⟩
  refine ⟨?_, fun r hr c hc => ?_, ?_, ?_, ?_, fun j hj u hu c hc => ?_, fun c hc => ?_, fun u hu => ?_⟩
  · rw [List.getElem?_append_left (by omega)]; exact b.one
  · rcases List.mem_append.mp hr with hr | hr
    · exact b.let_ r hr c hc
    · rw [List.mem_singleton.mp hr] at hc
      rcases List.mem_cons.mp hc with rfl | hc
      · exact ha
      · exact b.let_ v (List.mem_of_getElem? b.here) c hc
  · rw [List.map_append, List.nodup_append]
    exact ⟨b.nd, by simp, fun x hx y hy => by rw [List.mem_singleton.mp hy]; exact fun e => hk (e ▸ hx)⟩
  · rw [List.map_append, List.pairwise_append]
    refine ⟨b.up, by simp, fun x hx y hy => ?_⟩
    obtain ⟨u, hu, rfl⟩ := List.mem_map.mp hx
    rw [List.mem_singleton.mp hy]
    exact b.near u hu
  · rw [List.getElem?_append_left hn]; exact b.here
  · have hj' : j < W.length := by omega
    rw [List.getElem?_append_left hj'] at hu
    obtain ⟨h1, h2⟩ := b.old j hj u hu c hc
    exact ⟨h1, wid h2⟩
  · rcases List.mem_append.mp hc with hc | hc
    · exact ⟨(b.cur c hc).1, wid (b.cur c hc).2⟩
    · rw [List.mem_singleton.mp hc]
      exact ⟨hh, a :: v, List.mem_append_right _ List.mem_cons_self, rfl, by simp⟩
  · rcases List.mem_append.mp hu with hu | hu
    · exact b.near u hu
    · rw [List.mem_singleton.mp hu]; simp
theorem BfsI.next (b : BfsI As key hit W n v As) : Bfs As key hit W (n + 1) := by
  have hn := (List.getElem?_eq_some_iff.mp b.here).1
  refine ⟨b.one, b.let_, b.nd, b.up, hn, fun j hj u hu a ha => ?_, fun u hu x hx => ?_⟩
  · by_cases h : j < n
    · exact b.old j h u hu a ha
    · have : j = n := by omega
      subst this
      rw [b.here] at hu; cases hu
      exact b.cur a ha
  · have h1 := b.near x hx
    have h2 : v.length ≤ u.length := by
      have hn1 := (List.getElem?_eq_some_iff.mp hu).1
      have := (List.pairwise_iff_getElem.mp b.up) n (n + 1) (by simpa using hn) (by simpa using hn1) (by omega)
      rw [List.getElem_map, List.getElem_map] at this
      rw [(List.getElem?_eq_some_iff.mp b.here).2, (List.getElem?_eq_some_iff.mp hu).2] at this
      exact this
    omega
theorem Bfs.none (det : ∀ r1 r2, (∀ a ∈ r1, a ∈ As) → (∀ a ∈ r2, a ∈ As) → key r1 = key r2 → ∀ a ∈ As, hit (a :: r1) = hit (a :: r2) ∧ key (a :: r1) = key (a :: r2)) (b : Bfs As key hit W n) (hn : W.length ≤ n) : ∀ r : List A, (∀ a ∈ r, a ∈ As) → ∀ a ∈ As, hit (a :: r) = false := by
  have reach : ∀ r : List A, (∀ a ∈ r, a ∈ As) → ∃ v, v ∈ W ∧ key v = key r := by
    intro r
    induction r with
    | nil => exact fun _ => ⟨[], List.mem_of_getElem? b.one, rfl⟩
    | cons a r ih =>
      intro h
      obtain ⟨v, h1, h2⟩ := ih fun c hc => h c (List.mem_cons_of_mem _ hc)
      obtain ⟨j, hj⟩ := List.getElem?_of_mem h1
      have hjl := (List.getElem?_eq_some_iff.mp hj).1
      obtain ⟨_, v', h3, h4, _⟩ := b.old j (by omega) v hj a (h a List.mem_cons_self)
      exact ⟨v', h3, h4.trans (det v r (b.let_ v h1) (fun c hc => h c (List.mem_cons_of_mem _ hc)) h2 a (h a List.mem_cons_self)).2⟩
  intro r hr a ha
  obtain ⟨v, h1, h2⟩ := reach r hr
  obtain ⟨j, hj⟩ := List.getElem?_of_mem h1
  have hjl := (List.getElem?_eq_some_iff.mp hj).1
  rw [← (det v r (b.let_ v h1) hr h2 a ha).1]
  exact (b.old j (by omega) v hj a ha).1
theorem BfsI.found (det : ∀ r1 r2, (∀ a ∈ r1, a ∈ As) → (∀ a ∈ r2, a ∈ As) → key r1 = key r2 → ∀ a ∈ As, hit (a :: r1) = hit (a :: r2) ∧ key (a :: r1) = key (a :: r2)) (b : BfsI As key hit W n v done) : ∀ (r : List A), (∀ a ∈ r, a ∈ As) → ∀ a ∈ As, hit (a :: r) = true → v.length ≤ r.length := by
  have sorted : ∀ (i : Nat) (u : List A), W[i]? = some u → u.length < v.length → i < n := fun i u hu hlt => by
    by_cases h : i < n
    · exact h
    · exfalso
      by_cases e : i = n
      · subst e
        rw [b.here] at hu; cases hu; omega
      · have hi := (List.getElem?_eq_some_iff.mp hu).1
        have hn := (List.getElem?_eq_some_iff.mp b.here).1
        have := (List.pairwise_iff_getElem.mp b.up) n i (by simpa using hn) (by simpa using hi) (by omega)
        rw [List.getElem_map, List.getElem_map] at this
        rw [(List.getElem?_eq_some_iff.mp b.here).2, (List.getElem?_eq_some_iff.mp hu).2] at this
        omega
  have reach : ∀ r : List A, (∀ a ∈ r, a ∈ As) → r.length < v.length → ∃ j u, j < n ∧ W[j]? = some u ∧ key u = key r ∧ u.length ≤ r.length := by
    intro r
    induction r with
    | nil => exact fun _ h => ⟨0, [], sorted 0 [] b.one h, b.one, rfl, Nat.le_refl _⟩
    | cons a r ih =>
      intro h hl
      rw [List.length_cons] at hl
      obtain ⟨j, u, h1, h2, h3, h4⟩ := ih (fun c hc => h c (List.mem_cons_of_mem _ hc)) (by omega)
      obtain ⟨_, v', h5, h6, h7⟩ := b.old j h1 u h2 a (h a List.mem_cons_self)
      obtain ⟨i, hi⟩ := List.getElem?_of_mem h5
      exact ⟨i, v', sorted i v' hi (by omega), hi, h6.trans (det u r (b.let_ u (List.mem_of_getElem? h2)) (fun c hc => h c (List.mem_cons_of_mem _ hc)) h3 a (h a List.mem_cons_self)).2, by rw [List.length_cons]; omega⟩
  intro r hr a ha hh
  by_cases hl : v.length ≤ r.length
  · exact hl
  · exfalso
    obtain ⟨j, u, h1, h2, h3, h4⟩ := reach r hr (by omega)
    have h5 := (b.old j h1 u h2 a ha).1
    rw [(det u r (b.let_ u (List.mem_of_getElem? h2)) hr h3 a ha).1, hh] at h5
    cases h5
end
end AL
end
section
set_option Elab.async false
set_option linter.all false
set_option maxRecDepth 100000
set_option maxHeartbeats 4000000
/-! S1: what the small defs do: last_of, step_line, step_timed, step_part. -/
namespace AL
open PySem PySem.Spec PyProof.Rows L2
local macro_rules | `(tactic| walk_at "al") => `(tactic| simp only [eV_s, eC_s, aNil_s, aCons_s, eTup_s, eLst_s, eLstM_s, eOp_s, eUn_s, rII_s, rIIc_s, rSub_s, rMul_s, rMod_s, rFdiv_s, rPow_s, rLt_s, rLe_s, rGt_s, rGe_s, rNeg_s, rIsN_s, tst_s, tAnd_s, tOr_s, tNot_s, eAnd_s, eOr_s, eNot_s, eIf_s, eChain_s, rAdd_s, rEqN_s, rInS_s, rIx_s, oNone_s, oSome_s, rSl_s, eSl_s, eCall_s, rLen_s, rInt_s, rMax2_s, rMin2_s, rSum_s, rAny_s, rMinL_s, rTuple_s, rListM_s, rSorted_s, eIsi_s, eIsi2_s, gN_s, gNil_s, gCons_s, gTup_s, gUnl_s, gStar_s, setL_s, gSub_s, sNext_s, sSeq_s, sNever_s, sExpr_s, sRet_s, sIf_s, sAsg_s, sAsg2_s, sPar_s, sPar3_s, sAug_s, sWhile_s, iSeq_s, iTup_s, iRg1_s, iRg3_s, iEnm_s, iZp_s, sFor_s, tYes_s, eLc_s, eAppend_s, ePop_s, eJoin_s, eIndex_s, eDNew_s, eDGet_s, setD_s, eFld_s, eCallF_s, eCallB_s, eMethF_s, sTAsg_s, iAny_s, rInK_s, setK_s, eDKey1_s, eDictZip_s, iZpT_s, eLc2_s, eSorts_s, eCallK_s, sFldS_s, eMethM_s, eStepper_s, rAddZ_s, rSubZ_s, rMulZ_s, rModZ_s, rFdivZ_s, rLtZ_s, rLeZ_s, rGtZ_s, rGeZ_s, rMin2Z_s, rMax2Z_s, rAddY_s, rLenY_s, rIxY_s, setLY_s, eAppendY_s, ePopY_s, rSlY_s, eSlY_s, rSumY_s, rAnyY_s, rMinLY_s, rSortedY_s, iRg1Y_s, iRg3Y_s, iEnmY_s, iZpY_s, sForY_s, sWhileY_s, eLcY_s, eDGetY_s, setDY_s, rInSY_s, rInKY_s, setKY_s, eDKey1Y_s, eDictZipY_s,
  itemsOf_tup, itemsOf_lst, datL_nil, datL_cons, datL_map, Option.map_some, Option.map_none, Option.bind_some, Option.bind_none, List.set_cons_zero, List.set_cons_succ, List.set_nil, List.getElem?_cons_zero, List.getElem?_cons_succ, List.map_cons, List.map_nil, List.cons_append, List.nil_append, List.append_nil,
  List.replicate_succ, List.replicate_zero, List.length_cons, List.length_nil, List.length_append, List.length_map, atI0, atI1, atI2, if_true, if_false, reduceIte, Bool.false_eq_true, decide_true, decide_false, decide_eq_true_eq, true_and, and_true, finA_0, isNon_s1, sizeLine_eq, Nat.zero_add, Nat.reduceAdd, Nat.reduceSub, Nat.reduceLeDiff,
  intL_nil, blL_nil, strL_nil, List.take_succ_cons, List.take_zero, List.drop_succ_cons, List.drop_zero, Nat.reduceMul, Nat.reduceLT, Bool.not_true, Bool.not_false, ne_eq, not_true_eq_false, not_false_eq_true, Bool.true_and, Bool.and_true, Bool.false_and, Bool.and_false, Bool.true_or, Bool.or_true, Bool.false_or, Bool.or_false, Bool.true_eq_false, reduceCtorEq, and_self, true_or, or_true, false_or, or_false, Int.ofNat_eq_natCast,
  ofS_inj, String.reduceEq, strL_cons, intL_cons, blL_cons, List.mem_cons, List.not_mem_nil, eqD_int, eqD_bl, eqD_str, eqD_tup, eqDs_nil, eqDs_cons, eqDs_nc, eqDs_cn, okD_nil, beq_self_eq_true, Int.reduceEq, Int.reduceLT, Int.reduceLE, lookup_rows])

/-- a def of trees alone does F: n arguments, m slots -/
def SpecP (n m : Nat) (t : AS) (F : PFs) : Prop := ∀ ds (R : D → Prop), ds.length = n → F ds R → t (fun _ _ => R .non) (finA 0 fun d _ => R d) (ds.map (fun d => some (AV.dat d)) ++ List.replicate (m - n) none) []
theorem SpecP.to {n m : Nat} {t : AS} {F : PFs} (s : SpecP n m t F) (N : List Str) (hN : N.length = m) : ∀ as hs (R : D → AH → Prop), as.length = n → pF F as hs R → t (fun _ h => finA hs.length R (.dat .non) h) (finA hs.length R) (startA N as) hs := by
  intro as hs R hl h
  unfold pF at h
  split at h
  · rename_i ds hd
    have e := datL_eq hd
    subst e
    have hl' : ds.length = n := by simpa using hl
    have q := s ds (fun d => R d []) hl' h
    have e1 : startA N (ds.map .dat) = ds.map (fun d => some (AV.dat d)) ++ List.replicate (m - n) none := by
      unfold startA
      rw [List.length_map, hN, hl', List.map_map]; rfl
    have e2 : (fun (_ : En) (h : AH) => finA 0 R (.dat .non) h) = fun _ _ => R .non [] := by funext _ h; rw [finA_0]
    have e3 : finA 0 (fun d _ => R d []) = finA 0 R := by
      funext v h
      unfold finA
      simp
    rw [e3] at q
    show t (fun _ h => finA 0 R (.dat .non) h) (finA 0 R) _ _
    rw [e1, e2]
    exact q
  · cases h

def encW : Wi Str → D
  | .yes => .tup [.str "yes"]
  | .high x => .tup [.str "high", .str x]
  | .low x => .tup [.str "low", .str x]
  | .rise x => .tup [.str "rise", .str x]
  | .fall x => .tup [.str "fall", .str x]
  | .pulse x lev lo hi => .tup [.str "pulse", .str x, .int lev, .int lo, .int hi]
  | .edges x n lo hi => .tup [.str "edges", .str x, .int n, .int lo, .int hi]
  | .not a => .tup [.str "not", encW a]
  | .both a b => .tup [.str "both", encW a, encW b]
  | .either a b => .tup [.str "either", encW a, encW b]
  | .since a b => .tup [.str "since", encW a, encW b]
  | .ago n a => .tup [.str "ago", .int n, encW a]
  | .within n a => .tup [.str "within", .int n, encW a]
  | .held n a => .tup [.str "held", .int n, encW a]
  | .nth n a => .tup [.str "nth", .int n, encW a]
def bD (i : Int) : D := .bl (decide (i = 1))
/-- what a part keeps, as the program holds it -/
def encO : Wi Str → List Int → D
  | .pulse _ _ _ _, own => match own with
    | [e, l, f] => .tup [.int e, .int l, bD f]
    | _ => .tup []
  | .nth _ _, own => match own with
    | [b, k] => .tup [bD b, .int k]
    | _ => .tup []
  | .ago _ _, own => .tup (own.map bD)
  | .within _ _, own => .tup (own.map bD)
  | .since _ _, own => .tup (own.map bD)
  | _, own => .tup (own.map .int)

/-- last_of -/
def F_last_of : PFs := fun ds R => ∃ xs n, ds = [.tup xs, .int (n : Nat)] ∧ R (.tup (lastOf xs n))
def U_last_of (F : PFs) : Prop := ∀ xs (n : Nat) R, R (.tup (lastOf xs n)) → F [.tup xs, .int n] R
theorem u_last_of : U_last_of F_last_of := fun xs n R q => ⟨xs, n, rfl, q⟩
variable {Z : Ar} (hZ : ArOk Z)
include hZ
theorem cut_last {xs : List D} {n : Nat} : cutD xs (some (Z .mx 0 (Z .minus (xs.length : Int) n))) none = lastOf xs n := by
  rw [hZ.mx, hZ.minus]
  unfold cutD lastOf HT.sIx
  simp only
  rw [if_neg (by omega), show (max 0 ((xs.length : Int) - n)).toNat = xs.length - n by omega, Nat.min_eq_left (by omega)]
  exact List.take_of_length_le (by simp)
theorem sp_last_of : SpecP 2 2 (d_last_of Z) F_last_of := by
  rintro _ R _ ⟨xs, n, rfl, q⟩
  unfold d_last_of
  walk_at "al"
  rw [cut_last hZ]
  exact q
omit hZ

/-! ### step_line -/
def Wi.line : Wi Str → Bool
  | .high _ => true
  | .low _ => true
  | .rise _ => true
  | .fall _ => true
  | .pulse _ _ _ _ => true
  | .edges _ _ _ _ => true
  | _ => false
def all1 : Str → Prop := fun _ => True
def F_step_line : PFs := fun ds R => ∃ (w : Wi Str) (own : List Int) (lv : Int), w.line = true ∧ (lv = 0 ∨ lv = 1) ∧ w.good all1 ∧ own ∈ w.owns ∧ ds = [encW w, encO w own, .int lv] ∧
  R (.tup [.bl (stepO w own [] (fun _ => lv)).1, encO w (stepO w own [] (fun _ => lv)).2])
def U_step_line (F : PFs) : Prop := ∀ (w : Wi Str) (own : List Int) (lv : Int) R, w.line = true → (lv = 0 ∨ lv = 1) → w.good all1 → own ∈ w.owns → R (.tup [.bl (stepO w own [] (fun _ => lv)).1, encO w (stepO w own [] (fun _ => lv)).2]) → F [encW w, encO w own, .int lv] R
theorem u_step_line : U_step_line F_step_line := fun w own lv R h1 h2 h3 h4 q => ⟨w, own, lv, h1, h2, h3, h4, rfl, q⟩
theorem ownsB_cases {own : List Int} (h : own ∈ ownsB) : own = [] ∨ own = [0] ∨ own = [1] ∨ own = [0, 0] ∨ own = [0, 1] ∨ own = [1, 0] ∨ own = [1, 1] := by
  unfold ownsB at h
  simpa only [List.mem_cons, List.not_mem_nil, or_false] using h
theorem ownsP_shape {own : List Int} (h : own ∈ ownsP) : own = [] ∨ ∃ a b c, own = [a, b, c] := by
  unfold ownsP at h
  simp only [List.mem_cons, List.not_mem_nil, or_false] at h
  rcases h with rfl | rfl | rfl | rfl | rfl | rfl | rfl | rfl | rfl | rfl | rfl | rfl | rfl <;> simp
theorem ownsN_cases {own : List Int} (h : own ∈ ownsN) : own = [] ∨ own = [0, 0] ∨ own = [0, 1] ∨ own = [0, 2] ∨ own = [0, 3] ∨ own = [1, 0] ∨ own = [1, 1] ∨ own = [1, 2] ∨ own = [1, 3] := by
  unfold ownsN at h
  simpa only [List.mem_cons, List.not_mem_nil, or_false] using h
theorem n12 {n : Nat} (h1 : 1 ≤ n) (h2 : n ≤ 2) : n = 1 ∨ n = 2 := by omega
theorem n012 {n : Nat} (h2 : n ≤ 2) : n = 0 ∨ n = 1 ∨ n = 2 := by omega
theorem min_if (a b : Int) : min a b = if b < a then b else a := by
  split <;> omega
theorem sp_pulse {F : PFs} (hZ : ArOk Z) {R : D → Prop} {x : Str} {lev lv : Int} {lo hi : Nat} {own : List Int} (ho : own ∈ ownsP)
    (q : R (.tup [.bl (stepO (Wi.pulse x lev lo hi) own [] (fun _ => lv)).1, encO (.pulse x lev lo hi) (stepO (Wi.pulse x lev lo hi) own [] (fun _ => lv)).2])) :
    d_step_line Z F (fun _ _ => R .non) (finA 0 fun d _ => R d) ([encW (.pulse x lev lo hi), encO (.pulse x lev lo hi) own, .int lv].map (fun d => some (AV.dat d)) ++ List.replicate (14 - 3) none) [] := by
  unfold encW
  obtain ⟨lo', hlo⟩ : ∃ k : Int, (lo : Int) = k := ⟨_, rfl⟩
  obtain ⟨hi', hhi⟩ : ∃ k : Int, (hi : Int) = k := ⟨_, rfl⟩
  rw [hlo, hhi]
  rcases ownsP_shape ho with rfl | ⟨e, l, f, rfl⟩
  · cbv
    exact ⟨_, rfl, rfl, q⟩
  · by_cases h : e = lv
    · subst h
      cbv
      refine ⟨_, rfl, rfl, ?_⟩
      rw [hZ.mn, hZ.plus, hZ.plus]
      simpa [stepO, encO, bD, hhi] using q
    · cbv
      rw [if_neg (by rw [decide_eq_false h]; decide)]
      cbv
      by_cases h1 : e = lev
      · subst h1
        by_cases h2 : f = 1
        · rw [decide_eq_true h2]
          cbv
          rw [hZ.le]
          by_cases h3 : lo' ≤ l
          · rw [decide_eq_true h3]
            cbv
            refine ⟨_, rfl, rfl, ?_⟩
            simpa [stepO, encO, bD, h, h2, h3, hlo, hhi, hZ.le] using q
          · rw [decide_eq_false h3]
            cbv
            refine ⟨_, rfl, rfl, ?_⟩
            simpa [stepO, encO, bD, h, h2, h3, hlo, hhi, hZ.le] using q
        · rw [decide_eq_false h2]
          cbv
          refine ⟨_, rfl, rfl, ?_⟩
          simpa [stepO, encO, bD, h, h2] using q
      · rw [decide_eq_false h1]
        cbv
        refine ⟨_, rfl, rfl, ?_⟩
        simpa [stepO, encO, bD, h, h1] using q
theorem sp_edges {F : PFs} (hZ : ArOk Z) (U : U_last_of F) {R : D → Prop} {x : Str} {lv : Int} {n lo hi : Nat} {own : List Int} (hl : lv = 0 ∨ lv = 1) (hn1 : 1 ≤ n) (hn2 : n ≤ 2) (ho : own ∈ ownsB)
    (q : R (.tup [.bl (stepO (Wi.edges x n lo hi) own [] (fun _ => lv)).1, encO (.edges x n lo hi) (stepO (Wi.edges x n lo hi) own [] (fun _ => lv)).2])) :
    d_step_line Z F (fun _ _ => R .non) (finA 0 fun d _ => R d) ([encW (.edges x n lo hi), encO (.edges x n lo hi) own, .int lv].map (fun d => some (AV.dat d)) ++ List.replicate (14 - 3) none) [] := by
  unfold encW
  obtain ⟨lo', hlo⟩ : ∃ k : Int, (lo : Int) = k := ⟨_, rfl⟩
  obtain ⟨hi', hhi⟩ : ∃ k : Int, (hi : Int) = k := ⟨_, rfl⟩
  rw [hlo, hhi]
  have m1 : Z .minus (Int.ofNat 1) 1 = Int.ofNat 0 := by rw [hZ.minus]; rfl
  have m2 : Z .minus (Int.ofNat 2) 1 = Int.ofNat 1 := by rw [hZ.minus]; rfl
  rcases hl with rfl | rfl <;> rcases n12 hn1 hn2 with rfl | rfl <;> rcases ownsB_cases ho with rfl | rfl | rfl | rfl | rfl | rfl | rfl
  all_goals
    cbv
    refine U _ _ _ ?_
    cbv
    generalize hb : Z Op.le lo' _ = b
    cases b
    · cbv
      first | rw [m1] | rw [m2]
      refine U _ _ _ ?_
      cbv
      refine ⟨_, rfl, rfl, ?_⟩
      rw [hZ.le] at hb
      simp [-decide_eq_false_iff_not, -decide_eq_true_eq] at hb
      simpa [stepO, encO, lastOf, b2, hlo, hhi, hb] using q
    · cbv
      first | rw [m1] | rw [m2]
      refine U _ _ _ ?_
      cbv
      refine ⟨_, rfl, rfl, ?_⟩
      rw [hZ.le] at hb
      simp [-decide_eq_false_iff_not, -decide_eq_true_eq] at hb
      simpa [stepO, encO, lastOf, b2, hlo, hhi, hb, hZ.le] using q
theorem sp_step_line {F : PFs} (hZ : ArOk Z) (U : U_last_of F) : SpecP 3 14 (d_step_line Z F) F_step_line := by
  rintro _ R _ ⟨w, own, lv, hw, hl, hg, ho, rfl, q⟩
  cases w with
  | high x =>
    obtain rfl := List.mem_singleton.mp ho
    cbv
    exact ⟨_, rfl, rfl, q⟩
  | low x =>
    obtain rfl := List.mem_singleton.mp ho
    cbv
    exact ⟨_, rfl, rfl, q⟩
  | rise x => rcases ownsB_cases ho with rfl | rfl | rfl | rfl | rfl | rfl | rfl <;> cbv <;> exact ⟨_, rfl, rfl, q⟩
  | fall x => rcases ownsB_cases ho with rfl | rfl | rfl | rfl | rfl | rfl | rfl <;> cbv <;> exact ⟨_, rfl, rfl, q⟩
  | pulse x lev lo hi => exact sp_pulse hZ ho q
  | edges x n lo hi => exact sp_edges hZ U hl hg.2.1 hg.2.2.1 ho q
  | _ => cases hw
end AL
end
section
set_option Elab.async false
set_option linter.all false
set_option maxRecDepth 100000
set_option maxHeartbeats 4000000
/-! S2: step_timed, step_part. -/
namespace AL
open PySem PySem.Spec PyProof.Rows L2
local macro_rules | `(tactic| walk_at "al") => `(tactic| simp only [eV_s, eC_s, aNil_s, aCons_s, eTup_s, eLst_s, eLstM_s, eOp_s, eUn_s, rII_s, rIIc_s, rSub_s, rMul_s, rMod_s, rFdiv_s, rPow_s, rLt_s, rLe_s, rGt_s, rGe_s, rNeg_s, rIsN_s, tst_s, tAnd_s, tOr_s, tNot_s, eAnd_s, eOr_s, eNot_s, eIf_s, eChain_s, rAdd_s, rEqN_s, rInS_s, rIx_s, oNone_s, oSome_s, rSl_s, eSl_s, eCall_s, rLen_s, rInt_s, rMax2_s, rMin2_s, rSum_s, rAny_s, rMinL_s, rTuple_s, rListM_s, rSorted_s, eIsi_s, eIsi2_s, gN_s, gNil_s, gCons_s, gTup_s, gUnl_s, gStar_s, setL_s, gSub_s, sNext_s, sSeq_s, sNever_s, sExpr_s, sRet_s, sIf_s, sAsg_s, sAsg2_s, sPar_s, sPar3_s, sAug_s, sWhile_s, iSeq_s, iTup_s, iRg1_s, iRg3_s, iEnm_s, iZp_s, sFor_s, tYes_s, eLc_s, eAppend_s, ePop_s, eJoin_s, eIndex_s, eDNew_s, eDGet_s, setD_s, eFld_s, eCallF_s, eCallB_s, eMethF_s, sTAsg_s, iAny_s, rInK_s, setK_s, eDKey1_s, eDictZip_s, iZpT_s, eLc2_s, eSorts_s, eCallK_s, sFldS_s, eMethM_s, eStepper_s, rAddZ_s, rSubZ_s, rMulZ_s, rModZ_s, rFdivZ_s, rLtZ_s, rLeZ_s, rGtZ_s, rGeZ_s, rMin2Z_s, rMax2Z_s, rAddY_s, rLenY_s, rIxY_s, setLY_s, eAppendY_s, ePopY_s, rSlY_s, eSlY_s, rSumY_s, rAnyY_s, rMinLY_s, rSortedY_s, iRg1Y_s, iRg3Y_s, iEnmY_s, iZpY_s, sForY_s, sWhileY_s, eLcY_s, eDGetY_s, setDY_s, rInSY_s, rInKY_s, setKY_s, eDKey1Y_s, eDictZipY_s,
  itemsOf_tup, itemsOf_lst, datL_nil, datL_cons, datL_map, Option.map_some, Option.map_none, Option.bind_some, Option.bind_none, List.set_cons_zero, List.set_cons_succ, List.set_nil, List.getElem?_cons_zero, List.getElem?_cons_succ, List.map_cons, List.map_nil, List.cons_append, List.nil_append, List.append_nil,
  List.replicate_succ, List.replicate_zero, List.length_cons, List.length_nil, List.length_append, List.length_map, atI0, atI1, atI2, if_true, if_false, reduceIte, Bool.false_eq_true, decide_true, decide_false, decide_eq_true_eq, true_and, and_true, finA_0, isNon_s1, sizeLine_eq, Nat.zero_add, Nat.reduceAdd, Nat.reduceSub, Nat.reduceLeDiff,
  intL_nil, blL_nil, strL_nil, List.take_succ_cons, List.take_zero, List.drop_succ_cons, List.drop_zero, Nat.reduceMul, Nat.reduceLT, Bool.not_true, Bool.not_false, ne_eq, not_true_eq_false, not_false_eq_true, Bool.true_and, Bool.and_true, Bool.false_and, Bool.and_false, Bool.true_or, Bool.or_true, Bool.false_or, Bool.or_false, Bool.true_eq_false, reduceCtorEq, and_self, true_or, or_true, false_or, or_false, Int.ofNat_eq_natCast,
  ofS_inj, String.reduceEq, strL_cons, intL_cons, blL_cons, List.mem_cons, List.not_mem_nil, eqD_int, eqD_bl, eqD_str, eqD_tup, eqDs_nil, eqDs_cons, eqDs_nc, eqDs_cn, okD_nil, beq_self_eq_true, Int.reduceEq, Int.reduceLT, Int.reduceLE, lookup_rows])
variable {Z : Ar}
def Wi.timed : Wi Str → Option (Str × Nat)
  | .ago n _ => some ("ago", n)
  | .within n _ => some ("within", n)
  | .held n _ => some ("held", n)
  | .nth n _ => some ("nth", n)
  | _ => none
def F_step_timed : PFs := fun ds R => ∃ (w : Wi Str) (x : Str) (n : Nat) (own : List Int) (now : Bool), w.timed = some (x, n) ∧ w.good all1 ∧ own ∈ w.owns ∧ ds = [.str x, .int n, encO w own, .bl now] ∧
  R (.tup [.bl (stepO w own [now] (fun _ => 0)).1, encO w (stepO w own [now] (fun _ => 0)).2])
def U_step_timed (F : PFs) : Prop := ∀ (w : Wi Str) (x : Str) (n : Nat) (own : List Int) (now : Bool) R, w.timed = some (x, n) → w.good all1 → own ∈ w.owns → R (.tup [.bl (stepO w own [now] (fun _ => 0)).1, encO w (stepO w own [now] (fun _ => 0)).2]) → F [.str x, .int n, encO w own, .bl now] R
theorem u_step_timed : U_step_timed F_step_timed := fun w x n own now R h1 h2 h3 q => ⟨w, x, n, own, now, h1, h2, h3, rfl, q⟩
theorem lastOf_map {β γ : Type} (f : β → γ) (l : List β) (n : Nat) : lastOf (l.map f) n = (lastOf l n).map f := by
  unfold lastOf
  rw [List.length_map, List.map_drop]
theorem bD_b2 (b : Bool) : bD (b2 b) = .bl b := by cases b <;> rfl
theorem row_b (own : List Int) (now : Bool) (n : Nat) : lastOf (own.map bD ++ [.bl now]) n = (lastOf (own ++ [b2 now]) n).map bD := by
  rw [← lastOf_map, List.map_append, List.map_cons, List.map_nil, bD_b2]
theorem blL_bD : ∀ r : List Int, blL (r.map bD) = some (r.map fun i => decide (i = 1))
  | [] => rfl
  | i :: r => by
    rw [List.map_cons, bD, blL_cons, blL_bD r]; rfl
theorem blL_map' : ∀ r : List Bool, blL (r.map D.bl) = some r
  | [] => rfl
  | i :: r => by rw [List.map_cons, blL_cons, blL_map' r]; rfl
theorem owns_len {w : Wi Str} {own : List Int} (h : own ∈ w.owns) : own.length ≤ 3 := by
  cases w <;> simp only [Wi.owns, ownsB, ownsP, ownsN, List.mem_cons, List.not_mem_nil, or_false] at h
  all_goals first
    | (subst h; decide)
    | (rcases h with rfl | rfl | rfl | rfl <;> decide)
    | (rcases h with rfl | rfl | rfl | rfl | rfl | rfl | rfl <;> decide)
    | (rcases h with rfl | rfl | rfl | rfl | rfl | rfl | rfl | rfl | rfl <;> decide)
    | (rcases h with rfl | rfl | rfl | rfl | rfl | rfl | rfl | rfl | rfl | rfl | rfl | rfl | rfl <;> decide)
theorem ownsB_shape {own : List Int} (h : own ∈ ownsB) : own = [] ∨ (∃ a, own = [a]) ∨ ∃ a b, own = [a, b] := by
  unfold ownsB at h
  simp only [List.mem_cons, List.not_mem_nil, or_false] at h
  rcases h with rfl | rfl | rfl | rfl | rfl | rfl | rfl <;> simp
theorem ownsN_shape {own : List Int} (h : own ∈ ownsN) : own = [] ∨ ∃ a b, own = [a, b] := by
  unfold ownsN at h
  simp only [List.mem_cons, List.not_mem_nil, or_false] at h
  rcases h with rfl | rfl | rfl | rfl | rfl | rfl | rfl | rfl | rfl <;> simp
theorem b2_one (b : Bool) : decide (b2 b = 1) = b := by cases b <;> rfl
theorem plus0 (hZ : ArOk Z) : Z .plus (Int.ofNat 0) 1 = Int.ofNat 1 := by rw [hZ.plus]; rfl
theorem plus1 (hZ : ArOk Z) : Z .plus (Int.ofNat 1) 1 = Int.ofNat 2 := by rw [hZ.plus]; rfl
theorem plus2 (hZ : ArOk Z) : Z .plus (Int.ofNat 2) 1 = Int.ofNat 3 := by rw [hZ.plus]; rfl
theorem ltT (hZ : ArOk Z) {i j : Nat} (h : i < j) : Z .lt (Int.ofNat i) (Int.ofNat j) = true := by rw [hZ.lt]; simpa using h
theorem ltF (hZ : ArOk Z) {i j : Nat} (h : ¬ i < j) : Z .lt (Int.ofNat i) (Int.ofNat j) = false := by rw [hZ.lt]; simpa using h
theorem sp_ago {F : PFs} (hZ : ArOk Z) (U : U_last_of F) {R : D → Prop} {n : Nat} {own : List Int} {now : Bool} {a : Wi Str} (hn : n ≤ 2) (ho : own ∈ ownsB)
    (q : R (.tup [.bl (stepO (Wi.ago n a) own [now] (fun _ => 0)).1, encO (Wi.ago n a) (stepO (Wi.ago n a) own [now] (fun _ => 0)).2])) :
    d_step_timed Z F (fun _ _ => R .non) (finA 0 fun d _ => R d) ([.str "ago", .int n, encO (Wi.ago n a) own, .bl now].map (fun d => some (AV.dat d)) ++ List.replicate (7 - 4) none) [] := by
  rcases n012 hn with rfl | rfl | rfl <;> rcases ownsB_shape ho with rfl | ⟨a, rfl⟩ | ⟨a, b, rfl⟩
  all_goals
    cbv
    first | rw [plus0 hZ] | rw [plus1 hZ] | rw [plus2 hZ]
    refine U _ _ _ ?_
    cbv
    first | rw [ltT hZ (by decide)] | rw [ltF hZ (by decide)]
    cbv
    refine U _ _ _ ?_
    cbv
    refine ⟨_, rfl, rfl, ?_⟩
    simpa [stepO, encO, lastOf, bD, b2_one] using q
theorem sp_within {F : PFs} (hZ : ArOk Z) (U : U_last_of F) {R : D → Prop} {n : Nat} {own : List Int} {now : Bool} {a : Wi Str} (hn : n ≤ 2) (ho : own ∈ ownsB)
    (q : R (.tup [.bl (stepO (Wi.within n a) own [now] (fun _ => 0)).1, encO (Wi.within n a) (stepO (Wi.within n a) own [now] (fun _ => 0)).2])) :
    d_step_timed Z F (fun _ _ => R .non) (finA 0 fun d _ => R d) ([.str "within", .int n, encO (Wi.within n a) own, .bl now].map (fun d => some (AV.dat d)) ++ List.replicate (7 - 4) none) [] := by
  rcases n012 hn with rfl | rfl | rfl <;> rcases ownsB_shape ho with rfl | ⟨a, rfl⟩ | ⟨a, b, rfl⟩
  all_goals
    cbv
    first | rw [plus0 hZ] | rw [plus1 hZ] | rw [plus2 hZ]
    refine U _ _ _ ?_
    cbv
    refine U _ _ _ ?_
    cbv
    refine ⟨_, rfl, rfl, ?_⟩
    simp [stepO, encO, lastOf, bD, b2_one] at q
    revert q
    first
      | (cases now <;> exact id)
      | (generalize decide (_ = (1 : Int)) = u; cases u <;> cases now <;> exact id)
      | (generalize decide (_ = (1 : Int)) = u; generalize decide (_ = (1 : Int)) = v; cases u <;> cases v <;> cases now <;> exact id)
theorem sp_held {F : PFs} (hZ : ArOk Z) {R : D → Prop} {n : Nat} {own : List Int} {now : Bool} {a : Wi Str} (ho : own ∈ (Wi.held n a).owns)
    (q : R (.tup [.bl (stepO (Wi.held n a) own [now] (fun _ => 0)).1, encO (Wi.held n a) (stepO (Wi.held n a) own [now] (fun _ => 0)).2])) :
    d_step_timed Z F (fun _ _ => R .non) (finA 0 fun d _ => R d) ([.str "held", .int n, encO (Wi.held n a) own, .bl now].map (fun d => some (AV.dat d)) ++ List.replicate (7 - 4) none) [] := by
  obtain ⟨n', hn'⟩ : ∃ k : Int, (n : Int) = k := ⟨_, rfl⟩
  rw [hn']
  have q2 : ∀ k : Int, k = min (n : Int) (own.sum + 1) * b2 now → R (.tup [.bl (decide (k = n')), .tup [.int k]]) := fun k hk => by
    rw [hk, ← hn']; exact q
  simp only [Wi.owns, List.mem_cons, List.not_mem_nil, or_false] at ho
  rcases ho with rfl | rfl | rfl | rfl <;> cases now
  all_goals
    cbv
    refine ⟨by rw [hZ.cm]; exact .inr (by decide), _, rfl, rfl, ?_⟩
    exact q2 _ (by rw [hZ.times, hZ.mn, hZ.plus]; simp [b2, hn'])
theorem sp_nth {F : PFs} (hZ : ArOk Z) {R : D → Prop} {n : Nat} {own : List Int} {now : Bool} {a : Wi Str} (ho : own ∈ ownsN)
    (q : R (.tup [.bl (stepO (Wi.nth n a) own [now] (fun _ => 0)).1, encO (Wi.nth n a) (stepO (Wi.nth n a) own [now] (fun _ => 0)).2])) :
    d_step_timed Z F (fun _ _ => R .non) (finA 0 fun d _ => R d) ([.str "nth", .int n, encO (Wi.nth n a) own, .bl now].map (fun d => some (AV.dat d)) ++ List.replicate (7 - 4) none) [] := by
  obtain ⟨n', hn'⟩ : ∃ k : Int, (n : Int) = k := ⟨_, rfl⟩
  rw [hn']
  rcases ownsN_shape ho with rfl | ⟨e, k, rfl⟩
  · cases now
    · cbv
      refine ⟨_, rfl, rfl, ?_⟩
      rw [hZ.mn, hZ.plus, hZ.plus]
      simpa [stepO, encO, bD, b2, hn'] using q
    · cbv
      refine ⟨_, rfl, rfl, ?_⟩
      rw [hZ.mn, hZ.plus, hZ.plus]
      simpa [stepO, encO, bD, b2, hn'] using q
  · by_cases he : e = 1
    · subst he
      cases now
      · cbv
        refine ⟨_, rfl, rfl, ?_⟩
        rw [hZ.mn, hZ.plus, hZ.plus]
        simpa [stepO, encO, bD, b2, hn'] using q
      · cbv
        refine ⟨_, rfl, rfl, ?_⟩
        rw [hZ.mn, hZ.plus, hZ.plus]
        simpa [stepO, encO, bD, b2, hn'] using q
    · have e2 : bD e = .bl false := by unfold bD; rw [decide_eq_false he]
      unfold encO
      simp only [e2]
      cases now
      · cbv
        refine ⟨_, rfl, rfl, ?_⟩
        rw [hZ.mn, hZ.plus, hZ.plus]
        simpa [stepO, encO, bD, b2, hn', he] using q
      · cbv
        refine ⟨_, rfl, rfl, ?_⟩
        rw [hZ.mn, hZ.plus, hZ.plus]
        simpa [stepO, encO, bD, b2, hn', he] using q
theorem sp_step_timed {F : PFs} (hZ : ArOk Z) (U : U_last_of F) : SpecP 4 7 (d_step_timed Z F) F_step_timed := by
  rintro _ R _ ⟨w, x, n, own, now, hw, hg, ho, rfl, q⟩
  cases w with
  | ago m a => cases hw; exact sp_ago hZ U hg.1 ho q
  | within m a => cases hw; exact sp_within hZ U hg.1 ho q
  | held m a => cases hw; exact sp_held hZ ho q
  | nth m a => cases hw; exact sp_nth hZ ho q
  | _ => cases hw
end AL
end
section
set_option Elab.async false
set_option linter.all false
set_option maxRecDepth 100000
set_option maxHeartbeats 4000000
/-! S3: step_part. -/
namespace AL
open PySem PySem.Spec PyProof.Rows L2
local macro_rules | `(tactic| walk_at "al") => `(tactic| simp only [eV_s, eC_s, aNil_s, aCons_s, eTup_s, eLst_s, eLstM_s, eOp_s, eUn_s, rII_s, rIIc_s, rSub_s, rMul_s, rMod_s, rFdiv_s, rPow_s, rLt_s, rLe_s, rGt_s, rGe_s, rNeg_s, rIsN_s, tst_s, tAnd_s, tOr_s, tNot_s, eAnd_s, eOr_s, eNot_s, eIf_s, eChain_s, rAdd_s, rEqN_s, rInS_s, rIx_s, oNone_s, oSome_s, rSl_s, eSl_s, eCall_s, rLen_s, rInt_s, rMax2_s, rMin2_s, rSum_s, rAny_s, rMinL_s, rTuple_s, rListM_s, rSorted_s, eIsi_s, eIsi2_s, gN_s, gNil_s, gCons_s, gTup_s, gUnl_s, gStar_s, setL_s, gSub_s, sNext_s, sSeq_s, sNever_s, sExpr_s, sRet_s, sIf_s, sAsg_s, sAsg2_s, sPar_s, sPar3_s, sAug_s, sWhile_s, iSeq_s, iTup_s, iRg1_s, iRg3_s, iEnm_s, iZp_s, sFor_s, tYes_s, eLc_s, eAppend_s, ePop_s, eJoin_s, eIndex_s, eDNew_s, eDGet_s, setD_s, eFld_s, eCallF_s, eCallB_s, eMethF_s, sTAsg_s, iAny_s, rInK_s, setK_s, eDKey1_s, eDictZip_s, iZpT_s, eLc2_s, eSorts_s, eCallK_s, sFldS_s, eMethM_s, eStepper_s, rAddZ_s, rSubZ_s, rMulZ_s, rModZ_s, rFdivZ_s, rLtZ_s, rLeZ_s, rGtZ_s, rGeZ_s, rMin2Z_s, rMax2Z_s, rAddY_s, rLenY_s, rIxY_s, setLY_s, eAppendY_s, ePopY_s, rSlY_s, eSlY_s, rSumY_s, rAnyY_s, rMinLY_s, rSortedY_s, iRg1Y_s, iRg3Y_s, iEnmY_s, iZpY_s, sForY_s, sWhileY_s, eLcY_s, eDGetY_s, setDY_s, rInSY_s, rInKY_s, setKY_s, eDKey1Y_s, eDictZipY_s,
  itemsOf_tup, itemsOf_lst, datL_nil, datL_cons, datL_map, Option.map_some, Option.map_none, Option.bind_some, Option.bind_none, List.set_cons_zero, List.set_cons_succ, List.set_nil, List.getElem?_cons_zero, List.getElem?_cons_succ, List.map_cons, List.map_nil, List.cons_append, List.nil_append, List.append_nil,
  List.replicate_succ, List.replicate_zero, List.length_cons, List.length_nil, List.length_append, List.length_map, atI0, atI1, atI2, if_true, if_false, reduceIte, Bool.false_eq_true, decide_true, decide_false, decide_eq_true_eq, true_and, and_true, finA_0, isNon_s1, sizeLine_eq, Nat.zero_add, Nat.reduceAdd, Nat.reduceSub, Nat.reduceLeDiff,
  intL_nil, blL_nil, strL_nil, List.take_succ_cons, List.take_zero, List.drop_succ_cons, List.drop_zero, Nat.reduceMul, Nat.reduceLT, Bool.not_true, Bool.not_false, ne_eq, not_true_eq_false, not_false_eq_true, Bool.true_and, Bool.and_true, Bool.false_and, Bool.and_false, Bool.true_or, Bool.or_true, Bool.false_or, Bool.or_false, Bool.true_eq_false, reduceCtorEq, and_self, true_or, or_true, false_or, or_false, Int.ofNat_eq_natCast,
  ofS_inj, String.reduceEq, strL_cons, intL_cons, blL_cons, List.mem_cons, List.not_mem_nil, eqD_int, eqD_bl, eqD_str, eqD_tup, eqDs_nil, eqDs_cons, eqDs_nc, eqDs_cn, okD_nil, beq_self_eq_true, Int.reduceEq, Int.reduceLT, Int.reduceLE, lookup_rows])
variable {Z : Ar}
def Wi.nm : Wi Str → Option Str
  | .high x => some x
  | .low x => some x
  | .rise x => some x
  | .fall x => some x
  | .pulse x _ _ _ => some x
  | .edges x _ _ _ => some x
  | _ => none
/-- the levels' dict tells l of a name -/
def LvAt (kvs : List (Key × Int)) (l : Str → Int) (x : Str) : Prop := (kvs.find? fun kv => decide (kv.1 = Sum.inr x)).map (·.2) = some (l x)
def F_step_part : PFs := fun ds R => ∃ (w : Wi Str) (own : List Int) (inner : List Bool) (kvs : List (Key × Int)) (l : Str → Int), (∀ x, w.nm = some x → LvAt kvs l x ∧ (l x = 0 ∨ l x = 1)) ∧ w.good all1 ∧ own ∈ w.owns ∧ inner.length = w.parts.length ∧
  ds = [encW w, encO w own, .lst (inner.map .bl), .dk kvs] ∧ R (.tup [.bl (stepO w own inner l).1, encO w (stepO w own inner l).2])
def U_step_part (F : PFs) : Prop := ∀ (w : Wi Str) (own : List Int) (inner : List Bool) (kvs : List (Key × Int)) (l : Str → Int) R, (∀ x, w.nm = some x → LvAt kvs l x ∧ (l x = 0 ∨ l x = 1)) → w.good all1 → own ∈ w.owns → inner.length = w.parts.length →
  R (.tup [.bl (stepO w own inner l).1, encO w (stepO w own inner l).2]) → F [encW w, encO w own, .lst (inner.map .bl), .dk kvs] R
theorem u_step_part : U_step_part F_step_part := fun w own inner kvs l R h1 h2 h3 h4 q => ⟨w, own, inner, kvs, l, h1, h2, h3, h4, rfl, q⟩
theorem eDGet_dk {td tk : AT} {ρ : En} {h : AH} {R : AV → AH → Prop} {kvs : List (Key × Int)} {x : Str} {lv : Int} (h1 : ∀ K, K (.dat (.dk kvs)) h → td ρ h K) (h2 : ∀ K, K (.dat (.str x)) h → tk ρ h K)
    (hk : (kvs.find? fun kv => decide (kv.1 = Sum.inr x)).map (·.2) = some lv) (q : R (.dat (.int lv)) h) : eDGet td tk ρ h R := by
  unfold eDGet
  refine h1 _ (h2 _ ?_)
  simp only [keyOf, hk]
  exact q
theorem sp_part_line {F G : PFs} (U : U_step_line F) {R : D → Prop} {w : Wi Str} {own : List Int} {kvs : List (Key × Int)} {l : Str → Int} {x : Str} (hw : w.line = true) (hx : w.nm = some x) (hl : LvAt kvs l x) (hlv : l x = 0 ∨ l x = 1) (hg : w.good all1) (ho : own ∈ w.owns)
    (q : R (.tup [.bl (stepO w own [] l).1, encO w (stepO w own [] l).2])) :
    d_step_part Z F G (fun _ _ => R .non) (finA 0 fun d _ => R d) ([encW w, encO w own, .lst [], .dk kvs].map (fun d => some (AV.dat d)) ++ List.replicate (7 - 4) none) [] := by
  have hs : stepO w own [] (fun _ => l x) = stepO w own [] l := by
    cases w <;> cases hw <;> cases hx <;> rfl
  obtain ⟨eo, hoe⟩ : ∃ e, encO w own = e := ⟨_, rfl⟩
  have U2 : ∀ R', R' (.tup [.bl (stepO w own [] l).1, encO w (stepO w own [] l).2]) → F [encW w, eo, .int (l x)] R' := fun R' h => by
    rw [← hoe]
    refine U w own (l x) R' hw hlv hg ho ?_
    rw [hs]; exact h
  rw [hoe]
  unfold d_step_part
  generalize hd : eDGet (eV 3) (eOp rIx (eV 5) (eC (.int 0))) = dg
  cases w <;> cases hw <;> cases hx
  all_goals
    cbv
    rw [← hd]
    refine eDGet_dk (fun K k => k) (fun K k => k) hl ?_
    generalize l x = lv at U2
    cbv
    refine U2 _ ?_
    exact ⟨_, rfl, rfl, q⟩

theorem sp_part_timed {F G : PFs} (U : U_step_timed G) {R : D → Prop} {w : Wi Str} {own : List Int} {kvs : List (Key × Int)} {l : Str → Int} {x : Str} {n : Nat} {now : Bool} (hw : w.timed = some (x, n)) (hg : w.good all1) (ho : own ∈ w.owns)
    (q : R (.tup [.bl (stepO w own [now] l).1, encO w (stepO w own [now] l).2])) :
    d_step_part Z F G (fun _ _ => R .non) (finA 0 fun d _ => R d) ([encW w, encO w own, .lst [.bl now], .dk kvs].map (fun d => some (AV.dat d)) ++ List.replicate (7 - 4) none) [] := by
  have hs : stepO w own [now] (fun _ => 0) = stepO w own [now] l := by
    cases w <;> cases hw <;> rfl
  obtain ⟨eo, hoe⟩ : ∃ e, encO w own = e := ⟨_, rfl⟩
  obtain ⟨n', hn'⟩ : ∃ k : Int, (n : Int) = k := ⟨_, rfl⟩
  have U2 : ∀ R', R' (.tup [.bl (stepO w own [now] l).1, encO w (stepO w own [now] l).2]) → G [.str x, .int n', eo, .bl now] R' := fun R' h => by
    rw [← hoe, ← hn']
    refine U w x n own now R' hw hg ho ?_
    rw [hs]; exact h
  rw [hoe]
  cases w <;> cases hw
  all_goals
    unfold encW
    rw [hn']
    cbv
    refine U2 _ ?_
    exact ⟨_, rfl, rfl, q⟩
theorem sp_part_plain {F G : PFs} {R : D → Prop} {w : Wi Str} {own : List Int} {inner : List Bool} {kvs : List (Key × Int)} {l : Str → Int} (hw : w.line = false) (ht : w.timed = none) (ho : own ∈ w.owns) (hi : inner.length = w.parts.length)
    (q : R (.tup [.bl (stepO w own inner l).1, encO w (stepO w own inner l).2])) :
    d_step_part Z F G (fun _ _ => R .non) (finA 0 fun d _ => R d) ([encW w, encO w own, .lst (inner.map .bl), .dk kvs].map (fun d => some (AV.dat d)) ++ List.replicate (7 - 4) none) [] := by
  cases w with
  | yes =>
    obtain rfl := List.mem_singleton.mp ho
    cbv
    exact ⟨_, rfl, rfl, q⟩
  | not a =>
    obtain rfl := List.mem_singleton.mp ho
    match inner, hi with
    | [b], _ =>
      cbv
      refine ⟨_, rfl, rfl, ?_⟩
      cases b <;> exact q
  | both a c =>
    obtain rfl := List.mem_singleton.mp ho
    match inner, hi with
    | [b, d], _ =>
      cases b
      · cbv
        exact ⟨_, rfl, rfl, q⟩
      · cbv
        exact ⟨_, rfl, rfl, q⟩
  | either a c =>
    obtain rfl := List.mem_singleton.mp ho
    match inner, hi with
    | [b, d], _ =>
      cases b
      · cbv
        exact ⟨_, rfl, rfl, q⟩
      · cbv
        exact ⟨_, rfl, rfl, q⟩
  | since a c =>
    match inner, hi with
    | [b, d], _ =>
      cases d
      · rcases ownsB_shape ho with rfl | ⟨e, rfl⟩ | ⟨e, f, rfl⟩
        · cbv
          refine ⟨_, rfl, rfl, ?_⟩
          simpa [stepO, encO, bD, b2] using q
        · by_cases he : e = 1
          · subst he
            cbv
            refine ⟨_, rfl, rfl, ?_⟩
            simpa [stepO, encO, bD, b2_one] using q
          · have e2 : bD e = .bl false := by unfold bD; rw [decide_eq_false he]
            unfold encO
            simp only [List.map_cons, List.map_nil, e2]
            cbv
            refine ⟨_, rfl, rfl, ?_⟩
            simpa [stepO, encO, bD, b2, he] using q
        · have q2 : R (.tup [.bl false, .tup [.bl false]]) := by simpa [stepO, encO, bD, b2] using q
          unfold encO
          simp only [List.map_cons, List.map_nil]
          generalize hbe : bD e = be
          unfold bD at hbe
          subst hbe
          by_cases he : e = 1
          · rw [decide_eq_true he]
            cbv
            exact ⟨_, rfl, rfl, q2⟩
          · rw [decide_eq_false he]
            cbv
            exact ⟨_, rfl, rfl, q2⟩
      · rcases ownsB_shape ho with rfl | ⟨e, rfl⟩ | ⟨e, f, rfl⟩
        all_goals
          cbv
          exact ⟨_, rfl, rfl, q⟩
  | _ => first | (cases ht; done) | (cases hw; done)
theorem sp_step_part {F G : PFs} (hZ : ArOk Z) (U : U_step_line F) (V : U_step_timed G) : SpecP 4 7 (d_step_part Z F G) F_step_part := by
  rintro _ R _ ⟨w, own, inner, kvs, l, hx, hg, ho, hi, rfl, q⟩
  by_cases h1 : w.line = true
  · have h2 : ∃ x, w.nm = some x := by cases w <;> first | exact ⟨_, rfl⟩ | cases h1
    obtain ⟨x, h2⟩ := h2
    have h3 : inner = [] := by
      refine List.eq_nil_of_length_eq_zero ?_
      rw [hi]
      cases w <;> first | rfl | cases h1
    subst h3
    exact sp_part_line U h1 h2 (hx x h2).1 (hx x h2).2 hg ho q
  · have h1 : w.line = false := by simpa using h1
    cases h2 : w.timed with
    | none => exact sp_part_plain h1 h2 ho hi q
    | some p =>
      obtain ⟨x, n⟩ := p
      have h3 : inner.length = 1 := by
        rw [hi]
        cases w <;> first | rfl | cases h2
      match inner, h3 with
      | [now], _ => exact sp_part_timed V h2 hg ho q
end AL
end
section
set_option Elab.async false
set_option linter.all false
set_option maxRecDepth 100000
set_option maxHeartbeats 4000000
/-! S4: things_of, parts_in, put_part, __init__, step. -/
namespace AL
open PySem PySem.Spec PyProof.Rows L2
local macro_rules | `(tactic| walk_at "al") => `(tactic| simp only [eV_s, eC_s, aNil_s, aCons_s, eTup_s, eLst_s, eLstM_s, eOp_s, eUn_s, rII_s, rIIc_s, rSub_s, rMul_s, rMod_s, rFdiv_s, rPow_s, rLt_s, rLe_s, rGt_s, rGe_s, rNeg_s, rIsN_s, tst_s, tAnd_s, tOr_s, tNot_s, eAnd_s, eOr_s, eNot_s, eIf_s, eChain_s, rAdd_s, rEqN_s, rInS_s, rIx_s, oNone_s, oSome_s, rSl_s, eSl_s, eCall_s, rLen_s, rInt_s, rMax2_s, rMin2_s, rSum_s, rAny_s, rMinL_s, rTuple_s, rListM_s, rSorted_s, eIsi_s, eIsi2_s, gN_s, gNil_s, gCons_s, gTup_s, gUnl_s, gStar_s, setL_s, gSub_s, sNext_s, sSeq_s, sNever_s, sExpr_s, sRet_s, sIf_s, sAsg_s, sAsg2_s, sPar_s, sPar3_s, sAug_s, sWhile_s, iSeq_s, iTup_s, iRg1_s, iRg3_s, iEnm_s, iZp_s, sFor_s, tYes_s, eLc_s, eAppend_s, ePop_s, eJoin_s, eIndex_s, eDNew_s, eDGet_s, setD_s, eFld_s, eCallF_s, eCallB_s, eMethF_s, sTAsg_s, iAny_s, rInK_s, setK_s, eDKey1_s, eDictZip_s, iZpT_s, eLc2_s, eSorts_s, eCallK_s, sFldS_s, eMethM_s, eStepper_s, rAddZ_s, rSubZ_s, rMulZ_s, rModZ_s, rFdivZ_s, rLtZ_s, rLeZ_s, rGtZ_s, rGeZ_s, rMin2Z_s, rMax2Z_s, rAddY_s, rLenY_s, rIxY_s, setLY_s, eAppendY_s, ePopY_s, rSlY_s, eSlY_s, rSumY_s, rAnyY_s, rMinLY_s, rSortedY_s, iRg1Y_s, iRg3Y_s, iEnmY_s, iZpY_s, sForY_s, sWhileY_s, eLcY_s, eDGetY_s, setDY_s, rInSY_s, rInKY_s, setKY_s, eDKey1Y_s, eDictZipY_s,
  itemsOf_tup, itemsOf_lst, datL_nil, datL_cons, datL_map, Option.map_some, Option.map_none, Option.bind_some, Option.bind_none, List.set_cons_zero, List.set_cons_succ, List.set_nil, List.getElem?_cons_zero, List.getElem?_cons_succ, List.map_cons, List.map_nil, List.cons_append, List.nil_append, List.append_nil,
  List.replicate_succ, List.replicate_zero, List.length_cons, List.length_nil, List.length_append, List.length_map, atI0, atI1, atI2, if_true, if_false, reduceIte, Bool.false_eq_true, decide_true, decide_false, decide_eq_true_eq, true_and, and_true, finA_0, isNon_s1, sizeLine_eq, Nat.zero_add, Nat.reduceAdd, Nat.reduceSub, Nat.reduceLeDiff,
  intL_nil, blL_nil, strL_nil, List.take_succ_cons, List.take_zero, List.drop_succ_cons, List.drop_zero, Nat.reduceMul, Nat.reduceLT, Bool.not_true, Bool.not_false, ne_eq, not_true_eq_false, not_false_eq_true, Bool.true_and, Bool.and_true, Bool.false_and, Bool.and_false, Bool.true_or, Bool.or_true, Bool.false_or, Bool.or_false, Bool.true_eq_false, reduceCtorEq, and_self, true_or, or_true, false_or, or_false, Int.ofNat_eq_natCast,
  ofS_inj, String.reduceEq, strL_cons, intL_cons, blL_cons, List.mem_cons, List.not_mem_nil, eqD_int, eqD_bl, eqD_str, eqD_tup, eqDs_nil, eqDs_cons, eqDs_nc, eqDs_cn, okD_nil, beq_self_eq_true, Int.reduceEq, Int.reduceLT, Int.reduceLE, lookup_rows])
variable {Z : Ar}
def F_things_of : PFs := fun ds R => ∃ w : Wi Str, ds = [encW w, .str "wish"] ∧ R (.lst (w.parts.map encW))
def F_parts_in : PFs := fun ds R => ∃ w : Wi Str, ds = [encW w] ∧ R (.lst (w.parts.map encW))
def U_parts_in (F : PFs) : Prop := ∀ (w : Wi Str) R, R (.lst (w.parts.map encW)) → F [encW w] R
theorem u_parts_in : U_parts_in F_parts_in := fun w R q => ⟨w, rfl, q⟩
theorem sp_things_of : SpecP 2 4 (d_things_of Z) F_things_of := by
  rintro _ R _ ⟨w, rfl, q⟩
  cases w <;> simp only [encW, Wi.parts, List.map_cons, List.map_nil] at q ⊢
  case pulse x lev lo hi h =>
    generalize (lo : Int) = lo'
    generalize (hi : Int) = hi'
    cbv
    exact ⟨_, rfl, rfl, q⟩
  case edges x n lo hi h =>
    generalize (n : Int) = n'
    generalize (lo : Int) = lo'
    generalize (hi : Int) = hi'
    cbv
    exact ⟨_, rfl, rfl, q⟩
  case both a b h =>
    generalize encW a = ea at q ⊢
    generalize encW b = eb at q ⊢
    cbv
    exact ⟨_, rfl, rfl, q⟩
  case either a b h =>
    generalize encW a = ea at q ⊢
    generalize encW b = eb at q ⊢
    cbv
    exact ⟨_, rfl, rfl, q⟩
  case since a b h =>
    generalize encW a = ea at q ⊢
    generalize encW b = eb at q ⊢
    cbv
    exact ⟨_, rfl, rfl, q⟩
  case ago n a h =>
    generalize encW a = ea at q ⊢
    generalize (n : Int) = n'
    cbv
    exact ⟨_, rfl, rfl, q⟩
  case within n a h =>
    generalize encW a = ea at q ⊢
    generalize (n : Int) = n'
    cbv
    exact ⟨_, rfl, rfl, q⟩
  case held n a h =>
    generalize encW a = ea at q ⊢
    generalize (n : Int) = n'
    cbv
    exact ⟨_, rfl, rfl, q⟩
  case nth n a h =>
    generalize encW a = ea at q ⊢
    generalize (n : Int) = n'
    cbv
    exact ⟨_, rfl, rfl, q⟩
  case not a h =>
    generalize encW a = ea at q ⊢
    cbv
    exact ⟨_, rfl, rfl, q⟩
  all_goals
    cbv
    exact ⟨_, rfl, rfl, q⟩
theorem sp_parts_in : SpecP 1 1 (d_parts_in Z F_things_of) F_parts_in := by
  rintro _ R _ ⟨w, rfl, q⟩
  unfold d_parts_in
  walk_at "al"
  exact ⟨w, rfl, q⟩
/-- a method with the rows does F -/
def SpecM (n m : Nat) (t : AS) (F : BFs) : Prop := ∀ ds bs (R : D → AH → Prop), ds.length + 1 = n → F ds bs (fun d bs' => R d [.ins [(rowsF, .ref 1)], .lst bs']) →
  t (fun _ h => finA 2 R (.dat .non) h) (finA 2 R) (some (AV.ref 0) :: (ds.map (fun d => some (AV.dat d)) ++ List.replicate (m - n) none)) [.ins [(rowsF, .ref 1)], .lst bs]
def encRow (q : Wi Str × List Nat) : D := .tup [encW q.1, .tup (q.2.map fun k => .int (k : Nat))]
def F_put (n : Nat) : BFs := fun ds bs R => ∃ w : Wi Str, ds = [encW w] ∧ w.size ≤ n ∧ bs.length + w.size ≤ 1000 ∧ R (.int bs.length) (bs ++ (rowsAt bs.length w).map encRow)
def U_put (n : Nat) (F : BFs) : Prop := ∀ (w : Wi Str) bs R, w.size ≤ n → bs.length + w.size ≤ 1000 → R (.int bs.length) (bs ++ (rowsAt bs.length w).map encRow) → F [encW w] bs R
theorem u_put (n : Nat) : U_put n (F_put n) := fun w bs R h1 h2 q => ⟨w, rfl, h1, h2, q⟩
theorem put_mono (n : Nat) : BMono (F_put n) := fun ds bs R R' h ⟨w, h1, h2, h3, q⟩ => ⟨w, h1, h2, h3, h _ _ q⟩
theorem lc_put {F : BFs} {n : Nat} (UF : U_put n F) {i : Nat} {ρ : En} {R : AV → AH → Prop} (h0 : ∀ d, ((wip ρ [i]).set i (some (.dat d)))[0]? = some (some (.ref 0))) (hi : ∀ d, ((wip ρ [i]).set i (some (.dat d)))[i]? = some (some (.dat d))) :
    ∀ (ps : List (Wi Str)) (bs acc : List D), (∀ p ∈ ps, p.size ≤ n) → bs.length + (ps.map Wi.size).sum ≤ 1000 → acc.length + ps.length ≤ 1000 →
      R (.dat (.lst (acc ++ (topsL bs.length ps).map fun k => .int (k : Nat)))) [.ins [(rowsF, .ref 1)], .lst (bs ++ (rowsL bs.length ps).map encRow)] →
      lcA (.nm i) tYes (eMethM 2 F (eV 0) (aCons (eV i) aNil)) ρ (ps.map encW) acc [.ins [(rowsF, .ref 1)], .lst bs] R
  | [], bs, acc, _, _, _, q => by simpa [lcA, topsL, rowsL] using q
  | p :: ps, bs, acc, hp, hb, ha, q => by
    rw [List.map_cons]
    unfold lcA
    simp only [Tgt.bd, Tgt.vs]
    rw [tYes_s, if_pos rfl, eMethM_s, eV_s, h0]
    simp only [List.getElem?_cons_zero]
    refine ⟨trivial, ?_⟩
    rw [aCons_s, eV_s, hi]
    simp only [aNil_s, List.getElem?_cons_zero, List.getElem?_cons_succ, datL_cons, datL_nil, Option.map_some]
    rw [List.map_cons, List.sum_cons] at hb
    rw [List.length_cons] at ha
    refine ⟨trivial, trivial, rfl, UF p bs _ (hp p List.mem_cons_self) (by omega) ?_⟩
    refine ⟨by rw [sizeLine_eq]; omega, ?_⟩
    show lcA _ _ _ ρ _ _ [.ins [(rowsF, .ref 1)], .lst (bs ++ (rowsAt bs.length p).map encRow)] R
    have hl : (bs ++ (rowsAt bs.length p).map encRow).length = bs.length + p.size := by rw [List.length_append, List.length_map, rowsAt_length]
    refine lc_put UF h0 hi ps _ _ (fun x hx => hp x (List.mem_cons_of_mem _ hx)) (by rw [hl]; omega) (by simp; omega) ?_
    rw [hl]
    simpa [topsL, rowsL] using q
theorem size_sum : ∀ w : Wi Str, w.size = 1 + (w.parts.map Wi.size).sum := by
  intro w
  cases w <;> simp [Wi.size, Wi.parts] <;> omega
theorem sp_put_part {P : PFs} {F : BFs} {n : Nat} (hZ : ArOk Z) (UP : U_parts_in P) (UF : U_put n F) : SpecM 2 4 (d_put_part Z P F) (F_put (n + 1)) := by
  rintro _ bs R _ ⟨w, rfl, hn, hb, q⟩
  have hs := size_sum w
  generalize hw : encW w = e
  unfold d_put_part
  walk_at "al"
  refine ⟨by omega, ?_⟩
  rw [← hw]
  refine UP w _ ?_
  simp only [List.set_cons_zero, List.set_cons_succ]
  have hl : (bs ++ [D.tup [encW w, .tup []]]).length = bs.length + 1 := by simp
  have hr := q
  rw [rowsAt_eq] at hr
  refine lc_put UF (fun d => rfl) (fun d => rfl) w.parts _ [] (fun p hp => by have := size_parts w p hp; omega) (by rw [hl]; omega) (by
    have : w.parts.length ≤ 2 := by cases w <;> simp [Wi.parts]
    simp only [List.length_nil]; omega) ?_
  rw [hl]
  walk_at "al"
  have hix : ∀ k : Nat, ixN (bs.length + 1 + k) (bs.length : Int) = some bs.length := fun k => by
    unfold ixN
    rw [if_pos (by omega), if_pos (by omega), Int.toNat_natCast]
  rw [hix]
  simp only
  refine ⟨_, rfl, rfl, ?_⟩
  have e1 : (bs ++ [D.tup [encW w, .tup []]] ++ List.map encRow (rowsL (bs.length + 1) w.parts)).set bs.length (D.tup [encW w, D.tup ([] ++ (topsL (bs.length + 1) w.parts).map fun k => D.int (k : Nat))]) =
      bs ++ List.map encRow ((w, topsL (bs.length + 1) w.parts) :: rowsL (bs.length + 1) w.parts) := by
    rw [List.append_assoc, List.set_append_right _ _ (Nat.le_refl _), Nat.sub_self]
    simp [encRow]
  show R _ [.ins [(rowsF, .ref 1)], .lst _]
  simp only [List.nil_append] at e1
  rw [e1]
  exact hr
end AL
end
section
set_option Elab.async false
set_option linter.all false
set_option maxRecDepth 100000
set_option maxHeartbeats 4000000
/-! S5: __init__, step. -/
namespace AL
open PySem PySem.Spec PyProof.Rows L2
local macro_rules | `(tactic| walk_at "al") => `(tactic| simp only [eV_s, eC_s, aNil_s, aCons_s, eTup_s, eLst_s, eLstM_s, eOp_s, eUn_s, rII_s, rIIc_s, rSub_s, rMul_s, rMod_s, rFdiv_s, rPow_s, rLt_s, rLe_s, rGt_s, rGe_s, rNeg_s, rIsN_s, tst_s, tAnd_s, tOr_s, tNot_s, eAnd_s, eOr_s, eNot_s, eIf_s, eChain_s, rAdd_s, rEqN_s, rInS_s, rIx_s, oNone_s, oSome_s, rSl_s, eSl_s, eCall_s, rLen_s, rInt_s, rMax2_s, rMin2_s, rSum_s, rAny_s, rMinL_s, rTuple_s, rListM_s, rSorted_s, eIsi_s, eIsi2_s, gN_s, gNil_s, gCons_s, gTup_s, gUnl_s, gStar_s, setL_s, gSub_s, sNext_s, sSeq_s, sNever_s, sExpr_s, sRet_s, sIf_s, sAsg_s, sAsg2_s, sPar_s, sPar3_s, sAug_s, sWhile_s, iSeq_s, iTup_s, iRg1_s, iRg3_s, iEnm_s, iZp_s, sFor_s, tYes_s, eLc_s, eAppend_s, ePop_s, eJoin_s, eIndex_s, eDNew_s, eDGet_s, setD_s, eFld_s, eCallF_s, eCallB_s, eMethF_s, sTAsg_s, iAny_s, rInK_s, setK_s, eDKey1_s, eDictZip_s, iZpT_s, eLc2_s, eSorts_s, eCallK_s, sFldS_s, eMethM_s, eStepper_s, rAddZ_s, rSubZ_s, rMulZ_s, rModZ_s, rFdivZ_s, rLtZ_s, rLeZ_s, rGtZ_s, rGeZ_s, rMin2Z_s, rMax2Z_s, rAddY_s, rLenY_s, rIxY_s, setLY_s, eAppendY_s, ePopY_s, rSlY_s, eSlY_s, rSumY_s, rAnyY_s, rMinLY_s, rSortedY_s, iRg1Y_s, iRg3Y_s, iEnmY_s, iZpY_s, sForY_s, sWhileY_s, eLcY_s, eDGetY_s, setDY_s, rInSY_s, rInKY_s, setKY_s, eDKey1Y_s, eDictZipY_s,
  itemsOf_tup, itemsOf_lst, datL_nil, datL_cons, datL_map, Option.map_some, Option.map_none, Option.bind_some, Option.bind_none, List.set_cons_zero, List.set_cons_succ, List.set_nil, List.getElem?_cons_zero, List.getElem?_cons_succ, List.map_cons, List.map_nil, List.cons_append, List.nil_append, List.append_nil,
  List.replicate_succ, List.replicate_zero, List.length_cons, List.length_nil, List.length_append, List.length_map, atI0, atI1, atI2, if_true, if_false, reduceIte, Bool.false_eq_true, decide_true, decide_false, decide_eq_true_eq, true_and, and_true, finA_0, isNon_s1, sizeLine_eq, Nat.zero_add, Nat.reduceAdd, Nat.reduceSub, Nat.reduceLeDiff,
  intL_nil, blL_nil, strL_nil, List.take_succ_cons, List.take_zero, List.drop_succ_cons, List.drop_zero, Nat.reduceMul, Nat.reduceLT, Bool.not_true, Bool.not_false, ne_eq, not_true_eq_false, not_false_eq_true, Bool.true_and, Bool.and_true, Bool.false_and, Bool.and_false, Bool.true_or, Bool.or_true, Bool.false_or, Bool.or_false, Bool.true_eq_false, reduceCtorEq, and_self, true_or, or_true, false_or, or_false, Int.ofNat_eq_natCast,
  ofS_inj, String.reduceEq, strL_cons, intL_cons, blL_cons, List.mem_cons, List.not_mem_nil, eqD_int, eqD_bl, eqD_str, eqD_tup, eqDs_nil, eqDs_cons, eqDs_nc, eqDs_cn, okD_nil, beq_self_eq_true, Int.reduceEq, Int.reduceLT, Int.reduceLE, lookup_rows])
variable {Z : Ar}
def natD (k : Nat) : D := .int (k : Nat)
def stepD (ws : List (Wi Str)) : D := .ins [.lst ((rowsL 0 ws).map encRow), .lst ((topsL 0 ws).map natD)]
def F_Stepper (n : Nat) : PFs := fun ds R => ∃ ws : List (Wi Str), ds = [.tup (ws.map encW)] ∧ (∀ w ∈ ws, w.size ≤ n) ∧ (ws.map Wi.size).sum ≤ 1000 ∧ ws.length ≤ 1000 ∧ R (stepD ws)
def U_Stepper (n : Nat) (F : PFs) : Prop := ∀ (ws : List (Wi Str)) R, (∀ w ∈ ws, w.size ≤ n) → (ws.map Wi.size).sum ≤ 1000 → ws.length ≤ 1000 → R (stepD ws) → F [.tup (ws.map encW)] R
theorem u_Stepper (n : Nat) : U_Stepper n (F_Stepper n) := fun ws R h1 h2 h3 q => ⟨ws, rfl, h1, h2, h3, q⟩
theorem sp_init {F : BFs} {n : Nat} (UF : U_put n F) : ∀ d (R : D → Prop), F_Stepper n [d] R → d___init__ Z F (fun _ h => iEnd R h) (fun _ _ => False) [some (.ref 0), some (.dat d), none] [.ins []] := by
  rintro d R ⟨ws, hd, h1, h2, h3, q⟩
  injection hd with hd _
  subst hd
  unfold d___init__
  walk_at "al"
  have e : putA (Str.ofString "rows_of") (.ref 1) [] = [(rowsF, .ref 1)] := rfl
  rw [e]
  refine lc_put UF (fun d => rfl) (fun d => rfl) ws [] [] h1 (by simpa using h2) (by simpa using h3) ?_
  walk_at "al"
  exact ⟨_, _, rfl, q⟩

/-! ### step -/
def stD (ws : List (Wi Str)) (r : Wd Str) : D := .tup ((rowsL 0 ws).map fun q => encO q.1 (ev q.1 r).2)
structure StepOk (ws : List (Wi Str)) (ok : Str → Prop) (r : Wd Str) (l : Str → Int) (kvs : List (Key × Int)) : Prop where
  good : ∀ w ∈ ws, w.good ok
  lv : ∀ x, ok x → LvAt kvs l x ∧ (l x = 0 ∨ l x = 1)
  wd : ∀ m ∈ r, ∀ x, ok x → m x = 0 ∨ m x = 1
  few : (ws.map Wi.size).sum ≤ 1000
  few2 : ws.length ≤ 1000
def F_step : PFs := fun ds R => ∃ ws ok r l kvs, StepOk ws ok r l kvs ∧ ds = [stepD ws, stD ws r, .dk kvs] ∧ R (.tup [.lst (ws.map fun w => .bl (ev w (l :: r)).1), stD ws (l :: r)])
def U_step (F : PFs) : Prop := ∀ ws ok r l kvs R, StepOk ws ok r l kvs → R (.tup [.lst (ws.map fun w => .bl (ev w (l :: r)).1), stD ws (l :: r)]) → F [stepD ws, stD ws r, .dk kvs] R
theorem u_step : U_step F_step := fun ws ok r l kvs R h q => ⟨ws, ok, r, l, kvs, h, rfl, q⟩
theorem sFor_i {wi : AI} {gt : AG} {tb : AS} {nx : En → AH → Prop} {rt : AV → AH → Prop} {ρ : En} {h h1 : AH} {ds : List D} (hw : ∀ S, S ds h1 → wi ρ h S) (q : loopA gt tb nx rt ds ρ h1) : sFor wi gt tb nx rt ρ h := hw _ q
theorem eLc_i {wi : AI} {t : Tgt} {tt : AB} {te : AT} {ρ : En} {h h1 : AH} {R : AV → AH → Prop} {ds : List D} (hw : ∀ S, S ds h1 → wi ρ h S) (q : lcA t tt te ρ ds [] h1 R) : eLc wi t tt te ρ h R := hw _ q
theorem rgD_get {lo c : Int} {n i : Nat} {d : D} (h : (rgD lo c n)[i]? = some d) : i < n ∧ d = .int (lo + i * c) := by
  unfold rgD at h
  rw [List.getElem?_map] at h
  obtain ⟨a, h1, h2⟩ := Option.map_eq_some_iff.mp h
  obtain ⟨h3, h4⟩ := List.getElem?_eq_some_iff.mp h1
  rw [List.getElem_range] at h4
  subst h4
  exact ⟨by simpa using h3, h2.symm⟩
theorem rgD_length {lo c : Int} {n : Nat} : (rgD lo c n).length = n := by simp [rgD]
theorem valD_put {kvs : List (Key × D)} {k k' : Key} {v : D} : valD (putD kvs k v) k' = if k = k' then some v else valD kvs k' := by
  unfold valD putD
  by_cases h : (kvs.any fun kv => decide (kv.1 = k)) = true
  · rw [if_pos h]
    induction kvs with
    | nil => simp at h
    | cons q kvs ih =>
      obtain ⟨a, b⟩ := q
      rw [List.map_cons]
      by_cases ha : a = k
      · subst ha
        by_cases hk : a = k'
        · subst hk; simp
        · simp only [if_true, List.find?_cons, decide_eq_false hk, if_neg hk]
          by_cases h2 : (kvs.any fun kv => decide (kv.1 = a)) = true
          · have := ih h2
            rw [if_neg hk] at this
            exact this
          · have e : kvs.map (fun kv => if kv.1 = a then (kv.1, v) else kv) = kvs := by
              have h3 : ∀ kv ∈ kvs, kv.1 ≠ a := fun kv hkv e => h2 (List.any_eq_true.mpr ⟨kv, hkv, decide_eq_true e⟩)
              refine (List.map_congr_left (g := id) fun kv hkv => ?_).trans (List.map_id _)
              rw [if_neg (h3 kv hkv)]; rfl
            rw [e]
      · have h2 : (kvs.any fun kv => decide (kv.1 = k)) = true := by
          rw [List.any_cons, decide_eq_false ha, Bool.false_or] at h; exact h
        simp only [if_neg ha, List.find?_cons]
        by_cases hk : a = k'
        · have : ¬ k = k' := fun e => ha (hk.trans e.symm)
          rw [decide_eq_true hk, if_neg this]
        · rw [decide_eq_false hk]
          exact ih h2
  · rw [if_neg h, List.find?_append]
    have h3 : ∀ kv ∈ kvs, kv.1 ≠ k := fun kv hkv e => h (List.any_eq_true.mpr ⟨kv, hkv, decide_eq_true e⟩)
    by_cases hk : k = k'
    · subst hk
      have : kvs.find? (fun kv => decide (kv.1 = k)) = none := List.find?_eq_none.mpr fun kv hkv => by simpa using h3 kv hkv
      rw [this, if_pos rfl]
      simp
    · rw [if_neg hk]
      simp [hk]
theorem putD_length {kvs : List (Key × D)} {k : Key} {v : D} : (putD kvs k v).length ≤ kvs.length + 1 := by
  unfold putD
  split
  · rw [List.length_map]; omega
  · rw [List.length_append]; simp
end AL
end
section
set_option Elab.async false
set_option linter.all false
set_option maxRecDepth 100000
set_option maxHeartbeats 4000000
/-! S6: step. -/
namespace AL
open PySem PySem.Spec PyProof.Rows L2
local macro_rules | `(tactic| walk_at "al") => `(tactic| simp only [eV_s, eC_s, aNil_s, aCons_s, eTup_s, eLst_s, eLstM_s, eOp_s, eUn_s, rII_s, rIIc_s, rSub_s, rMul_s, rMod_s, rFdiv_s, rPow_s, rLt_s, rLe_s, rGt_s, rGe_s, rNeg_s, rIsN_s, tst_s, tAnd_s, tOr_s, tNot_s, eAnd_s, eOr_s, eNot_s, eIf_s, eChain_s, rAdd_s, rEqN_s, rInS_s, rIx_s, oNone_s, oSome_s, rSl_s, eSl_s, eCall_s, rLen_s, rInt_s, rMax2_s, rMin2_s, rSum_s, rAny_s, rMinL_s, rTuple_s, rListM_s, rSorted_s, eIsi_s, eIsi2_s, gN_s, gNil_s, gCons_s, gTup_s, gUnl_s, gStar_s, setL_s, gSub_s, sNext_s, sSeq_s, sNever_s, sExpr_s, sRet_s, sIf_s, sAsg_s, sAsg2_s, sPar_s, sPar3_s, sAug_s, sWhile_s, iSeq_s, iTup_s, iRg1_s, iRg3_s, iEnm_s, iZp_s, sFor_s, tYes_s, eLc_s, eAppend_s, ePop_s, eJoin_s, eIndex_s, eDNew_s, eDGet_s, setD_s, eFld_s, eCallF_s, eCallB_s, eMethF_s, sTAsg_s, iAny_s, rInK_s, setK_s, eDKey1_s, eDictZip_s, iZpT_s, eLc2_s, eSorts_s, eCallK_s, sFldS_s, eMethM_s, eStepper_s, rAddZ_s, rSubZ_s, rMulZ_s, rModZ_s, rFdivZ_s, rLtZ_s, rLeZ_s, rGtZ_s, rGeZ_s, rMin2Z_s, rMax2Z_s, rAddY_s, rLenY_s, rIxY_s, setLY_s, eAppendY_s, ePopY_s, rSlY_s, eSlY_s, rSumY_s, rAnyY_s, rMinLY_s, rSortedY_s, iRg1Y_s, iRg3Y_s, iEnmY_s, iZpY_s, sForY_s, sWhileY_s, eLcY_s, eDGetY_s, setDY_s, rInSY_s, rInKY_s, setKY_s, eDKey1Y_s, eDictZipY_s,
  itemsOf_tup, itemsOf_lst, datL_nil, datL_cons, datL_map, Option.map_some, Option.map_none, Option.bind_some, Option.bind_none, List.set_cons_zero, List.set_cons_succ, List.set_nil, List.getElem?_cons_zero, List.getElem?_cons_succ, List.map_cons, List.map_nil, List.cons_append, List.nil_append, List.append_nil,
  List.replicate_succ, List.replicate_zero, List.length_cons, List.length_nil, List.length_append, List.length_map, atI0, atI1, atI2, if_true, if_false, reduceIte, Bool.false_eq_true, decide_true, decide_false, decide_eq_true_eq, true_and, and_true, finA_0, isNon_s1, sizeLine_eq, Nat.zero_add, Nat.reduceAdd, Nat.reduceSub, Nat.reduceLeDiff,
  intL_nil, blL_nil, strL_nil, List.take_succ_cons, List.take_zero, List.drop_succ_cons, List.drop_zero, Nat.reduceMul, Nat.reduceLT, Bool.not_true, Bool.not_false, ne_eq, not_true_eq_false, not_false_eq_true, Bool.true_and, Bool.and_true, Bool.false_and, Bool.and_false, Bool.true_or, Bool.or_true, Bool.false_or, Bool.or_false, Bool.true_eq_false, reduceCtorEq, and_self, true_or, or_true, false_or, or_false, Int.ofNat_eq_natCast,
  ofS_inj, String.reduceEq, strL_cons, intL_cons, blL_cons, List.mem_cons, List.not_mem_nil, eqD_int, eqD_bl, eqD_str, eqD_tup, eqDs_nil, eqDs_cons, eqDs_nc, eqDs_cn, okD_nil, beq_self_eq_true, Int.reduceEq, Int.reduceLT, Int.reduceLE, lookup_rows])
variable {Z : Ar} {Y : LY}
theorem iatI {α : Type} {xs : List α} {j : Nat} {v : α} (h : xs[j]? = some v) : atI xs (Int.ofNat j) = some v := atI_nat h
/-- a row's values so far, from the j-th on -/
structure StepI (ws : List (Wi Str)) (r : Wd Str) (l : Str → Int) (m : Nat) (vs fs : List (Key × D)) : Prop where
  l1 : vs.length + m ≤ (rowsL 0 ws).length
  l2 : fs.length + m ≤ (rowsL 0 ws).length
  v : ∀ (j : Nat) w ks, m ≤ j → (rowsL 0 ws)[j]? = some (w, ks) → valD vs (Sum.inl (j : Int)) = some (.bl (ev w (l :: r)).1)
  f : ∀ (j : Nat) w ks, m ≤ j → (rowsL 0 ws)[j]? = some (w, ks) → valD fs (Sum.inl (j : Int)) = some (encO w (ev w (l :: r)).2)
theorem StepI.put {ws : List (Wi Str)} {r : Wd Str} {l : Str → Int} {m : Nat} {vs fs : List (Key × D)} {w : Wi Str} {ks : List Nat} (s : StepI ws r l (m + 1) vs fs) (hw : (rowsL 0 ws)[m]? = some (w, ks)) :
    StepI ws r l m (putD vs (Sum.inl (m : Int)) (.bl (ev w (l :: r)).1)) (putD fs (Sum.inl (m : Int)) (encO w (ev w (l :: r)).2)) := by
  refine ⟨?_, ?_, fun j w' ks' hj hw' => ?_, fun j w' ks' hj hw' => ?_⟩
  · have := s.l1; have := putD_length (kvs := vs) (k := Sum.inl (m : Int)) (v := .bl (ev w (l :: r)).1); omega
  · have := s.l2; have := putD_length (kvs := fs) (k := Sum.inl (m : Int)) (v := encO w (ev w (l :: r)).2); omega
  · rw [valD_put]
    by_cases h : m = j
    · subst h
      rw [hw] at hw'; cases hw'
      rw [if_pos rfl]
    · rw [if_neg (fun e => h (by have := Sum.inl.inj e; omega))]
      exact s.v j w' ks' (by omega) hw'
  · rw [valD_put]
    by_cases h : m = j
    · subst h
      rw [hw] at hw'; cases hw'
      rw [if_pos rfl]
    · rw [if_neg (fun e => h (by have := Sum.inl.inj e; omega))]
      exact s.f j w' ks' (by omega) hw'
theorem good_names {ok : Str → Prop} : ∀ w : Wi Str, w.good ok → ∀ x, w.nm = some x → ok x := by
  intro w hg x hx
  cases w <;> first | (cases hx; done) | (cases hx; first | exact hg | exact hg.1)
theorem good_all1 {ok : Str → Prop} : ∀ w : Wi Str, w.good ok → w.good all1 := by
  intro w
  induction w with
  | yes => exact id
  | high x => exact fun _ => trivial
  | low x => exact fun _ => trivial
  | rise x => exact fun _ => trivial
  | fall x => exact fun _ => trivial
  | pulse x lev lo hi => exact fun h => ⟨trivial, h.2⟩
  | edges x n lo hi => exact fun h => ⟨trivial, h.2⟩
  | not a ih => exact ih
  | both a b iha ihb => exact fun h => ⟨iha h.1, ihb h.2⟩
  | either a b iha ihb => exact fun h => ⟨iha h.1, ihb h.2⟩
  | since a b iha ihb => exact fun h => ⟨iha h.1, ihb h.2⟩
  | ago n a ih => exact fun h => ⟨h.1, ih h.2⟩
  | within n a ih => exact fun h => ⟨h.1, ih h.2⟩
  | held n a ih => exact fun h => ⟨h.1, h.2.1, ih h.2.2⟩
  | nth n a ih => exact fun h => ⟨h.1, h.2.1, ih h.2.2⟩
/-- the values of a row's parts are known -/
theorem inner_vals {ws : List (Wi Str)} {r : Wd Str} {l : Str → Int} {m : Nat} {vs fs : List (Key × D)} {w : Wi Str} {ks : List Nat} (s : StepI ws r l (m + 1) vs fs) (hw : (rowsL 0 ws)[m]? = some (w, ks)) :
    (∀ k ∈ ks, ∃ b, valD vs (Sum.inl (k : Int)) = some (.bl b)) ∧ (ks.map fun k => (valD vs (Sum.inl ((k : Nat) : Int))).getD .non) = (w.parts.map fun p => (ev p (l :: r)).1).map D.bl := by
  obtain ⟨h1, h2⟩ := rowsL_ok ws m w ks hw
  have key : ∀ k ∈ ks, ∀ p, ((rowsL 0 ws)[k]?).map (·.1) = some p → valD vs (Sum.inl (k : Int)) = some (.bl (ev p (l :: r)).1) := fun k hk p hp => by
    obtain ⟨q, e1, e2⟩ := Option.map_eq_some_iff.mp hp
    obtain ⟨q1, q2⟩ := q
    simp at e2
    subst e2
    exact s.v k q1 q2 (h2 k hk) e1
  clear hw
  generalize w.parts = ps at h1
  clear h2
  induction ks generalizing ps with
  | nil =>
    cases ps with
    | nil => exact ⟨fun k hk => (by cases hk), rfl⟩
    | cons _ _ => simp at h1
  | cons k ks ih =>
    cases ps with
    | nil => simp at h1
    | cons p ps =>
      simp only [List.map_cons, List.cons.injEq] at h1
      obtain ⟨a, b⟩ := ih (fun k hk => key k (List.mem_cons_of_mem _ hk)) ps h1.2
      have e := key k List.mem_cons_self p h1.1
      refine ⟨fun c hc => ?_, ?_⟩
      · rcases List.mem_cons.mp hc with rfl | hc
        · exact ⟨_, e⟩
        · exact a c hc
      · simp only [List.map_cons]
        rw [e]
        simpa using b
theorem sp_step {F : PFs} (hZ : ArOk Z) (hY : YOk Y) (U : U_step_part F) : SpecP 3 9 (d_step Z Y F) F_step := by
  rintro _ R hlen ⟨ws, ok, r, l, kvs, hk, rfl, q⟩
  clear hlen
  obtain ⟨rows, hrows⟩ : ∃ x, (rowsL 0 ws).map encRow = x := ⟨_, rfl⟩
  obtain ⟨tops, htops⟩ : ∃ x, (topsL 0 ws).map natD = x := ⟨_, rfl⟩
  obtain ⟨st, hst⟩ : ∃ x, ((rowsL 0 ws).map fun q => encO q.1 (ev q.1 r).2) = x := ⟨_, rfl⟩
  have hn : rows.length = (rowsL 0 ws).length := by rw [← hrows, List.length_map]
  have hns : st.length = (rowsL 0 ws).length := by rw [← hst, List.length_map]
  have hn1 : (rowsL 0 ws).length ≤ 1000 := by rw [rowsL_length]; exact hk.few
  unfold stepD stD
  rw [hrows, htops, hst]
  cbv
  rw [hY.rok, hY.rok, hY.loop, hY.rng3, hZ.minus, hY.len]
  refine ⟨by omega, by omega, ?_⟩
  have e0 : ((rows.length : Int) - 1 - -1).toNat = rows.length := by omega
  rw [e0]
  refine loop_of (fun i ρ h => ∃ a b c d vs fs, ρ = [some (AV.dat (D.ins [D.lst rows, D.lst tops])), some (AV.dat (D.tup st)), some (AV.dat (D.dk kvs)), some (AV.ref 0), some (AV.ref 1), a, b, c, d] ∧ h = [AO.dK vs, AO.dK fs] ∧ i ≤ rows.length ∧ StepI ws r l (rows.length - i) vs fs) ?step ?last _ _ ?init
  case init =>
    refine ⟨_, _, _, _, [], [], rfl, rfl, Nat.zero_le _, by simp [hn], by simp [hn], fun j w ks hj hw => ?_, fun j w ks hj hw => ?_⟩
    all_goals
      have := (List.getElem?_eq_some_iff.mp hw).1
      omega
  case step =>
    rintro i dd K _ _ hd hK ⟨a, b, c, d, vs, fs, rfl, rfl, hi, s⟩
    obtain ⟨hi2, rfl⟩ := rgD_get hd
    obtain ⟨m, hm⟩ : ∃ m, m = rows.length - (i + 1) := ⟨_, rfl⟩
    have hmi : rows.length - i = m + 1 := by omega
    rw [hmi] at s
    have hml : m < (rowsL 0 ws).length := by omega
    obtain ⟨⟨w, ks⟩, hw⟩ : ∃ q, (rowsL 0 ws)[m]? = some q := ⟨_, List.getElem?_eq_getElem hml⟩
    have e1 : (rows.length : Int) - 1 + (i : Nat) * -1 = Int.ofNat m := by simp only [Int.ofNat_eq_natCast]; omega
    rw [e1]
    have a1 : atI rows (Int.ofNat m) = some (encRow (w, ks)) := iatI (by rw [← hrows, List.getElem?_map, hw]; rfl)
    have a2 : atI st (Int.ofNat m) = some (encO w (ev w r).2) := iatI (by rw [← hst, List.getElem?_map, hw]; rfl)
    obtain ⟨ew, hew⟩ : ∃ x, encW w = x := ⟨_, rfl⟩
    obtain ⟨eo, heo⟩ : ∃ x, encO w (ev w r).2 = x := ⟨_, rfl⟩
    obtain ⟨kd, hkd⟩ : ∃ x, (ks.map fun k => D.int (k : Nat)) = x := ⟨_, rfl⟩
    unfold encRow at a1
    simp only [hew, hkd] at a1
    rw [heo] at a2
    obtain ⟨mi, hmi2⟩ : ∃ x, Int.ofNat m = x := ⟨_, rfl⟩
    rw [hmi2] at a1 a2 ⊢
    cbv
    rw [hY.at_, a1]
    cbv
    rw [hY.at_, a2]
    cbv
    rw [hY.lc]
    obtain ⟨iv1, iv2⟩ := inner_vals s hw
    have hkl : ks.length ≤ 2 := by
      have h1 := congrArg List.length (rowsL_ok ws m w ks hw).1
      rw [List.length_map, List.length_map] at h1
      rw [h1]
      cases w <;> simp [Wi.parts]
    obtain ⟨il, hil⟩ : ∃ x, (w.parts.map fun p => (ev p (l :: r)).1).map D.bl = x := ⟨_, rfl⟩
    rw [hil] at iv2
    refine lc_map (fun d => match d with | .int k => (valD vs (Sum.inl k)).getD .non | _ => .non) (ds := kd) (fun d hd => ?_) (by rw [sizeLine_eq, ← hkd, List.length_map]; omega) ?_
    · rw [← hkd] at hd
      obtain ⟨k, hk, rfl⟩ := List.mem_map.mp hd
      obtain ⟨bb, hb⟩ := iv1 k hk
      refine ⟨_, rfl, fun K' hK' => ?_⟩
      simp only [hb, Option.getD_some] at hK'
      have hb' : valD vs (Sum.inl (Int.ofNat k)) = some (.bl bb) := hb
      cbv
      rw [hY.valD, hb']
      cbv
      exact hK'
    · have hin : (kd.map fun d => match d with | .int k => (valD vs (Sum.inl k)).getD .non | _ => .non) = il := by
        rw [← iv2, ← hkd, List.map_map]
        rfl
      rw [hin]
      obtain ⟨bv, hbv⟩ : ∃ x, (ev w (l :: r)).1 = x := ⟨_, rfl⟩
      obtain ⟨eo2, heo2⟩ : ∃ x, encO w (ev w (l :: r)).2 = x := ⟨_, rfl⟩
      have U' : ∀ R', R' (.tup [.bl bv, eo2]) → F [ew, eo, .lst il, .dk kvs] R' := fun R' h => by
        have hgood := rowsL_good ws 0 hk.good (w, ks) (List.mem_of_getElem? hw)
        rw [← hew, ← heo, ← hil]
        refine U w _ _ kvs l R' (fun x hx => hk.lv x (good_names w hgood x hx)) (good_all1 w hgood) (own_mem w hgood r hk.wd) (by simp) ?_
        rw [← ev_cons, hbv, heo2]
        exact h
      have sp := s.put hw
      rw [hbv, heo2] at sp
      cbv
      refine U' _ ?_
      cbv
      rw [hY.fitK, hY.putD, hY.fitK, hY.putD]
      have sl1 := s.l1
      have sl2 := s.l2
      refine ⟨by rw [sizeLine_eq]; omega, by rw [sizeLine_eq]; omega, hK _ _ ⟨_, _, _, _, _, _, rfl, rfl, by omega, ?_⟩⟩
      rw [← hmi2, ← hm]
      exact sp
  case last =>
    rintro _ _ ⟨a, b, c, d, vs, fs, rfl, rfl, hi, s⟩
    rw [rgD_length, Nat.sub_self] at s
    cbv
    rw [hY.lc]
    have hrow : ∀ j, j < (rowsL 0 ws).length → ∃ w ks, (rowsL 0 ws)[j]? = some (w, ks) := fun j hj => ⟨_, _, List.getElem?_eq_getElem hj⟩
    have htl : tops.length = ws.length := by
      have := congrArg List.length (tops_get ws)
      rw [List.length_map, List.length_map] at this
      rw [← htops, List.length_map, this]
    have ht : ∀ k ∈ topsL 0 ws, ∃ w ks, (rowsL 0 ws)[k]? = some (w, ks) := fun k hk => by
      have h1 : ((rowsL 0 ws)[k]?).map (·.1) ∈ ws.map some := by
        rw [← tops_get ws]
        exact List.mem_map.mpr ⟨k, hk, rfl⟩
      obtain ⟨w, _, e⟩ := List.mem_map.mp h1
      obtain ⟨q, e1, e2⟩ := Option.map_eq_some_iff.mp e.symm
      exact ⟨q.1, q.2, e1⟩
    refine lc_map (fun d => match d with | .int k => (valD vs (Sum.inl k)).getD .non | _ => .non) (ds := tops) (fun d hd => ?_) (by have := hk.few2; rw [sizeLine_eq, htl]; omega) ?_
    · rw [← htops] at hd
      obtain ⟨k, hk, rfl⟩ := List.mem_map.mp hd
      obtain ⟨w, ks, hw⟩ := ht k hk
      have hb := s.v k w ks (Nat.zero_le _) hw
      refine ⟨_, rfl, fun K' hK' => ?_⟩
      simp only [natD, hb, Option.getD_some] at hK'
      have hb' : valD vs (Sum.inl (Int.ofNat k)) = some (.bl (ev w (l :: r)).1) := hb
      generalize (ev w (l :: r)).1 = bv at hb' hK'
      cbv
      rw [hY.valD, hb']
      cbv
      exact hK'
    · have hto : (tops.map fun d => match d with | .int k => (valD vs (Sum.inl k)).getD .non | _ => .non) = ws.map fun w => .bl (ev w (l :: r)).1 := by
        rw [← htops, List.map_map]
        have h1 := tops_get ws
        have h2 : ∀ k ∈ topsL 0 ws, ∀ w, ((rowsL 0 ws)[k]?).map (·.1) = some w → valD vs (Sum.inl (k : Int)) = some (.bl (ev w (l :: r)).1) := fun k hk w e => by
          obtain ⟨q, e1, e2⟩ := Option.map_eq_some_iff.mp e
          obtain ⟨q1, q2⟩ := q
          simp at e2
          subst e2
          exact s.v k q1 q2 (Nat.zero_le _) e1
        revert h1 h2
        generalize topsL 0 ws = ts
        generalize hrr : rowsL 0 ws = rr
        clear hrr
        intro h1 h2
        clear ht q htops hst hrows hn hns hn1 e0 hi htl hrow s hk
        induction ts generalizing ws with
        | nil =>
          cases ws with
          | nil => rfl
          | cons _ _ => simp at h1
        | cons k ts ih =>
          cases ws with
          | nil => simp at h1
          | cons w ws =>
            simp only [List.map_cons, List.cons.injEq] at h1 ⊢
            refine ⟨?_, ih ws h1.2 fun k hk => h2 k (List.mem_cons_of_mem _ hk)⟩
            show (valD vs (Sum.inl ((k : Nat) : Int))).getD .non = _
            rw [h2 k List.mem_cons_self w h1.1]; rfl
      rw [hto]
      obtain ⟨vl, hvl⟩ : ∃ x : List D, (ws.map fun w => .bl (ev w (l :: r)).1) = x := ⟨_, rfl⟩
      rw [hvl] at q ⊢
      cbv
      rw [hY.rok, hY.rng, hY.len, hY.lc]
      refine ⟨by omega, ?_⟩
      rw [Int.toNat_natCast]
      refine lc_map (fun d => match d with | .int k => (valD fs (Sum.inl k)).getD .non | _ => .non) (ds := rgD 0 1 rows.length) (fun d hd => ?_) (by rw [sizeLine_eq, rgD_length]; omega) ?_
      · obtain ⟨k, hk⟩ := List.getElem?_of_mem hd
        obtain ⟨h1, rfl⟩ := rgD_get hk
        obtain ⟨w, ks, hw⟩ := hrow k (by omega)
        have hb := s.f k w ks (Nat.zero_le _) hw
        have e3 : (0 : Int) + (k : Nat) * 1 = Int.ofNat k := by simp
        rw [e3]
        refine ⟨_, rfl, fun K' hK' => ?_⟩
        have hb' : valD fs (Sum.inl (Int.ofNat k)) = some (encO w (ev w (l :: r)).2) := hb
        simp only [hb', Option.getD_some] at hK'
        generalize encO w (ev w (l :: r)).2 = bv at hb' hK'
        cbv
        rw [hY.valD, hb']
        cbv
        exact hK'
      · have hfo : ((rgD 0 1 rows.length).map fun d => match d with | .int k => (valD fs (Sum.inl k)).getD .non | _ => .non) = (rowsL 0 ws).map fun q => encO q.1 (ev q.1 (l :: r)).2 := by
          refine List.ext_getElem? fun k => ?_
          rw [List.getElem?_map, List.getElem?_map]
          by_cases h : k < (rowsL 0 ws).length
          · obtain ⟨w, ks, hw⟩ := hrow k h
            have hr : (rgD 0 1 rows.length)[k]? = some (.int (k : Nat)) := by
              unfold rgD
              rw [List.getElem?_map, List.getElem?_range (by omega)]
              simp
            rw [hw, hr]
            simp only [Option.map_some]
            rw [s.f k w ks (Nat.zero_le _) hw]; rfl
          · rw [List.getElem?_eq_none (by rw [rgD_length]; omega), List.getElem?_eq_none (by omega)]; rfl
        rw [hfo]
        unfold stD at q
        generalize ((rowsL 0 ws).map fun q => encO q.1 (ev q.1 (l :: r)).2) = fl at q ⊢
        cbv
        exact ⟨_, rfl, rfl, q⟩
end AL
end
section
set_option Elab.async false
set_option linter.all false
set_option maxRecDepth 100000
set_option maxHeartbeats 4000000
/-! S7: level_rows, runs_of, catch_of. -/
namespace AL
open PySem PySem.Spec PyProof.Rows L2
local macro_rules | `(tactic| walk_at "al") => `(tactic| simp only [eV_s, eC_s, aNil_s, aCons_s, eTup_s, eLst_s, eLstM_s, eOp_s, eUn_s, rII_s, rIIc_s, rSub_s, rMul_s, rMod_s, rFdiv_s, rPow_s, rLt_s, rLe_s, rGt_s, rGe_s, rNeg_s, rIsN_s, tst_s, tAnd_s, tOr_s, tNot_s, eAnd_s, eOr_s, eNot_s, eIf_s, eChain_s, rAdd_s, rEqN_s, rInS_s, rIx_s, oNone_s, oSome_s, rSl_s, eSl_s, eCall_s, rLen_s, rInt_s, rMax2_s, rMin2_s, rSum_s, rAny_s, rMinL_s, rTuple_s, rListM_s, rSorted_s, eIsi_s, eIsi2_s, gN_s, gNil_s, gCons_s, gTup_s, gUnl_s, gStar_s, setL_s, gSub_s, sNext_s, sSeq_s, sNever_s, sExpr_s, sRet_s, sIf_s, sAsg_s, sAsg2_s, sPar_s, sPar3_s, sAug_s, sWhile_s, iSeq_s, iTup_s, iRg1_s, iRg3_s, iEnm_s, iZp_s, sFor_s, tYes_s, eLc_s, eAppend_s, ePop_s, eJoin_s, eIndex_s, eDNew_s, eDGet_s, setD_s, eFld_s, eCallF_s, eCallB_s, eMethF_s, sTAsg_s, iAny_s, rInK_s, setK_s, eDKey1_s, eDictZip_s, iZpT_s, eLc2_s, eSorts_s, eCallK_s, sFldS_s, eMethM_s, eStepper_s, rAddZ_s, rSubZ_s, rMulZ_s, rModZ_s, rFdivZ_s, rLtZ_s, rLeZ_s, rGtZ_s, rGeZ_s, rMin2Z_s, rMax2Z_s, rAddY_s, rLenY_s, rIxY_s, setLY_s, eAppendY_s, ePopY_s, rSlY_s, eSlY_s, rSumY_s, rAnyY_s, rMinLY_s, rSortedY_s, iRg1Y_s, iRg3Y_s, iEnmY_s, iZpY_s, sForY_s, sWhileY_s, eLcY_s, eDGetY_s, setDY_s, rInSY_s, rInKY_s, setKY_s, eDKey1Y_s, eDictZipY_s,
  itemsOf_tup, itemsOf_lst, datL_nil, datL_cons, datL_map, Option.map_some, Option.map_none, Option.bind_some, Option.bind_none, List.set_cons_zero, List.set_cons_succ, List.set_nil, List.getElem?_cons_zero, List.getElem?_cons_succ, List.map_cons, List.map_nil, List.cons_append, List.nil_append, List.append_nil,
  List.replicate_succ, List.replicate_zero, List.length_cons, List.length_nil, List.length_append, List.length_map, atI0, atI1, atI2, if_true, if_false, reduceIte, Bool.false_eq_true, decide_true, decide_false, decide_eq_true_eq, true_and, and_true, finA_0, isNon_s1, sizeLine_eq, Nat.zero_add, Nat.reduceAdd, Nat.reduceSub, Nat.reduceLeDiff,
  intL_nil, blL_nil, strL_nil, List.take_succ_cons, List.take_zero, List.drop_succ_cons, List.drop_zero, Nat.reduceMul, Nat.reduceLT, Bool.not_true, Bool.not_false, ne_eq, not_true_eq_false, not_false_eq_true, Bool.true_and, Bool.and_true, Bool.false_and, Bool.and_false, Bool.true_or, Bool.or_true, Bool.false_or, Bool.or_false, Bool.true_eq_false, reduceCtorEq, and_self, true_or, or_true, false_or, or_false, Int.ofNat_eq_natCast,
  ofS_inj, String.reduceEq, strL_cons, intL_cons, blL_cons, List.mem_cons, List.not_mem_nil, eqD_int, eqD_bl, eqD_str, eqD_tup, eqDs_nil, eqDs_cons, eqDs_nc, eqDs_cn, okD_nil, beq_self_eq_true, Int.reduceEq, Int.reduceLT, Int.reduceLE, lookup_rows])
variable {Z : Ar} {Y : LY}
def rowD (r : List Int) : D := .tup (r.map .int)
def lvRows : Nat → List (List Int)
  | 1 => [[0], [1]]
  | 2 => [[0, 0], [0, 1], [1, 0], [1, 1]]
  | _ => [[]]
def F_level_rows : PFs := fun ds R => ∃ m : Nat, (m = 1 ∨ m = 2) ∧ ds = [.int m] ∧ R (.lst ((lvRows m).map rowD))
def U_level_rows (F : PFs) : Prop := ∀ (m : Nat) R, (m = 1 ∨ m = 2) → R (.lst ((lvRows m).map rowD)) → F [.int m] R
theorem u_level_rows : U_level_rows F_level_rows := fun m R h q => ⟨m, h, rfl, q⟩
theorem lcI_fun {j : Nat} {te : AT} {ρ2 : En} (f : D → D) : ∀ (es acc : List D) (K : List D → Prop), (∀ e ∈ es, ∀ h R, R (.dat (f e)) h → te ((wip ρ2 [j]).set j (some (.dat e))) h R) → acc.length + es.length ≤ sizeLine → K (acc ++ es.map f) → lcI j te ρ2 es acc K
  | [], acc, K, _, _, q => by simpa [lcI] using q
  | e :: es, acc, K, h, hz, q => by
    unfold lcI
    rw [List.length_cons] at hz
    exact ⟨f e, h e List.mem_cons_self, by omega, lcI_fun f es (acc ++ [f e]) K (fun x hx => h x (List.mem_cons_of_mem _ hx)) (by simp; omega) (by simpa using q)⟩
theorem lcO_fun {i j : Nat} {wi1 : AI} {te : AT} {ρ : En} (es : List D) (f : D → D → D) : ∀ (ds acc : List D) (K : List D → Prop), (∀ d ∈ ds, (∀ h S, S es h → wi1 ((wip ρ [i, j]).set i (some (.dat d))) h S) ∧
      ∀ e ∈ es, ∀ h R, R (.dat (f d e)) h → te ((wip ((wip ρ [i, j]).set i (some (.dat d))) [j]).set j (some (.dat e))) h R) → acc.length + ds.length * es.length ≤ sizeLine →
    K (acc ++ ds.flatMap fun d => es.map (f d)) → lcO i j wi1 te ρ ds acc K
  | [], acc, K, _, _, q => by simpa [lcO] using q
  | d :: ds, acc, K, h, hz, q => by
    unfold lcO
    rw [List.length_cons, Nat.add_mul, Nat.one_mul] at hz
    obtain ⟨h1, h2⟩ := h d List.mem_cons_self
    refine ⟨es, h1, lcI_fun (f d) es acc _ h2 (by omega) (lcO_fun es f ds _ K (fun x hx => h x (List.mem_cons_of_mem _ hx)) (by simp; omega) ?_)⟩
    simpa [List.flatMap_cons] using q
def rowAdd (d e : D) : D := match d with
  | .tup xs => .tup (xs ++ [e])
  | _ => .non
theorem sp_lv_turn (hY : YOk Y) {a b c : Option AV} {ds : List D} (hd : ∀ d ∈ ds, ∃ xs : List D, d = .tup xs ∧ xs.length ≤ 2) (hl : ds.length ≤ 4) {K : List D → Prop} (q : K (ds.flatMap fun d => [D.int 0, D.int 1].map (rowAdd d))) :
    lcO 3 4 (iTup (eTup (aCons (eC (D.int 0)) (aCons (eC (D.int 1)) aNil)))) (eOp (rAddY Z Y) (eV 3) (eTup (aCons (eV 4) aNil))) [a, b, c, none, none] ds [] K := by
  refine lcO_fun [.int 0, .int 1] rowAdd ds [] K (fun d hm => ?_) (by rw [sizeLine_eq]; simp; omega) (by simpa using q)
  obtain ⟨xs, rfl, hx⟩ := hd d hm
  refine ⟨fun h S s => ?_, fun e he h R s => ?_⟩
  · cbv
    exact s
  · generalize hxx : rowAdd (.tup xs) e = y at s
    cbv
    rw [hY.fit2, hY.app]
    refine ⟨by rw [sizeLine_eq]; simp; omega, ?_⟩
    rw [← hxx] at s
    exact s
theorem sp_level_rows (hZ : ArOk Z) (hY : YOk Y) : SpecP 1 5 (d_level_rows Z Y) F_level_rows := by
  rintro _ R _ ⟨m, hm, rfl, q⟩
  rcases hm with rfl | rfl
  · cbv
    rw [hY.rok, hY.rng, hY.loop]
    refine ⟨by decide, ?_⟩
    show loopA _ _ _ _ [.int 0] _ _
    unfold loopA
    show [] = [] ∧ lcO _ _ _ _ _ _ _ _
    refine ⟨rfl, sp_lv_turn hY (fun d hd => ⟨[], List.mem_singleton.mp hd, by decide⟩) (by decide) ?_⟩
    cbv
    exact ⟨_, rfl, rfl, q⟩
  · cbv
    rw [hY.rok, hY.rng, hY.loop]
    refine ⟨by decide, ?_⟩
    show loopA _ _ _ _ [.int 0, .int 1] _ _
    unfold loopA
    show [] = [] ∧ lcO _ _ _ _ _ _ _ _
    refine ⟨rfl, sp_lv_turn hY (fun d hd => ⟨[], List.mem_singleton.mp hd, by decide⟩) (by decide) ?_⟩
    simp only [loopA]
    show [] = [] ∧ lcO _ _ _ _ _ _ _ _
    refine ⟨rfl, sp_lv_turn hY (fun d hd => ?_) (by decide) ?_⟩
    · have hd : d ∈ [D.tup [.int 0], D.tup [.int 1]] := hd
      simp only [List.mem_cons, List.not_mem_nil, or_false] at hd
      rcases hd with rfl | rfl
      · exact ⟨_, rfl, by decide⟩
      · exact ⟨_, rfl, by decide⟩
    cbv
    exact ⟨_, rfl, rfl, q⟩

/-! ### runs_of -/
def runStep (found : List (Int × Int)) (p : Int × Int) : List (Int × Int) :=
  if 0 < p.2 then (match found.getLast? with
    | some q => if q.1 = p.1 then found.dropLast ++ [(p.1, q.2 + p.2)] else found ++ [p]
    | none => [p]) else found
def runsF (ps : List (Int × Int)) : List (Int × Int) := ps.foldl runStep []
def sumL (ps : List (Int × Int)) : Int := (ps.map (·.2)).sum
theorem runStep_sum (found : List (Int × Int)) (p : Int × Int) (h : 0 < p.2) : sumL (runStep found p) = sumL found + p.2 := by
  unfold runStep
  rw [if_pos h]
  cases hq : found.getLast? with
  | none =>
    rw [List.getLast?_eq_none_iff] at hq
    subst hq
    simp [sumL]
  | some q =>
    obtain ⟨ini, rfl⟩ := List.getLast?_eq_some_iff.mp hq
    simp only
    split
    · simp [sumL]; omega
    · simp [sumL]; omega
theorem runs_sum : ∀ (ps found : List (Int × Int)), (∀ p ∈ ps, 0 < p.2) → sumL (ps.foldl runStep found) = sumL found + sumL ps
  | [], found, _ => by simp [sumL]
  | p :: ps, found, h => by
    rw [List.foldl_cons, runs_sum ps _ (fun q hq => h q (List.mem_cons_of_mem _ hq)), runStep_sum found p (h p List.mem_cons_self)]
    simp [sumL]; omega
theorem runStep_len (found : List (Int × Int)) (p : Int × Int) : (runStep found p).length ≤ found.length + 1 := by
  unfold runStep
  split
  · split
    · split <;> simp
    · simp
  · omega
def F_runs_of : PFs := fun ds R => ∃ ps : List (Int × Int), ps.length ≤ 1000000 ∧ ds = [.lst (ps.map pD)] ∧ R (.tup ((runsF ps).map pD))
def U_runs_of (F : PFs) : Prop := ∀ (ps : List (Int × Int)) R, ps.length ≤ 1000000 → R (.tup ((runsF ps).map pD)) → F [.lst (ps.map pD)] R
theorem u_runs_of : U_runs_of F_runs_of := fun ps R h q => ⟨ps, h, rfl, q⟩
theorem sp_runs_of (hZ : ArOk Z) (hY : YOk Y) : SpecP 1 4 (d_runs_of Z Y) F_runs_of := by
  rintro _ R _ ⟨ps, hp, rfl, q⟩
  generalize hpd : ps.map pD = pd
  cbv
  rw [hY.loop]
  refine loop_of (fun i ρ h => ∃ b c found, ρ = [some (AV.dat (D.lst pd)), some (AV.ref 0), b, c] ∧ h = [AO.lst (found.map pD)] ∧ found = (ps.take i).foldl runStep [] ∧ found.length ≤ i) ?step ?last _ _ ?init
  case init => exact ⟨_, _, [], rfl, rfl, by simp, by simp⟩
  case last =>
    rintro _ _ ⟨b, c, found, rfl, rfl, hf, hl⟩
    have e : (ps.take pd.length).foldl runStep [] = runsF ps := by
      rw [← hpd, List.length_map, List.take_of_length_le (Nat.le_refl _)]; rfl
    rw [e] at hf
    subst hf
    generalize (runsF ps).map pD = fd at q ⊢
    cbv
    exact ⟨_, rfl, rfl, q⟩
  case step =>
    rintro i dd K _ _ hd hK ⟨b, c, found, rfl, rfl, hf, hl⟩
    rw [← hpd, List.getElem?_map] at hd
    obtain ⟨p, hp1, rfl⟩ := Option.map_eq_some_iff.mp hd
    obtain ⟨lv, lg⟩ := p
    have hi := (List.getElem?_eq_some_iff.mp hp1).1
    have hf2 : runStep found (lv, lg) = (ps.take (i + 1)).foldl runStep [] := by
      rw [List.take_add_one, hp1, List.foldl_append, ← hf]; rfl
    have hl2 : (runStep found (lv, lg)).length ≤ i + 1 := Nat.le_trans (runStep_len _ _) (by omega)
    obtain ⟨fd, hfd⟩ : ∃ x, found.map pD = x := ⟨_, rfl⟩
    have hfl : fd.length = found.length := by rw [← hfd, List.length_map]
    have app : ∀ K' : En → AH → Prop, (∀ ρ h, ρ = [some (AV.dat (D.lst pd)), some (AV.ref 0), some (AV.dat (D.int lv)), some (AV.dat (D.int lg))] → h = [AO.lst (fd ++ [pD (lv, lg)])] → K' ρ h) →
        Y .fit fd ∧ K' [some (AV.dat (D.lst pd)), some (AV.ref 0), some (AV.dat (D.int lv)), some (AV.dat (D.int lg))] [AO.lst (Y .app fd [pD (lv, lg)])] := fun K' hk => by
      rw [hY.fit, hY.app]
      exact ⟨by rw [sizeLine_eq]; omega, hk _ _ rfl rfl⟩
    rw [hfd]
    cbv
    rw [hZ.lt]
    by_cases h1 : 0 < lg
    · rw [decide_eq_true h1]
      cbv
      rw [hZ.lt, hY.len]
      rcases List.eq_nil_or_concat found with hnil | ⟨ini, ⟨a, b⟩, hcon⟩
      · have e1 : decide ((0 : Int) < (fd.length : Int)) = false := by rw [hfl, hnil]; rfl
        rw [e1]
        cbv
        rw [hZ.lt, decide_eq_true h1]
        cbv
        refine app K fun ρ h e2 e3 => hK _ _ ⟨_, _, _, e2, ?_, hf2, hl2⟩
        rw [e3, ← hfd, hnil]
        simp [runStep, h1]
      · have e1 : decide ((0 : Int) < (fd.length : Int)) = true := by rw [hfl, hcon]; simp
        have hfi : fd = ini.map pD ++ [D.tup [.int a, .int b]] := by rw [← hfd, hcon]; simp [pD]
        have at1 : atI fd (-1) = some (.tup [.int a, .int b]) := by rw [hfi]; exact atI_last _ _
        have at2 : ∀ d e : D, atI [d, e] 0 = some d := fun d e => atI0 _ _
        have at3 : ∀ d e : D, atI [d, e] 1 = some e := fun d e => atI1 _ _ _
        rw [e1]
        cbv
        rw [hY.at_, at1]
        cbv
        rw [hY.at_, at2]
        cbv
        by_cases h3 : a = lv
        · rw [decide_eq_true h3]
          cbv
          rw [hY.at_, at1]
          cbv
          rw [hY.at_, at3]
          cbv
          have st : Y .set_ fd (-1) (.tup [.int lv, .int (Z .plus b lg)]) = some (ini.map pD ++ [pD (lv, b + lg)]) := by
            rw [hY.set_, hfi, hZ.plus]
            have : ixN (ini.map pD ++ [D.tup [.int a, .int b]]).length (-1) = some (ini.map pD).length := by
              unfold ixN
              rw [List.length_append]
              simp only [List.length_cons, List.length_nil]
              rw [if_neg (by decide), if_pos (by omega)]
              congr 1
              omega
            rw [this, Option.map_some, List.set_append_right _ _ (Nat.le_refl _), Nat.sub_self]
            rfl
          obtain ⟨nl, hnl⟩ : ∃ x, ini.map pD ++ [pD (lv, b + lg)] = x := ⟨_, rfl⟩
          rw [hnl] at st
          rw [st]
          cbv
          refine hK _ _ ⟨_, _, _, rfl, ?_, hf2, hl2⟩
          rw [← hnl, hcon]
          simp [runStep, h1, h3]
        · rw [decide_eq_false h3]
          cbv
          rw [hZ.lt, decide_eq_true h1]
          cbv
          refine app K fun ρ h e2 e3 => hK _ _ ⟨_, _, _, e2, ?_, hf2, hl2⟩
          rw [e3, ← hfd, hcon]
          simp [runStep, h1, h3]
    · rw [decide_eq_false h1]
      cbv
      rw [hZ.lt, decide_eq_false h1]
      cbv
      refine hK _ _ ⟨_, _, _, rfl, ?_, hf2, hl2⟩
      rw [← hfd]
      unfold runStep
      rw [if_neg h1]
end AL
end
section
set_option Elab.async false
set_option linter.all false
set_option maxRecDepth 100000
set_option maxHeartbeats 4000000
/-! S8: catch_of. -/
namespace AL
open PySem PySem.Spec PyProof.Rows L2
local macro_rules | `(tactic| walk_at "al") => `(tactic| simp only [eV_s, eC_s, aNil_s, aCons_s, eTup_s, eLst_s, eLstM_s, eOp_s, eUn_s, rII_s, rIIc_s, rSub_s, rMul_s, rMod_s, rFdiv_s, rPow_s, rLt_s, rLe_s, rGt_s, rGe_s, rNeg_s, rIsN_s, tst_s, tAnd_s, tOr_s, tNot_s, eAnd_s, eOr_s, eNot_s, eIf_s, eChain_s, rAdd_s, rEqN_s, rInS_s, rIx_s, oNone_s, oSome_s, rSl_s, eSl_s, eCall_s, rLen_s, rInt_s, rMax2_s, rMin2_s, rSum_s, rAny_s, rMinL_s, rTuple_s, rListM_s, rSorted_s, eIsi_s, eIsi2_s, gN_s, gNil_s, gCons_s, gTup_s, gUnl_s, gStar_s, setL_s, gSub_s, sNext_s, sSeq_s, sNever_s, sExpr_s, sRet_s, sIf_s, sAsg_s, sAsg2_s, sPar_s, sPar3_s, sAug_s, sWhile_s, iSeq_s, iTup_s, iRg1_s, iRg3_s, iEnm_s, iZp_s, sFor_s, tYes_s, eLc_s, eAppend_s, ePop_s, eJoin_s, eIndex_s, eDNew_s, eDGet_s, setD_s, eFld_s, eCallF_s, eCallB_s, eMethF_s, sTAsg_s, iAny_s, rInK_s, setK_s, eDKey1_s, eDictZip_s, iZpT_s, eLc2_s, eSorts_s, eCallK_s, sFldS_s, eMethM_s, eStepper_s, rAddZ_s, rSubZ_s, rMulZ_s, rModZ_s, rFdivZ_s, rLtZ_s, rLeZ_s, rGtZ_s, rGeZ_s, rMin2Z_s, rMax2Z_s, rAddY_s, rLenY_s, rIxY_s, setLY_s, eAppendY_s, ePopY_s, rSlY_s, eSlY_s, rSumY_s, rAnyY_s, rMinLY_s, rSortedY_s, iRg1Y_s, iRg3Y_s, iEnmY_s, iZpY_s, sForY_s, sWhileY_s, eLcY_s, eDGetY_s, setDY_s, rInSY_s, rInKY_s, setKY_s, eDKey1Y_s, eDictZipY_s,
  itemsOf_tup, itemsOf_lst, datL_nil, datL_cons, datL_map, Option.map_some, Option.map_none, Option.bind_some, Option.bind_none, List.set_cons_zero, List.set_cons_succ, List.set_nil, List.getElem?_cons_zero, List.getElem?_cons_succ, List.map_cons, List.map_nil, List.cons_append, List.nil_append, List.append_nil,
  List.replicate_succ, List.replicate_zero, List.length_cons, List.length_nil, List.length_append, List.length_map, atI0, atI1, atI2, if_true, if_false, reduceIte, Bool.false_eq_true, decide_true, decide_false, decide_eq_true_eq, true_and, and_true, finA_0, isNon_s1, sizeLine_eq, Nat.zero_add, Nat.reduceAdd, Nat.reduceSub, Nat.reduceLeDiff,
  intL_nil, blL_nil, strL_nil, List.take_succ_cons, List.take_zero, List.drop_succ_cons, List.drop_zero, Nat.reduceMul, Nat.reduceLT, Bool.not_true, Bool.not_false, ne_eq, not_true_eq_false, not_false_eq_true, Bool.true_and, Bool.and_true, Bool.false_and, Bool.and_false, Bool.true_or, Bool.or_true, Bool.false_or, Bool.or_false, Bool.true_eq_false, reduceCtorEq, and_self, true_or, or_true, false_or, or_false, Int.ofNat_eq_natCast,
  ofS_inj, String.reduceEq, strL_cons, intL_cons, blL_cons, List.mem_cons, List.not_mem_nil, eqD_int, eqD_bl, eqD_str, eqD_tup, eqDs_nil, eqDs_cons, eqDs_nc, eqDs_cn, okD_nil, beq_self_eq_true, Int.reduceEq, Int.reduceLT, Int.reduceLE, lookup_rows])
variable {Z : Ar} {Y : LY}
def lineF (rws : List (List Int)) (k : Int) : D := .tup ((runsF (rws.map fun r => (r.getD k.toNat 0, 1))).map pD)
def catchE (rws : List (List Int)) (d : D) : D := match d with
  | .tup [.int k, .str n] => .tup [.str n, lineF rws k]
  | _ => .non
def catchD (ns : List Str) (rws : List (List Int)) : D := .tup ((enD 0 (ns.map .str)).map (catchE rws))
structure CatchOk (ns : List Str) (rws : List (List Int)) : Prop where
  row : ∀ r ∈ rws, r.length = ns.length
  l1 : rws.length ≤ 100000
  l2 : ns.length ≤ 2
def F_catch_of : PFs := fun ds R => ∃ ns rws, CatchOk ns rws ∧ ds = [.lst (ns.map .str), .tup (rws.map rowD)] ∧ R (catchD ns rws)
def U_catch_of (F : PFs) : Prop := ∀ ns rws R, CatchOk ns rws → R (catchD ns rws) → F [.lst (ns.map .str), .tup (rws.map rowD)] R
theorem u_catch_of : U_catch_of F_catch_of := fun ns rws R h q => ⟨ns, rws, h, rfl, q⟩
theorem sp_catch_of {F : PFs} (hZ : ArOk Z) (hY : YOk Y) (U : U_runs_of F) : SpecP 2 5 (d_catch_of Z Y F) F_catch_of := by
  rintro _ R _ ⟨ns, rws, ok, rfl, q⟩
  obtain ⟨nd, hnd⟩ : ∃ x, ns.map D.str = x := ⟨_, rfl⟩
  obtain ⟨rd, hrd⟩ : ∃ x, rws.map rowD = x := ⟨_, rfl⟩
  have l1 := ok.l1
  have l2 := ok.l2
  have hrl : rd.length = rws.length := by rw [← hrd, List.length_map]
  unfold catchD at q
  rw [hnd] at q
  rw [hnd, hrd]
  cbv
  rw [hY.lc, hY.enum]
  refine lc_map (catchE rws) (ds := enD 0 nd) (fun d hd => ?_) (by rw [sizeLine_eq, enD_length, ← hnd, List.length_map]; omega) ?_
  · obtain ⟨i, hi⟩ := List.getElem?_of_mem hd
    obtain ⟨e, h1, rfl⟩ := enD_get hi
    rw [← hnd, List.getElem?_map] at h1
    obtain ⟨n, h2, rfl⟩ := Option.map_eq_some_iff.mp h1
    have hin : i < ns.length := (List.getElem?_eq_some_iff.mp h2).1
    refine ⟨_, rfl, fun K hK => ?_⟩
    obtain ⟨ki, hki⟩ : ∃ x : Int, ((0 + i : Nat) : Int) = x := ⟨_, rfl⟩
    rw [hki] at hK
    have hk2 : ki.toNat = i := by omega
    show eTup _ [some (.dat (.lst nd)), some (.dat (.tup rd)), some (.dat (.int ((0 + i : Nat) : Int))), some (.dat (.str n)), none] [] K
    rw [hki]
    cbv
    rw [hY.lc]
    refine lc_map (fun d => match d with | .tup r => .tup [r.getD i (.int 0), .int 1] | _ => .non) (ds := rd) (fun d hd => ?_) (by rw [sizeLine_eq]; omega) ?_
    · rw [← hrd] at hd
      obtain ⟨r, hr, rfl⟩ := List.mem_map.mp hd
      have hrl2 := ok.row r hr
      refine ⟨_, rfl, fun K' hK' => ?_⟩
      obtain ⟨v, hv⟩ : ∃ v, r[i]? = some v := ⟨_, List.getElem?_eq_getElem (by omega)⟩
      have hg : (r.map D.int)[i]? = some (.int v) := by rw [List.getElem?_map, hv]; rfl
      have hat : atI (r.map D.int) ki = some (.int v) := by rw [← hki, Nat.zero_add]; exact atI_nat hg
      have hgd : (r.map D.int).getD i (.int 0) = .int v := by rw [List.getD_eq_getElem?_getD, hg]; rfl
      simp only [rowD, hgd] at hK'
      unfold rowD
      generalize r.map D.int = rr at hat ⊢
      cbv
      rw [hY.at_, hat]
      cbv
      exact hK'
    · have hm : (rd.map fun d => match d with | .tup r => D.tup [r.getD i (.int 0), .int 1] | _ => .non) = (rws.map fun r => (r.getD ki.toNat 0, (1 : Int))).map pD := by
        rw [← hrd, List.map_map, List.map_map, hk2]
        refine List.map_congr_left fun r hr => ?_
        simp only [Function.comp, rowD, pD]
        congr 2
        rw [List.getD_eq_getElem?_getD, List.getElem?_map, List.getD_eq_getElem?_getD]
        cases r[i]? <;> rfl
      rw [hm]
      obtain ⟨pl, hpl⟩ : ∃ x, (rws.map fun r => (r.getD ki.toNat 0, (1 : Int))) = x := ⟨_, rfl⟩
      have U' : ∀ R', R' (lineF rws ki) → F [.lst (pl.map pD)] R' := fun R' h => by
        refine U pl R' (by rw [← hpl, List.length_map]; omega) ?_
        unfold lineF at h
        rw [hpl] at h
        exact h
      have hK2 : K (.dat (.tup [.str n, lineF rws ki])) [] := hK
      rw [hpl]
      generalize lineF rws ki = ln at U' hK2
      generalize pl.map pD = pd at U' ⊢
      cbv
      refine U' _ ?_
      cbv
      exact hK2
  · generalize (enD 0 nd).map (catchE rws) = cd at q ⊢
    cbv
    exact ⟨_, rfl, rfl, q⟩
end AL
end
section
set_option Elab.async false
set_option linter.all false
set_option maxRecDepth 100000
set_option maxHeartbeats 4000000
/-! S9: the search's plain part: words of rows, their keys. -/
namespace AL
open PySem PySem.Spec PyProof.Rows L2
variable {Z : Ar} {Y : LY}
def lvF (ns : List Str) (row : List Int) (x : Str) : Int := (((ns.zip row).find? fun p => decide (p.1 = x)).map (·.2)).getD 0
def kvsOf (ns : List Str) (row : List Int) : List (Key × Int) := (ns.map Sum.inr).zip row
theorem lv_kvs (x : Str) : ∀ (ns : List Str) (row : List Int), ((kvsOf ns row).find? fun kv => decide (kv.1 = Sum.inr x)).map (·.2) = ((ns.zip row).find? fun p => decide (p.1 = x)).map (·.2)
  | [], row => by simp [kvsOf]
  | n :: ns, [] => by simp [kvsOf]
  | n :: ns, l :: row => by
    have ih := lv_kvs x ns row
    unfold kvsOf at ih ⊢
    simp only [List.map_cons, List.zip_cons_cons, List.find?_cons]
    by_cases h : n = x
    · subst h; simp
    · have h2 : ¬ (Sum.inr n : Key) = Sum.inr x := fun e => h (Sum.inr.inj e)
      rw [decide_eq_false h, decide_eq_false h2]
      exact ih
theorem lv_at {x : Str} : ∀ {ns : List Str} {row : List Int}, x ∈ ns → row.length = ns.length → (∀ l ∈ row, l = 0 ∨ l = 1) → ∃ v, ((ns.zip row).find? fun p => decide (p.1 = x)).map (·.2) = some v ∧ (v = 0 ∨ v = 1)
  | [], _, h, _, _ => by cases h
  | n :: ns, [], _, h, _ => by simp at h
  | n :: ns, l :: row, h, hl, hv => by
    simp only [List.zip_cons_cons, List.find?_cons]
    by_cases e : n = x
    · subst e
      refine ⟨l, by simp, hv l List.mem_cons_self⟩
    · rw [decide_eq_false e]
      exact lv_at ((List.mem_cons.mp h).resolve_left fun z => e z.symm) (by simpa using hl) fun k hk => hv k (List.mem_cons_of_mem _ hk)
theorem lv_ok {ns : List Str} {row : List Int} (hl : row.length = ns.length) (hv : ∀ l ∈ row, l = 0 ∨ l = 1) : ∀ x, x ∈ ns → LvAt (kvsOf ns row) (lvF ns row) x ∧ (lvF ns row x = 0 ∨ lvF ns row x = 1) := fun x hx => by
  obtain ⟨v, h1, h2⟩ := lv_at hx hl hv
  have e : lvF ns row x = v := by unfold lvF; rw [h1]; rfl
  rw [e]
  refine ⟨?_, h2⟩
  unfold LvAt
  rw [lv_kvs, h1, e]
theorem lvRows_ok {m : Nat} (hm : m = 1 ∨ m = 2) : ∀ r ∈ lvRows m, r.length = m ∧ ∀ l ∈ r, l = 0 ∨ l = 1 := by
  rcases hm with rfl | rfl <;> decide
structure ShOk (n : Nat) (ns : List Str) (ws : List (Wi Str)) : Prop where
  nd : ns.Nodup
  sok : ∀ x ∈ ns, PyData.strOk x = true
  two : ns.length = 1 ∨ ns.length = 2
  good : ∀ w ∈ ws, w.good (· ∈ ns)
  cost : (ws.map Wi.cost).sum ≤ 4
  size : ∀ w ∈ ws, w.size ≤ n
  sum : (ws.map Wi.size).sum ≤ 1000
  few : ws.length ≤ 2
def wdOf (ns : List Str) (r : List (List Int)) : Wd Str := r.map (lvF ns)
def cntW (ws : List (Wi Str)) (r : Wd Str) : Int := (ws.map fun w => b2 (ev w r).1).sum
def hitW (ns : List Str) (ws : List (Wi Str)) (r : List (List Int)) : Bool := decide (cntW ws (wdOf ns r) = 1)
def keyW (ns : List Str) (ws : List (Wi Str)) (r : List (List Int)) : List (List Int) := stR (rowsL 0 ws) (wdOf ns r)
def nkOf (s : List (List Int)) : NestedKey := .tup (s.map fun own => .tup (own.map NestedKey.num))
theorem map_inj {α β : Type} {f : α → β} (h : ∀ a b, f a = f b → a = b) : ∀ {xs ys : List α}, xs.map f = ys.map f → xs = ys
  | [], [], _ => rfl
  | [], _ :: _, e => by simp at e
  | _ :: _, [], e => by simp at e
  | x :: xs, y :: ys, e => by
    simp only [List.map_cons, List.cons.injEq] at e
    rw [h x y e.1, map_inj h e.2]
theorem nkOf_inj {s t : List (List Int)} (h : nkOf s = nkOf t) : s = t := by
  unfold nkOf at h
  injection h with h
  refine map_inj (fun a b e => ?_) h
  injection e with e
  exact map_inj (fun i j e => by injection e) e
theorem depthAll_num : ∀ own : List Int, NestedKey.depthAll (own.map NestedKey.num) = 0
  | [] => rfl
  | i :: own => by rw [List.map_cons, NestedKey.depthAll, depthAll_num own]; rfl
theorem depthAll_own : ∀ s : List (List Int), NestedKey.depthAll (s.map fun own => .tup (own.map NestedKey.num)) ≤ 1
  | [] => by decide
  | own :: s => by
    rw [List.map_cons, NestedKey.depthAll, NestedKey.depth, depthAll_num]
    exact Nat.max_le.mpr ⟨Nat.le_refl _, depthAll_own s⟩
theorem nkOf_depth (s : List (List Int)) : (nkOf s).depth ≤ 8 := by
  unfold nkOf
  rw [NestedKey.depth]
  have := depthAll_own s
  omega
theorem toKeys_ints : ∀ own : List Int, toKeys (own.map D.int) = some (own.map NestedKey.num)
  | [] => by unfold List.map toKeys; rfl
  | i :: own => by rw [List.map_cons, toKeys, toKey, toKeys_ints own]; rfl
theorem toKeys_bools : ∀ own : List Int, (∀ i ∈ own, i = 0 ∨ i = 1) → toKeys (own.map bD) = some (own.map NestedKey.num)
  | [], _ => by unfold List.map toKeys; rfl
  | i :: own, h => by
    rw [List.map_cons, toKeys, toKeys_bools own fun k hk => h k (List.mem_cons_of_mem _ hk)]
    rcases h i List.mem_cons_self with rfl | rfl <;> rfl
theorem ownsB_01 : ∀ own ∈ ownsB, ∀ i ∈ own, i = 0 ∨ i = 1 := by decide
theorem toKey_own {w : Wi Str} {own : List Int} (h : own ∈ w.owns) : toKey (encO w own) = some (.tup (own.map NestedKey.num)) := by
  have hint : ∀ o : List Int, toKey (.tup (o.map D.int)) = some (.tup (o.map NestedKey.num)) := fun o => by rw [toKey, toKeys_ints o]
  have hb : own ∈ ownsB → toKey (.tup (own.map bD)) = some (.tup (own.map NestedKey.num)) := fun ho => by rw [toKey, toKeys_bools own (ownsB_01 own ho)]
  cases w with
  | pulse x lev lo hi =>
    have h : own ∈ ownsP := h
    unfold ownsP at h
    simp only [List.mem_cons, List.not_mem_nil, or_false] at h
    rcases h with rfl | rfl | rfl | rfl | rfl | rfl | rfl | rfl | rfl | rfl | rfl | rfl | rfl <;> rfl
  | nth n a =>
    have h : own ∈ ownsN := h
    unfold ownsN at h
    simp only [List.mem_cons, List.not_mem_nil, or_false] at h
    rcases h with rfl | rfl | rfl | rfl | rfl | rfl | rfl | rfl | rfl <;> rfl
  | ago n a => exact hb h
  | within n a => exact hb h
  | since a b => exact hb h
  | _ => exact hint own
theorem toKeys_map {α : Type} (f : α → D) (g : α → NestedKey) : ∀ xs : List α, (∀ x ∈ xs, toKey (f x) = some (g x)) → toKeys (xs.map f) = some (xs.map g)
  | [], _ => by unfold List.map toKeys; rfl
  | x :: xs, h => by
    rw [List.map_cons, toKeys, h x List.mem_cons_self, toKeys_map f g xs fun y hy => h y (List.mem_cons_of_mem _ hy)]
    rfl
theorem wd_ok {ns : List Str} (h2 : ns.length = 1 ∨ ns.length = 2) {r : List (List Int)} (hr : ∀ a ∈ r, a ∈ lvRows ns.length) : ∀ m ∈ wdOf ns r, ∀ x, x ∈ ns → m x = 0 ∨ m x = 1 := fun m hm x hx => by
  obtain ⟨a, ha, rfl⟩ := List.mem_map.mp hm
  obtain ⟨h3, h4⟩ := lvRows_ok h2 a (hr a ha)
  exact (lv_ok h3 h4 x hx).2
theorem toKey_st {n : Nat} {ns : List Str} {ws : List (Wi Str)} (ok : ShOk n ns ws) {r : List (List Int)} (hr : ∀ a ∈ r, a ∈ lvRows ns.length) : toKey (stD ws (wdOf ns r)) = some (nkOf (keyW ns ws r)) := by
  unfold stD nkOf keyW stR
  rw [toKey, toKeys_map _ (fun q : Wi Str × List Nat => NestedKey.tup ((ev q.1 (wdOf ns r)).2.map NestedKey.num)) _ fun q hq => toKey_own (own_mem q.1 (rowsL_good ws 0 ok.good q hq) _ (wd_ok ok.two hr))]
  simp [List.map_map, Function.comp_def]
theorem top_in {w : Wi Str} : ∀ {ws : List (Wi Str)} {off : Nat}, w ∈ ws → ∃ q ∈ rowsL off ws, q.1 = w
  | [], _, h => by cases h
  | v :: ws, off, h => by
    unfold rowsL
    rcases List.mem_cons.mp h with rfl | h
    · obtain ⟨ks, hk⟩ := rowsAt_head w off
      exact ⟨_, List.mem_append_left _ (List.mem_of_getElem? hk), rfl⟩
    · obtain ⟨q, h1, h2⟩ := top_in (off := off + v.size) h
      exact ⟨q, List.mem_append_right _ h1, h2⟩
theorem sh_det {ns : List Str} {ws : List (Wi Str)} : ∀ r1 r2 : List (List Int), keyW ns ws r1 = keyW ns ws r2 → ∀ a : List Int, hitW ns ws (a :: r1) = hitW ns ws (a :: r2) ∧ keyW ns ws (a :: r1) = keyW ns ws (a :: r2) := by
  intro r1 r2 h a
  obtain ⟨h1, h2⟩ := rows_det (rowsL_ok ws) h (lvF ns a)
  refine ⟨?_, h2⟩
  unfold hitW cntW
  have : (ws.map fun w => b2 (ev w (wdOf ns (a :: r1))).1) = ws.map fun w => b2 (ev w (wdOf ns (a :: r2))).1 := by
    refine List.map_congr_left fun w hw => ?_
    obtain ⟨q, hq, rfl⟩ := top_in (off := 0) hw
    show b2 (ev q.1 (lvF ns a :: wdOf ns r1)).1 = b2 (ev q.1 (lvF ns a :: wdOf ns r2)).1
    rw [h1 q hq]
  rw [this]
theorem sh_few {n : Nat} {ns : List Str} {ws : List (Wi Str)} (ok : ShOk n ns ws) {W : List (List (List Int))} (hW : ∀ r ∈ W, ∀ a ∈ r, a ∈ lvRows ns.length) (nd : (W.map (keyW ns ws)).Nodup) : W.length ≤ 28561 := by
  have h := few (ok := (· ∈ ns)) ok.good ok.cost (Ws := W.map (wdOf ns)) (fun r hr => by
    obtain ⟨q, hq, rfl⟩ := List.mem_map.mp hr
    exact wd_ok ok.two (hW q hq)) (by rw [List.map_map]; exact nd)
  simpa using h
end AL
end
section
set_option Elab.async false
set_option linter.all false
set_option maxRecDepth 100000
set_option maxHeartbeats 4000000
/-! S10: shortest. -/
namespace AL
open PySem PySem.Spec PyProof.Rows L2
variable {Z : Ar} {Y : LY}
def wtD (ns : List Str) (ws : List (Wi Str)) (r : List (List Int)) : D := .tup [stD ws (wdOf ns r), .tup (r.reverse.map rowD)]
def ShR (ns : List Str) (ws : List (Wi Str)) (R : D → Prop) : Prop :=
  ((∀ r : List (List Int), (∀ x ∈ r, x ∈ lvRows ns.length) → ∀ a ∈ lvRows ns.length, hitW ns ws (a :: r) = false) → R .non) ∧
  (∀ (a : List Int) (r : List (List Int)), a ∈ lvRows ns.length → (∀ x ∈ r, x ∈ lvRows ns.length) → r.length ≤ 50000 → hitW ns ws (a :: r) = true →
    (∀ r' : List (List Int), (∀ x ∈ r', x ∈ lvRows ns.length) → ∀ a' ∈ lvRows ns.length, hitW ns ws (a' :: r') = true → r.length ≤ r'.length) → R (catchD ns (a :: r).reverse))
def F_shortest (n : Nat) : PFs := fun ds R => ∃ ns ws, ShOk n ns ws ∧ ds = [.lst (ns.map .str), .tup (ws.map encW)] ∧ ShR ns ws R
def U_shortest (n : Nat) (F : PFs) : Prop := ∀ ns ws R, ShOk n ns ws → ShR ns ws R → F [.lst (ns.map .str), .tup (ws.map encW)] R
theorem u_shortest (n : Nat) : U_shortest n (F_shortest n) := fun ns ws R h q => ⟨ns, ws, h, rfl, q⟩
theorem sh_dzip {n : Nat} {ns : List Str} {ws : List (Wi Str)} (ok : ShOk n ns ws) {row : List Int} (hr : row ∈ lvRows ns.length) : dzipF (ns.map .str) (row.map .int) = some (kvsOf ns row) := by
  have h1 : ∀ ns : List Str, strL (ns.map .str) = some ns := fun ns => by
    induction ns with
    | nil => rfl
    | cons x ns ih => rw [List.map_cons, strL_cons, ih]; rfl
  have h2 : ∀ ns : List Int, intL (ns.map .int) = some ns := fun ns => by
    induction ns with
    | nil => rfl
    | cons x ns ih => rw [List.map_cons, intL_cons, ih]; rfl
  unfold dzipF
  rw [h1, h2]
  exact if_pos ⟨ok.nd, ((lvRows_ok ok.two row hr).1).symm⟩
theorem sh_step {n : Nat} {ns : List Str} {ws : List (Wi Str)} (ok : ShOk n ns ws) {r : List (List Int)} (hr : ∀ a ∈ r, a ∈ lvRows ns.length) {row : List Int} (ha : row ∈ lvRows ns.length) : StepOk ws (· ∈ ns) (wdOf ns r) (lvF ns row) (kvsOf ns row) := by
  obtain ⟨h1, h2⟩ := lvRows_ok ok.two row ha
  exact ⟨ok.good, lv_ok h1 h2, wd_ok ok.two hr, ok.sum, by have := ok.few; omega⟩
theorem lvRows_len {m : Nat} (hm : m = 1 ∨ m = 2) : (lvRows m).length ≤ 4 := by rcases hm with rfl | rfl <;> decide
theorem sum_bl : ∀ (bs : List Bool), intL ((bs.map D.bl).map fun d => match d with | .bl b => D.int (b2 b) | _ => .non) = some (bs.map b2)
  | [] => rfl
  | b :: bs => by
    rw [List.map_cons, List.map_cons, intL_cons, sum_bl bs]; rfl
theorem sp_shortest {n : Nat} {F1 F2 F3 F4 : PFs} (hZ : ArOk Z) (hY : YOk Y) (U1 : U_level_rows F1) (U2 : U_catch_of F2) (U3 : U_step F3) (U4 : U_Stepper n F4) : SpecP 2 14 (d_shortest Z Y F1 F2 F3 F4) (F_shortest n) := by
  rintro _ R _ ⟨ns, ws, ok, rfl, qn, qf⟩
  obtain ⟨nd, hnd⟩ : ∃ x, ns.map D.str = x := ⟨_, rfl⟩
  obtain ⟨wd, hwd⟩ : ∃ x, ws.map encW = x := ⟨_, rfl⟩
  obtain ⟨rd, hrd⟩ : ∃ x, (rowsL 0 ws).map encRow = x := ⟨_, rfl⟩
  obtain ⟨td, htd⟩ : ∃ x, (topsL 0 ws).map natD = x := ⟨_, rfl⟩
  have hnl : nd.length = ns.length := by rw [← hnd, List.length_map]
  have hrl : rd.length ≤ 1000 := by rw [← hrd, List.length_map, rowsL_length]; exact ok.sum
  have hwl := ok.few
  have U4' : ∀ R', R' (.ins [.lst rd, .lst td]) → F4 [.tup wd] R' := fun R' h => by
    rw [← hwd]
    refine U4 ws R' ok.size ok.sum (by omega) ?_
    unfold stepD
    rw [hrd, htd]
    exact h
  obtain ⟨m, hm⟩ : ∃ m, ns.length = m := ⟨_, rfl⟩
  have hm2 : m = 1 ∨ m = 2 := hm ▸ ok.two
  obtain ⟨lrd, hlrd⟩ : ∃ x, (lvRows m).map rowD = x := ⟨_, rfl⟩
  have U1' : ∀ R', R' (.lst lrd) → F1 [.int (nd.length : Nat)] R' := fun R' h => by
    rw [hnl, hm]
    refine U1 m R' hm2 ?_
    rw [hlrd]
    exact h
  obtain ⟨bl, hbl⟩ : ∃ x, (rd.map fun _ => D.tup []) = x := ⟨_, rfl⟩
  have hst : stD ws (wdOf ns []) = .tup bl := by
    unfold stD wdOf
    rw [← hbl, ← hrd, List.map_map]
    congr 1
    refine List.map_congr_left fun q _ => ?_
    show encO q.1 (ev q.1 []).2 = .tup []
    rw [ev_nil]
    obtain ⟨w, ks⟩ := q
    cases w <;> rfl
  have hk0 := toKey_st ok (r := []) (fun a h => by cases h)
  rw [hst] at hk0
  obtain ⟨k0, hk0e⟩ : ∃ x, nkOf (keyW ns ws []) = x := ⟨_, rfl⟩
  rw [hk0e] at hk0
  have hdep := nkOf_depth (keyW ns ws [])
  rw [hk0e] at hdep
  rw [hnd, hwd]
  cbv
  refine U4' _ ?_
  cbv
  rw [hY.lc]
  refine lc_map (fun _ => D.tup []) (ds := rd) (fun d _ => ⟨_, rfl, fun K hK => by cbv; exact hK⟩) (by rw [sizeLine_eq]; omega) ?_
  rw [hbl]
  cbv
  rw [hY.key, hk0]
  cbv
  rw [hY.dep, hY.whl]
  refine ⟨hdep, ?_⟩
  refine while_of (fun mm ρ h => ∃ a b c d e f g k W, ρ = [some (AV.dat (.lst nd)), some (AV.dat (.tup wd)), some (AV.dat (.ins [.lst rd, .lst td])), some (AV.dat (.tup bl)), some (AV.ref 0), some (AV.ref 1), some (AV.dat (.int (k : Nat))), a, b, c, d, e, f, g] ∧
    h = [AO.dN (W.map fun r => nkOf (keyW ns ws r)), AO.lst (W.map (wtD ns ws))] ∧ Bfs (lvRows m) (keyW ns ws) (hitW ns ws) W k ∧ (∀ r ∈ W, r.length < W.length) ∧ 28562 ≤ mm + k) ?step ?zero 28562 _ _ ?init
  case init =>
    refine ⟨_, _, _, _, _, _, _, 0, [[]], rfl, ?_, Bfs.start, by simp, by omega⟩
    simp only [List.map_cons, List.map_nil, hk0e, wtD, hst, List.reverse_nil]
  case zero =>
    rintro ρ h ⟨a, b, c, d, e, f, g, k, W, rfl, rfl, hb, hl, hk⟩
    have h1 := sh_few ok (W := W) (by rw [hm]; exact hb.let_) hb.nd
    have h2 := hb.le
    omega
  case step =>
    rintro mm K _ _ hK ⟨a, b, c, d, e, f, g, k, W, rfl, rfl, hb, hl, hk⟩
    have hfew := sh_few ok (W := W) (by rw [hm]; exact hb.let_) hb.nd
    obtain ⟨kl, hkl⟩ : ∃ x, (W.map fun r => nkOf (keyW ns ws r)) = x := ⟨_, rfl⟩
    obtain ⟨wl, hwl2⟩ : ∃ x, W.map (wtD ns ws) = x := ⟨_, rfl⟩
    obtain ⟨ki, hki⟩ : ∃ x : Int, (k : Int) = x := ⟨_, rfl⟩
    rw [hkl, hwl2, hki]
    cbv
    rw [hZ.lt, hY.len]
    have hwll : wl.length = W.length := by rw [← hwl2, List.length_map]
    by_cases hlt : ki < (wl.length : Int)
    · rw [decide_eq_true hlt]
      cbv
      have hkW : k < W.length := by
        have h5 : (k : Int) < (W.length : Int) := by
          have h6 := hlt
          rw [hwll, ← hki] at h6
          exact h6
        exact Int.ofNat_lt.mp h5
      obtain ⟨v, hv⟩ : ∃ v, W[k]? = some v := ⟨_, List.getElem?_eq_getElem hkW⟩
      have hvm : v ∈ W := List.mem_of_getElem? hv
      have hvl := hb.let_ v hvm
      obtain ⟨sv, hsv⟩ : ∃ x, stD ws (wdOf ns v) = x := ⟨_, rfl⟩
      obtain ⟨pv, hpv⟩ : ∃ x, v.reverse.map rowD = x := ⟨_, rfl⟩
      have hat : atI wl ki = some (.tup [sv, .tup pv]) := by
        rw [← hki, ← hsv, ← hpv]
        exact atI_nat (by rw [← hwl2, List.getElem?_map, hv]; rfl)
      have hpl : pv.length = v.length := by rw [← hpv, List.length_map, List.length_reverse]
      have hvw := hl v hvm
      rw [hY.at_, hat]
      cbv
      rw [hZ.plus, hY.len]
      refine U1' _ ?_
      rw [hY.loop]
      obtain ⟨kj, hkj⟩ : ∃ x, ki + 1 = x := ⟨_, rfl⟩
      rw [hkj]
      have hlrl : lrd.length ≤ 4 := by rw [← hlrd, List.length_map]; exact lvRows_len hm2
      have hW4 : W.length ≤ 28561 := hfew
      refine loop_of (fun i ρ h => ∃ c d e f g W, ρ = [some (AV.dat (.lst nd)), some (AV.dat (.tup wd)), some (AV.dat (.ins [.lst rd, .lst td])), some (AV.dat (.tup bl)), some (AV.ref 0), some (AV.ref 1), some (AV.dat (.int kj)), some (AV.dat sv), some (AV.dat (.tup pv)), c, d, e, f, g] ∧
        h = [AO.dN (W.map fun r => nkOf (keyW ns ws r)), AO.lst (W.map (wtD ns ws))] ∧ BfsI (lvRows m) (keyW ns ws) (hitW ns ws) W k v ((lvRows m).take i) ∧ (∀ r ∈ W, r.length < W.length)) ?step ?last _ _ ?init
      case init =>
        refine ⟨_, _, _, _, _, W, rfl, ?_, ?_, hl⟩
        · rw [hkl, hwl2]
        · exact Bfs.open_ hb hv
      case last =>
        rintro _ _ ⟨c, d, e, f, g, W, rfl, rfl, hb, hl⟩
        have hte : (lvRows m).take lrd.length = lvRows m := by rw [← hlrd, List.length_map]; exact List.take_of_length_le (Nat.le_refl _)
        rw [hte] at hb
        refine hK _ _ ⟨some (.dat sv), some (.dat (.tup pv)), c, d, e, f, g, k + 1, W, ?_, rfl, BfsI.next hb, hl, by omega⟩
        rw [← hkj, ← hki]
        simp
      case step =>
        rintro i dd K2 _ _ hd hK2 ⟨c, d, e, f, g, W, rfl, rfl, hb, hl⟩
        rw [← hlrd, List.getElem?_map] at hd
        obtain ⟨row, hrow, rfl⟩ := Option.map_eq_some_iff.mp hd
        have hrm : row ∈ lvRows m := List.mem_of_getElem? hrow
        have htk : (lvRows m).take (i + 1) = (lvRows m).take i ++ [row] := by rw [List.take_add_one, hrow]; rfl
        have hfew := sh_few ok (W := W) (by rw [hm]; exact hb.let_) hb.nd
        obtain ⟨kl, hkl⟩ : ∃ x, (W.map fun r => nkOf (keyW ns ws r)) = x := ⟨_, rfl⟩
        obtain ⟨wl, hwl2⟩ : ∃ x, W.map (wtD ns ws) = x := ⟨_, rfl⟩
        have hkll : kl.length = W.length := by rw [← hkl, List.length_map]
        have hwll : wl.length = W.length := by rw [← hwl2, List.length_map]
        have hdz : dzipF nd (row.map .int) = some (kvsOf ns row) := by rw [← hnd]; exact sh_dzip ok (hm ▸ hrm)
        obtain ⟨ri, hri⟩ : ∃ x, row.map D.int = x := ⟨_, rfl⟩
        rw [hri] at hdz
        obtain ⟨kv, hkv⟩ : ∃ x, kvsOf ns row = x := ⟨_, rfl⟩
        rw [hkv] at hdz
        have hst2 : ∃ fl, stD ws (wdOf ns (row :: v)) = .tup fl := ⟨_, rfl⟩
        obtain ⟨fl, hfl⟩ := hst2
        obtain ⟨vl, hvl2⟩ : ∃ x : List D, (ws.map fun w => (ev w (wdOf ns (row :: v))).1).map D.bl = x := ⟨_, rfl⟩
        have U3' : ∀ R', R' (.tup [.lst vl, .tup fl]) → F3 [.ins [.lst rd, .lst td], sv, .dk kv] R' := fun R' h => by
          rw [← hrd, ← htd, ← hsv, ← hkv]
          refine U3 ws (· ∈ ns) (wdOf ns v) (lvF ns row) (kvsOf ns row) R' (sh_step ok (hm ▸ hvl) (hm ▸ hrm)) ?_
          have e1 : (ws.map fun w => D.bl (ev w (lvF ns row :: wdOf ns v)).1) = vl := by rw [← hvl2, List.map_map]; rfl
          have e2 : stD ws (lvF ns row :: wdOf ns v) = .tup fl := hfl
          rw [e1, e2]
          exact h
        have hvll : vl.length ≤ 2 := by rw [← hvl2, List.length_map, List.length_map]; exact hwl
        have hsum : intL (vl.map fun d => match d with | .bl b => D.int (b2 b) | _ => .non) = some (ws.map fun w => b2 (ev w (wdOf ns (row :: v))).1) := by
          rw [← hvl2, sum_bl, List.map_map]; rfl
        have hky := toKey_st ok (r := row :: v) (by rw [hm]; exact List.forall_mem_cons.mpr ⟨hrm, hvl⟩)
        rw [hfl] at hky
        obtain ⟨k1, hk1⟩ : ∃ x, nkOf (keyW ns ws (row :: v)) = x := ⟨_, rfl⟩
        have hdp := nkOf_depth (keyW ns ws (row :: v))
        rw [hk1] at hky hdp
        have hin : decide (k1 ∈ kl) = decide (keyW ns ws (row :: v) ∈ W.map (keyW ns ws)) := by
          refine decide_eq_decide.mpr ?_
          rw [← hk1, ← hkl]
          constructor
          · intro h
            obtain ⟨r, h1, h2⟩ := List.mem_map.mp h
            exact List.mem_map.mpr ⟨r, h1, nkOf_inj h2⟩
          · intro h
            obtain ⟨r, h1, h2⟩ := List.mem_map.mp h
            exact List.mem_map.mpr ⟨r, h1, by rw [h2]⟩
        have hrow2 : rowD row = .tup ri := by rw [← hri]; rfl
        have hvm2 : v ∈ W := List.mem_of_getElem? hb.here
        have hvw := hl v hvm2
        rw [hkl, hwl2, hrow2]
        cbv
        rw [hY.dzip, hdz]
        cbv
        refine U3' _ ?_
        cbv
        rw [hY.lc]
        refine lc_map (fun d => match d with | .bl b => D.int (b2 b) | _ => .non) (ds := vl) (fun d hd => ?_) (by rw [sizeLine_eq]; omega) ?_
        · rw [← hvl2] at hd
          obtain ⟨b, hb, rfl⟩ := List.mem_map.mp hd
          refine ⟨_, rfl, fun K hK => ?_⟩
          cases b <;> exact hK
        · obtain ⟨il, hil⟩ : ∃ x, (vl.map fun d => match d with | .bl b => D.int (b2 b) | _ => .non) = x := ⟨_, rfl⟩
          rw [hil] at hsum ⊢
          cbv
          rw [hY.iL, hsum]
          obtain ⟨sl, hsl⟩ : ∃ x, (ws.map fun w => b2 (ev w (wdOf ns (row :: v))).1) = x := ⟨_, rfl⟩
          rw [hsl]
          cbv
          rw [hY.sum]
          have hhit : hitW ns ws (row :: v) = decide (sl.sum = 1) := by rw [← hsl]; rfl
          by_cases h1 : sl.sum = 1
          · rw [decide_eq_true h1] at hhit
            rw [h1]
            cbv
            rw [hY.app, hY.fit2]
            have happ : pv ++ [.tup ri] = (row :: v).reverse.map rowD := by rw [List.reverse_cons, List.map_append, hpv, List.map_cons, hrow2]; rfl
            rw [happ]
            refine ⟨by rw [sizeLine_eq]; simp; omega, ?_⟩
            rw [← hnd]
            refine U2 ns _ _ ⟨fun r hr => ?_, by simp; omega, by omega⟩ ?_
            · have hr : r ∈ row :: v := List.mem_reverse.mp hr
              have : r ∈ lvRows m := by
                rcases List.mem_cons.mp hr with rfl | hr
                · exact hrm
                · exact hvl r hr
              exact (lvRows_ok ok.two r (hm ▸ this)).1
            · have q := qf row v (hm ▸ hrm) (hm ▸ hvl) (by omega) hhit (by
                rw [hm]
                exact BfsI.found (fun r1 r2 _ _ h a _ => sh_det r1 r2 h a) hb)
              generalize catchD ns (row :: v).reverse = cd at q ⊢
              cbv
              exact ⟨_, rfl, rfl, q⟩
          · rw [decide_eq_false h1] at hhit
            have e1 : (decide (sl.sum = 1)) = false := decide_eq_false h1
            obtain ⟨ss, hss⟩ : ∃ x, sl.sum = x := ⟨_, rfl⟩
            rw [hss] at e1 ⊢
            cbv
            rw [e1]
            cbv
            rw [hY.key, hky]
            cbv
            rw [hY.dep, hY.isIn]
            refine ⟨hdp, ?_⟩
            by_cases h2 : keyW ns ws (row :: v) ∈ W.map (keyW ns ws)
            · have h3 : decide (k1 ∈ kl) = true := hin.trans (decide_eq_true h2)
              rw [h3]
              cbv
              refine hK2 _ _ ⟨some (.dat (.tup ri)), some (.dat (.lst vl)), some (.dat (.tup fl)), f, g, W, rfl, ?_, ?_, hl⟩
              · rw [hkl, hwl2]
              · rw [htk]; exact BfsI.stay hb hrm hhit h2
            · have h3 : decide (k1 ∈ kl) = false := hin.trans (decide_eq_false h2)
              have h4 : k1 ∉ kl := of_decide_eq_false h3
              rw [h3]
              cbv
              rw [hY.key, hky]
              cbv
              rw [hY.dep, hY.notIn, hY.fitN, hY.appN]
              refine ⟨hdp, h4, by rw [sizeLine_eq]; omega, ?_⟩
              rw [hY.app, hY.app, hY.fit2, hY.fit]
              refine ⟨by rw [sizeLine_eq]; simp; omega, by rw [sizeLine_eq]; omega, ?_⟩
              refine hK2 _ _ ⟨some (.dat (.tup ri)), some (.dat (.lst vl)), some (.dat (.tup fl)), f, g, W ++ [row :: v], rfl, ?_, ?_, ?_⟩
              · have happ : pv ++ [.tup ri] = (row :: v).reverse.map rowD := by rw [List.reverse_cons, List.map_append, hpv, List.map_cons, hrow2]; rfl
                rw [List.map_append, List.map_append, hkl, hwl2, happ]
                simp only [List.map_cons, List.map_nil, hk1, wtD, hfl]
                rfl
              · rw [htk]; exact BfsI.more hb hrm hhit h2
              · intro r hr
                rw [List.length_append, List.length_singleton]
                rcases List.mem_append.mp hr with hr | hr
                · have := hl r hr; omega
                · rw [List.mem_singleton.mp hr, List.length_cons]; omega
    · rw [decide_eq_false hlt]
      cbv
      refine ⟨_, rfl, rfl, qn ?_⟩
      rw [hm]
      refine Bfs.none (fun r1 r2 _ _ h a _ => sh_det r1 r2 h a) hb ?_
      rcases Nat.lt_or_ge k W.length with h | h
      · have h6 := hlt
        rw [hwll, ← hki] at h6
        exact absurd (Int.ofNat_lt.mpr h) h6
      · exact h
end AL
end
section
set_option Elab.async false
set_option linter.all false
set_option maxRecDepth 100000
set_option maxHeartbeats 4000000
/-! S11: wishes_alike, soonest, and the law's many, told, due. -/
namespace AL
open PySem PySem.Spec PyProof.Rows L2
local macro_rules | `(tactic| walk_at "al") => `(tactic| simp only [eV_s, eC_s, aNil_s, aCons_s, eTup_s, eLst_s, eLstM_s, eOp_s, eUn_s, rII_s, rIIc_s, rSub_s, rMul_s, rMod_s, rFdiv_s, rPow_s, rLt_s, rLe_s, rGt_s, rGe_s, rNeg_s, rIsN_s, tst_s, tAnd_s, tOr_s, tNot_s, eAnd_s, eOr_s, eNot_s, eIf_s, eChain_s, rAdd_s, rEqN_s, rInS_s, rIx_s, oNone_s, oSome_s, rSl_s, eSl_s, eCall_s, rLen_s, rInt_s, rMax2_s, rMin2_s, rSum_s, rAny_s, rMinL_s, rTuple_s, rListM_s, rSorted_s, eIsi_s, eIsi2_s, gN_s, gNil_s, gCons_s, gTup_s, gUnl_s, gStar_s, setL_s, gSub_s, sNext_s, sSeq_s, sNever_s, sExpr_s, sRet_s, sIf_s, sAsg_s, sAsg2_s, sPar_s, sPar3_s, sAug_s, sWhile_s, iSeq_s, iTup_s, iRg1_s, iRg3_s, iEnm_s, iZp_s, sFor_s, tYes_s, eLc_s, eAppend_s, ePop_s, eJoin_s, eIndex_s, eDNew_s, eDGet_s, setD_s, eFld_s, eCallF_s, eCallB_s, eMethF_s, sTAsg_s, iAny_s, rInK_s, setK_s, eDKey1_s, eDictZip_s, iZpT_s, eLc2_s, eSorts_s, eCallK_s, sFldS_s, eMethM_s, eStepper_s, rAddZ_s, rSubZ_s, rMulZ_s, rModZ_s, rFdivZ_s, rLtZ_s, rLeZ_s, rGtZ_s, rGeZ_s, rMin2Z_s, rMax2Z_s, rAddY_s, rLenY_s, rIxY_s, setLY_s, eAppendY_s, ePopY_s, rSlY_s, eSlY_s, rSumY_s, rAnyY_s, rMinLY_s, rSortedY_s, iRg1Y_s, iRg3Y_s, iEnmY_s, iZpY_s, sForY_s, sWhileY_s, eLcY_s, eDGetY_s, setDY_s, rInSY_s, rInKY_s, setKY_s, eDKey1Y_s, eDictZipY_s,
  itemsOf_tup, itemsOf_lst, datL_nil, datL_cons, datL_map, Option.map_some, Option.map_none, Option.bind_some, Option.bind_none, List.set_cons_zero, List.set_cons_succ, List.set_nil, List.getElem?_cons_zero, List.getElem?_cons_succ, List.map_cons, List.map_nil, List.cons_append, List.nil_append, List.append_nil,
  List.replicate_succ, List.replicate_zero, List.length_cons, List.length_nil, List.length_append, List.length_map, atI0, atI1, atI2, if_true, if_false, reduceIte, Bool.false_eq_true, decide_true, decide_false, decide_eq_true_eq, true_and, and_true, finA_0, isNon_s1, sizeLine_eq, Nat.zero_add, Nat.reduceAdd, Nat.reduceSub, Nat.reduceLeDiff,
  intL_nil, blL_nil, strL_nil, List.take_succ_cons, List.take_zero, List.drop_succ_cons, List.drop_zero, Nat.reduceMul, Nat.reduceLT, Bool.not_true, Bool.not_false, ne_eq, not_true_eq_false, not_false_eq_true, Bool.true_and, Bool.and_true, Bool.false_and, Bool.and_false, Bool.true_or, Bool.or_true, Bool.false_or, Bool.or_false, Bool.true_eq_false, reduceCtorEq, and_self, true_or, or_true, false_or, or_false, Int.ofNat_eq_natCast,
  ofS_inj, String.reduceEq, strL_cons, intL_cons, blL_cons, List.mem_cons, List.not_mem_nil, eqD_int, eqD_bl, eqD_str, eqD_tup, eqDs_nil, eqDs_cons, eqDs_nc, eqDs_cn, okD_nil, beq_self_eq_true, Int.reduceEq, Int.reduceLT, Int.reduceLE, lookup_rows])
variable {Z : Ar} {Y : LY}
def F_soonest (n : Nat) : PFs := fun ds R => ∃ ns w, ShOk n ns [w] ∧ ds = [.lst (ns.map .str), encW w] ∧ ShR ns [w] R
def U_soonest (n : Nat) (F : PFs) : Prop := ∀ ns w R, ShOk n ns [w] → ShR ns [w] R → F [.lst (ns.map .str), encW w] R
theorem u_soonest (n : Nat) : U_soonest n (F_soonest n) := fun ns w R h q => ⟨ns, w, h, rfl, q⟩
theorem sp_soonest {n : Nat} {F : PFs} (hZ : ArOk Z) (hY : YOk Y) (U : U_shortest n F) : SpecP 2 2 (d_soonest Z Y F) (F_soonest n) := by
  rintro _ R _ ⟨ns, w, ok, rfl, q⟩
  obtain ⟨nd, hnd⟩ : ∃ x, ns.map D.str = x := ⟨_, rfl⟩
  obtain ⟨wd, hwd⟩ : ∃ x, encW w = x := ⟨_, rfl⟩
  have U' : ∀ R', ShR ns [w] R' → F [.lst nd, .tup [wd]] R' := fun R' h => by
    rw [← hnd, ← hwd]
    exact U ns [w] R' ok h
  rw [hnd, hwd]
  cbv
  refine U' _ ⟨fun h => ?_, fun a r h1 h2 h3 h4 h5 => ?_⟩
  · have h := q.1 h
    cbv
    exact ⟨_, rfl, rfl, h⟩
  · have h := q.2 a r h1 h2 h3 h4 h5
    generalize catchD ns (a :: r).reverse = cd at h ⊢
    cbv
    exact ⟨_, rfl, rfl, h⟩
def AlR (ns : List Str) (ws : List (Wi Str)) (R : D → Prop) : Prop := ShR ns ws fun d => match d with
  | .non => R (.tup [.str "same"])
  | d => R (.tup [.str "unlike", d])
def F_wishes_alike (n : Nat) : PFs := fun ds R => ∃ ns w v, ShOk n ns [w, v] ∧ ds = [.lst (ns.map .str), encW w, encW v] ∧ AlR ns [w, v] R
def U_wishes_alike (n : Nat) (F : PFs) : Prop := ∀ ns w v R, ShOk n ns [w, v] → AlR ns [w, v] R → F [.lst (ns.map .str), encW w, encW v] R
theorem u_wishes_alike (n : Nat) : U_wishes_alike n (F_wishes_alike n) := fun ns w v R h q => ⟨ns, w, v, h, rfl, q⟩
theorem sp_wishes_alike {n : Nat} {F : PFs} (hZ : ArOk Z) (hY : YOk Y) (U : U_shortest n F) : SpecP 3 4 (d_wishes_alike Z Y F) (F_wishes_alike n) := by
  rintro _ R _ ⟨ns, w, v, ok, rfl, q⟩
  obtain ⟨nd, hnd⟩ : ∃ x, ns.map D.str = x := ⟨_, rfl⟩
  obtain ⟨wd, hwd⟩ : ∃ x, encW w = x := ⟨_, rfl⟩
  obtain ⟨vd, hvd⟩ : ∃ x, encW v = x := ⟨_, rfl⟩
  have U' : ∀ R', ShR ns [w, v] R' → F [.lst nd, .tup [wd, vd]] R' := fun R' h => by
    rw [← hnd, ← hwd, ← hvd]
    exact U ns [w, v] R' ok h
  rw [hnd, hwd, hvd]
  cbv
  refine U' _ ⟨fun h => ?_, fun a r h1 h2 h3 h4 h5 => ?_⟩
  · have h := q.1 h
    cbv
    exact ⟨_, rfl, rfl, h⟩
  · have h := q.2 a r h1 h2 h3 h4 h5
    unfold catchD at h ⊢
    generalize (enD 0 (ns.map .str)).map (catchE (a :: r).reverse) = cd at h ⊢
    cbv
    exact ⟨_, rfl, rfl, h⟩

/-! ### many -/
theorem sum_snd : ∀ ps : List (Int × Int), intL ((ps.map pD).map fun d => match d with | .tup [_, e] => e | _ => .non) = some (ps.map (·.2))
  | [] => rfl
  | p :: ps => by rw [List.map_cons, List.map_cons, List.map_cons, ← Option.map_some (f := (p.2 :: ·)), ← sum_snd ps]; rfl
theorem runs_len : ∀ (ps found : List (Int × Int)), (ps.foldl runStep found).length ≤ found.length + ps.length
  | [], found => by simp
  | p :: ps, found => by
    rw [List.foldl_cons, List.length_cons]
    have := runs_len ps (runStep found p)
    have := runStep_len found p
    omega
theorem line_sum (rws : List (List Int)) (k : Int) : ((runsF (rws.map fun r => (r.getD k.toNat 0, (1 : Int)))).map (·.2)).sum = rws.length := by
  have h := runs_sum (rws.map fun r => (r.getD k.toNat 0, (1 : Int))) [] (fun p hp => by
    obtain ⟨r, _, rfl⟩ := List.mem_map.mp hp
    exact Int.zero_lt_one)
  have h2 : ∀ rws : List (List Int), sumL (rws.map fun r => (r.getD k.toNat 0, (1 : Int))) = rws.length := fun rws => by
    induction rws with
    | nil => rfl
    | cons r rws ih =>
      have : sumL ((r :: rws).map fun r => (r.getD k.toNat 0, (1 : Int))) = 1 + sumL (rws.map fun r => (r.getD k.toNat 0, (1 : Int))) := rfl
      rw [this, ih, List.length_cons]; omega
  rw [h2] at h
  have e : sumL ([] : List (Int × Int)) = 0 := rfl
  rw [e, Int.zero_add] at h
  exact h
def F_many : PFs := fun ds R => (ds = [.non] ∧ R .non) ∨ ∃ ns rws, ns ≠ [] ∧ rws.length ≤ 100000 ∧ ds = [catchD ns rws] ∧ R (.int (rws.length : Nat))
structure U_many (F : PFs) : Prop where
  non : ∀ R, R .non → F [.non] R
  some : ∀ ns rws R, ns ≠ [] → rws.length ≤ 100000 → R (.int (rws.length : Nat)) → F [catchD ns rws] R
theorem u_many : U_many F_many := ⟨fun R q => .inl ⟨rfl, q⟩, fun ns rws R h1 h2 q => .inr ⟨ns, rws, h1, h2, rfl, q⟩⟩
theorem sp_many (hZ : ArOk Z) (hY : YOk Y) : SpecP 1 3 (d_lw_many Z Y) F_many := by
  rintro _ R _ h
  rcases h with ⟨rfl, q⟩ | ⟨ns, rws, hn, hl, rfl, q⟩
  · cbv
    exact ⟨_, rfl, rfl, q⟩
  · cases ns with
    | nil => exact absurd rfl hn
    | cons n ns =>
      have e : ∃ tl, catchD (n :: ns) rws = .tup (.tup [.str n, lineF rws 0] :: tl) := by
        unfold catchD
        exact ⟨_, by rw [List.map_cons, enD]; rfl⟩
      obtain ⟨tl, e⟩ := e
      obtain ⟨ps, hps⟩ : ∃ x, runsF (rws.map fun r => (r.getD (0 : Int).toNat 0, (1 : Int))) = x := ⟨_, rfl⟩
      have e2 : lineF rws 0 = .tup (ps.map pD) := by unfold lineF; rw [hps]
      have e3 : (ps.map (·.2)).sum = rws.length := by rw [← hps]; exact line_sum rws 0
      have e4 : ps.length ≤ rws.length := by
        rw [← hps]
        have := runs_len (rws.map fun r => (r.getD (0 : Int).toNat 0, (1 : Int))) []
        simpa [runsF] using this
      have hs := sum_snd ps
      obtain ⟨pd, hpd⟩ : ∃ x, ps.map pD = x := ⟨_, rfl⟩
      have hpl : pd.length = ps.length := by rw [← hpd, List.length_map]
      rw [e, e2]
      obtain ⟨sn, hsn⟩ : ∃ x, ps.map (·.2) = x := ⟨_, rfl⟩
      rw [hsn] at e3 hs
      rw [hpd] at hs ⊢
      generalize (rws.length : Nat) = L at *
      obtain ⟨Li, hLi⟩ : ∃ x : Int, (L : Int) = x := ⟨_, rfl⟩
      rw [hLi] at e3 q
      cbv
      rw [hY.at_, atI0]
      cbv
      rw [hY.at_, atI1]
      cbv
      rw [hY.lc]
      refine lc_map (fun d => match d with | .tup [_, e] => e | _ => .non) (ds := pd) (fun d hd => ?_) (by rw [sizeLine_eq]; omega) ?_
      · rw [← hpd] at hd
        obtain ⟨p, hp, rfl⟩ := List.mem_map.mp hd
        exact ⟨_, rfl, fun K hK => hK⟩
      · obtain ⟨il, hil⟩ : ∃ x, (pd.map fun d => match d with | .tup [_, e] => e | _ => D.non) = x := ⟨_, rfl⟩
        rw [hil] at hs ⊢
        cbv
        rw [hY.iL, hs]
        cbv
        rw [hY.sum, e3]
        exact ⟨_, rfl, rfl, q⟩

/-! ### told, due -/
def OD : Option Nat → D
  | none => .non
  | some k => .int (k : Nat)
def Least (ns : List Str) (ws : List (Wi Str)) : Option Nat → Prop
  | none => ∀ r : List (List Int), (∀ x ∈ r, x ∈ lvRows ns.length) → ∀ a ∈ lvRows ns.length, hitW ns ws (a :: r) = false
  | some k => k ≤ 50001 ∧ (∃ (a : List Int) (r : List (List Int)), a ∈ lvRows ns.length ∧ (∀ x ∈ r, x ∈ lvRows ns.length) ∧ r.length + 1 = k ∧ hitW ns ws (a :: r) = true) ∧
    ∀ r' : List (List Int), (∀ x ∈ r', x ∈ lvRows ns.length) → ∀ a' ∈ lvRows ns.length, hitW ns ws (a' :: r') = true → k ≤ r'.length + 1
theorem sh_least {ns : List Str} {ws : List (Wi Str)} {R : D → Prop} (h0 : Least ns ws none → R .non)
    (h1 : ∀ (rws : List (List Int)) k, rws.length = k → k ≤ 50001 → Least ns ws (some k) → R (catchD ns rws)) : ShR ns ws R := by
  refine ⟨h0, fun a r ha hr hl hh hm => ?_⟩
  refine h1 _ (r.length + 1) (by simp) (by omega) ⟨by omega, ⟨a, r, ha, hr, rfl, hh⟩, fun r' hr' a' ha' h => ?_⟩
  have := hm r' hr' a' ha' h
  omega
def F_told (n : Nat) : PFs := fun ds R => ∃ ns w v, ShOk n ns [w, v] ∧ ds = [.lst (ns.map .str), encW w, encW v] ∧ ∀ L, Least ns [w, v] L → R (OD L)
def U_told (n : Nat) (F : PFs) : Prop := ∀ ns w v R, ShOk n ns [w, v] → (∀ L, Least ns [w, v] L → R (OD L)) → F [.lst (ns.map .str), encW w, encW v] R
theorem u_told (n : Nat) : U_told n (F_told n) := fun ns w v R h q => ⟨ns, w, v, h, rfl, q⟩
theorem ShOk.ne {n : Nat} {ns : List Str} {ws : List (Wi Str)} (ok : ShOk n ns ws) : ns ≠ [] := fun e => by
  have := ok.two
  rw [e] at this
  simp at this
theorem catchD_tup (ns : List Str) (rws : List (List Int)) : ∃ cd, catchD ns rws = .tup cd := ⟨_, rfl⟩
theorem eqn_tt {neg : Bool} {EQ : AR2} (hE : rEqN neg = EQ) {a b : List D} {h : AH} {R : AV → AH → Prop} (h1 : okD (.tup a)) (h2 : okD (.tup b)) (q : R (.dat (.bl (if neg = true then !eqD (.tup a) (.tup b) else eqD (.tup a) (.tup b)))) h) : EQ (.dat (.tup a)) (.dat (.tup b)) h R := by
  rw [← hE]
  exact ⟨h1, h2, q⟩
theorem strOk_of {x : Str} (h : ∀ c ∈ x.cps.toList, c < 0x110000) : PyData.strOk x = true := by
  unfold PyData.strOk
  rw [← Array.all_toList]
  exact List.all_eq_true.mpr fun c hc => decide_eq_true (h c hc)
theorem strOk_same : PyData.strOk (Str.ofString "same") = true := strOk_of (by decide)
theorem strOk_unlike : PyData.strOk (Str.ofString "unlike") = true := strOk_of (by decide)
theorem eqn_ll {neg : Bool} {EQ : AR2} (hE : rEqN neg = EQ) {a b : List D} {h : AH} {R : AV → AH → Prop} (h1 : okD (.lst a)) (h2 : okD (.lst b)) (q : R (.dat (.bl (if neg = true then !eqD (.lst a) (.lst b) else eqD (.lst a) (.lst b)))) h) : EQ (.dat (.lst a)) (.dat (.lst b)) h R := by
  rw [← hE]
  exact ⟨h1, h2, q⟩
theorem okN_pD (n : Nat) (p : Int × Int) : okN (n + 1) (pD p) := okN_tup fun d hd => by
  rcases List.mem_cons.mp hd with rfl | hd
  · exact okN_int _ _
  · rw [List.mem_singleton.mp hd]; exact okN_int _ _
theorem okN_pairs (n : Nat) (ps : List (Int × Int)) : okN (n + 2) (.tup (ps.map pD)) := okN_tup fun d hd => by
  obtain ⟨p, _, rfl⟩ := List.mem_map.mp hd
  exact okN_pD n p
theorem okN_catch {ns : List Str} (h : ∀ x ∈ ns, PyData.strOk x = true) (rws : List (List Int)) : okN 4 (catchD ns rws) := okN_tup fun d hd => by
  obtain ⟨e, he, rfl⟩ := List.mem_map.mp hd
  obtain ⟨i, hi⟩ := List.getElem?_of_mem he
  obtain ⟨e2, h1, rfl⟩ := enD_get hi
  rw [List.getElem?_map] at h1
  obtain ⟨n, h2, rfl⟩ := Option.map_eq_some_iff.mp h1
  refine okN_tup (n := 2) fun d hd => ?_
  rcases List.mem_cons.mp hd with rfl | hd
  · exact okN_str _ (h n (List.mem_of_getElem? h2))
  · rw [List.mem_singleton.mp hd]; exact okN_pairs 0 _
theorem okD_same : okD (.tup [.str "same"]) := okD_of (okN_tup (n := 0) fun d hd => by rw [List.mem_singleton.mp hd]; exact okN_str _ strOk_same)
theorem eq_same : eqD (.tup [.str "same"]) (.tup [.str "same"]) = true := by rw [eqD_tup, eqDs_cons, eqD_str, eqDs_nil]; decide
theorem eq_unlike (d : D) : eqD (.tup [.str "unlike", d]) (.tup [.str "same"]) = false := by
  rw [eqD_tup, eqDs_cons, eqD_str]
  have : ((Str.ofString "unlike" : Str) == (Str.ofString "same" : Str)) = false := by decide
  rw [this]; rfl
theorem sp_told {n : Nat} {F F2 : PFs} (hZ : ArOk Z) (hY : YOk Y) (U : U_wishes_alike n F) (U2 : U_many F2) : SpecP 3 4 (d_lw_told Z Y F2 F) (F_told n) := by
  rintro _ R _ ⟨ns, w, v, ok, rfl, q⟩
  obtain ⟨nd, hnd⟩ : ∃ x, ns.map D.str = x := ⟨_, rfl⟩
  obtain ⟨wd, hwd⟩ : ∃ x, encW w = x := ⟨_, rfl⟩
  obtain ⟨vd, hvd⟩ : ∃ x, encW v = x := ⟨_, rfl⟩
  have U' : ∀ R', AlR ns [w, v] R' → F [.lst nd, wd, vd] R' := fun R' h => by
    rw [← hnd, ← hwd, ← hvd]
    exact U ns w v R' ok h
  rw [hnd, hwd, hvd]
  unfold d_lw_told
  obtain ⟨EQ, hEQ⟩ : ∃ x, rEqN false = x := ⟨_, rfl⟩
  rw [hEQ]
  obtain ⟨same, hsame⟩ : ∃ x : Str, x = "same" := ⟨_, rfl⟩
  obtain ⟨unl, hunl⟩ : ∃ x : Str, x = "unlike" := ⟨_, rfl⟩
  have oks := okD_same
  have eqs := eq_same
  have equ := eq_unlike
  have U'' : ∀ R' : D → Prop, (Least ns [w, v] none → R' (.tup [.str same])) → (∀ (rws : List (List Int)) k, rws.length = k → k ≤ 50001 → Least ns [w, v] (some k) → ∀ cd, catchD ns rws = .tup cd → R' (.tup [.str unl, .tup cd])) → F [.lst nd, wd, vd] R' := fun R' h0 h1 => U' R' (by
    rw [hsame] at h0
    rw [hunl] at h1
    exact sh_least h0 fun rws k hk hk2 hl => h1 rws k hk hk2 hl _ rfl)
  rw [← hsame] at oks eqs equ ⊢
  rw [← hunl] at equ
  cbv
  refine U'' _ (fun h => ?_) fun rws k hk hk2 h cd hcd => ?_
  · have h := q _ h
    cbv
    refine eqn_tt hEQ oks oks ?_
    rw [if_neg Bool.false_ne_true, eqs]
    cbv
    exact ⟨_, rfl, rfl, h⟩
  · have h := q _ h
    have U2' := fun R' => U2.some ns rws R' ok.ne (by omega)
    have hok : okD (.tup [.str unl, .tup cd]) := okD_of (okN_tup (n := 4) fun d hd => by
      rcases List.mem_cons.mp hd with rfl | hd
      · rw [hunl]; exact okN_str _ strOk_unlike
      · rw [List.mem_singleton.mp hd, ← hcd]; exact okN_catch ok.sok rws)
    rw [hcd, hk] at U2'
    cbv
    refine eqn_tt hEQ hok oks ?_
    rw [if_neg Bool.false_ne_true, equ]
    cbv
    rw [hY.at_, atI1]
    cbv
    refine U2' _ ?_
    unfold OD at h
    generalize (k : Int) = ki at h ⊢
    cbv
    exact ⟨_, rfl, rfl, h⟩
/-- the least of two -/
def omin : Option Nat → Option Nat → Option Nat
  | none, L => L
  | L, none => L
  | some a, some b => some (min a b)
def F_due (n : Nat) : PFs := fun ds R => ∃ ns w v, ShOk n ns [.both w (.not v)] ∧ ShOk n ns [.both (.not w) v] ∧ ds = [.lst (ns.map .str), encW w, encW v] ∧ ∀ L1 L2, Least ns [.both w (.not v)] L1 → Least ns [.both (.not w) v] L2 → R (OD (omin L1 L2))
def U_due (n : Nat) (F : PFs) : Prop := ∀ ns w v R, ShOk n ns [.both w (.not v)] → ShOk n ns [.both (.not w) v] → (∀ L1 L2, Least ns [.both w (.not v)] L1 → Least ns [.both (.not w) v] L2 → R (OD (omin L1 L2))) → F [.lst (ns.map .str), encW w, encW v] R
theorem u_due (n : Nat) : U_due n (F_due n) := fun ns w v R h1 h2 q => ⟨ns, w, v, h1, h2, rfl, q⟩
theorem sp_due {n : Nat} {F F2 : PFs} (hZ : ArOk Z) (hY : YOk Y) (U : U_soonest n F) (U2 : U_many F2) : SpecP 3 6 (d_lw_due Z Y F2 F) (F_due n) := by
  rintro _ R _ ⟨ns, w, v, ok1, ok2, rfl, q⟩
  obtain ⟨nd, hnd⟩ : ∃ x, ns.map D.str = x := ⟨_, rfl⟩
  obtain ⟨wd, hwd⟩ : ∃ x, encW w = x := ⟨_, rfl⟩
  obtain ⟨vd, hvd⟩ : ∃ x, encW v = x := ⟨_, rfl⟩
  have Ua : ∀ R' : D → Prop, (Least ns [.both w (.not v)] none → R' .non) → (∀ (rws : List (List Int)) k, rws.length = k → k ≤ 50001 → Least ns [.both w (.not v)] (some k) → ∀ cd, catchD ns rws = .tup cd → R' (.tup cd)) → F [.lst nd, .tup [.str "both", wd, .tup [.str "not", vd]]] R' := fun R' h0 h1 => by
    rw [← hnd, ← hwd, ← hvd]
    exact U ns (.both w (.not v)) R' ok1 (sh_least h0 fun rws k hk hk2 hl => h1 rws k hk hk2 hl _ rfl)
  have Ub : ∀ R' : D → Prop, (Least ns [.both (.not w) v] none → R' .non) → (∀ (rws : List (List Int)) k, rws.length = k → k ≤ 50001 → Least ns [.both (.not w) v] (some k) → ∀ cd, catchD ns rws = .tup cd → R' (.tup cd)) → F [.lst nd, .tup [.str "both", .tup [.str "not", wd], vd]] R' := fun R' h0 h1 => by
    rw [← hnd, ← hwd, ← hvd]
    exact U ns (.both (.not w) v) R' ok2 (sh_least h0 fun rws k hk hk2 hl => h1 rws k hk hk2 hl _ rfl)
  rw [hnd, hwd, hvd]
  unfold d_lw_due
  obtain ⟨EQ, hEQ⟩ : ∃ x, rEqN true = x := ⟨_, rfl⟩
  rw [hEQ]
  cbv
  refine Ua _ (fun ha => ?_) fun rws k hk hk2 ha cd hcd => ?_
  · cbv
    refine Ub _ (fun hb => ?_) fun rws2 k2 hk3 hk4 hb cd2 hcd2 => ?_
    · have q := q _ _ ha hb
      cbv
      rw [hY.lc]
      cbv
      refine eqn_ll hEQ okD_lnil okD_lnil ?_
      rw [if_pos rfl, eqD_lst, eqDs_nil]
      cbv
      exact ⟨_, rfl, rfl, q⟩
    · have q := q _ _ ha hb
      have U2' := fun R' => U2.some ns rws2 R' ok1.ne (by omega)
      rw [hcd2, hk3] at U2'
      obtain ⟨ki, hki⟩ : ∃ x : Int, (k2 : Int) = x := ⟨_, rfl⟩
      rw [hki] at U2'
      have hkb : ki ≤ 1000000 := by omega
      have q : R (.int ki) := by rw [← hki]; exact q
      cbv
      rw [hY.lc]
      cbv
      refine U2' _ ?_
      cbv
      refine eqn_ll hEQ (okD_lints [ki]) okD_lnil ?_
      rw [if_pos rfl, eqD_lst, eqDs_cn]
      cbv
      rw [hY.app, hY.fit2]
      refine ⟨by rw [sizeLine_eq]; simp, ?_⟩
      rw [hY.iL]
      cbv
      intro i hi hm
      have h1 := hm ki (by simp)
      have h2 : i = ki := by
        simp only [List.mem_cons, List.not_mem_nil, or_false] at hi
        omega
      rw [h2]
      exact ⟨_, rfl, rfl, q⟩
  · cbv
    refine Ub _ (fun hb => ?_) fun rws2 k2 hk3 hk4 hb cd2 hcd2 => ?_
    · have q := q _ _ ha hb
      have U2' := fun R' => U2.some ns rws R' ok1.ne (by omega)
      rw [hcd, hk] at U2'
      obtain ⟨ki, hki⟩ : ∃ x : Int, (k : Int) = x := ⟨_, rfl⟩
      rw [hki] at U2'
      have hkb : ki ≤ 1000000 := by omega
      have q : R (.int ki) := by rw [← hki]; exact q
      cbv
      rw [hY.lc]
      cbv
      refine U2' _ ?_
      cbv
      refine eqn_ll hEQ (okD_lints [ki]) okD_lnil ?_
      rw [if_pos rfl, eqD_lst, eqDs_cn]
      cbv
      rw [hY.app, hY.fit2]
      refine ⟨by rw [sizeLine_eq]; simp, ?_⟩
      rw [hY.iL]
      cbv
      intro i hi hm
      have h1 := hm ki (by simp)
      have h2 : i = ki := by
        simp only [List.mem_cons, List.not_mem_nil, or_false] at hi
        omega
      rw [h2]
      exact ⟨_, rfl, rfl, q⟩
    · have q := q _ _ ha hb
      have U2a := fun R' => U2.some ns rws R' ok1.ne (by omega)
      have U2b := fun R' => U2.some ns rws2 R' ok1.ne (by omega)
      rw [hcd, hk] at U2a
      rw [hcd2, hk3] at U2b
      obtain ⟨ki, hki⟩ : ∃ x : Int, (k : Int) = x := ⟨_, rfl⟩
      obtain ⟨kj, hkj⟩ : ∃ x : Int, (k2 : Int) = x := ⟨_, rfl⟩
      obtain ⟨km, hkm⟩ : ∃ x : Int, ((min k k2 : Nat) : Int) = x := ⟨_, rfl⟩
      have q : R (.int km) := by rw [← hkm]; exact q
      rw [hki] at U2a
      rw [hkj] at U2b
      have hkb : km ≤ ki ∧ km ≤ kj ∧ km ≤ 1000000 ∧ (km = ki ∨ km = kj) := by omega
      cbv
      rw [hY.lc]
      cbv
      refine U2a _ ?_
      cbv
      refine U2b _ ?_
      cbv
      refine eqn_ll hEQ (okD_lints [ki, kj]) okD_lnil ?_
      rw [if_pos rfl, eqD_lst, eqDs_cn]
      cbv
      rw [hY.app, hY.fit2]
      refine ⟨by rw [sizeLine_eq]; simp, ?_⟩
      rw [hY.iL]
      cbv
      intro i hi hm
      have h1 := hm ki (by simp)
      have h3 := hm kj (by simp)
      have h2 : i = km := by
        simp only [List.mem_cons, List.not_mem_nil, or_false] at hi
        omega
      rw [h2]
      exact ⟨_, rfl, rfl, q⟩
end AL
end
section
set_option Elab.async false
set_option linter.all false
/-! S12: the least words of several wishes. -/
namespace AL
open PySem PySem.Spec PyProof.Rows L2
variable {ns : List Str}
theorem ev_not (a : Wi Str) (l : Str → Int) (r : Wd Str) : (ev (.not a) (l :: r)).1 = !(ev a (l :: r)).1 := rfl
theorem ev_both (a b : Wi Str) (l : Str → Int) (r : Wd Str) : (ev (.both a b) (l :: r)).1 = ((ev a (l :: r)).1 && (ev b (l :: r)).1) := rfl
theorem hit2 (w v : Wi Str) (a : List Int) (r : List (List Int)) : hitW ns [w, v] (a :: r) = ((ev w (wdOf ns (a :: r))).1 != (ev v (wdOf ns (a :: r))).1) := by
  have e : hitW ns [w, v] (a :: r) = decide ([b2 (ev w (wdOf ns (a :: r))).1, b2 (ev v (wdOf ns (a :: r))).1].sum = 1) := rfl
  rw [e]
  cases (ev w (wdOf ns (a :: r))).1 <;> cases (ev v (wdOf ns (a :: r))).1 <;> rfl
theorem hit1 (w : Wi Str) (a : List Int) (r : List (List Int)) : hitW ns [w] (a :: r) = (ev w (wdOf ns (a :: r))).1 := by
  have e : hitW ns [w] (a :: r) = decide ([b2 (ev w (wdOf ns (a :: r))).1].sum = 1) := rfl
  rw [e]
  cases (ev w (wdOf ns (a :: r))).1 <;> rfl
theorem hit_l (w v : Wi Str) (a : List Int) (r : List (List Int)) : hitW ns [.both w (.not v)] (a :: r) = ((ev w (wdOf ns (a :: r))).1 && !(ev v (wdOf ns (a :: r))).1) := hit1 _ a r
theorem hit_r (w v : Wi Str) (a : List Int) (r : List (List Int)) : hitW ns [.both (.not w) v] (a :: r) = (!(ev w (wdOf ns (a :: r))).1 && (ev v (wdOf ns (a :: r))).1) := hit1 _ a r
theorem least_uniq {ws vs : List (Wi Str)} {L M : Option Nat} (h : ∀ a r, hitW ns ws (a :: r) = hitW ns vs (a :: r)) (h1 : Least ns ws L) (h2 : Least ns vs M) : L = M := by
  cases L with
  | none => cases M with
    | none => rfl
    | some m =>
      obtain ⟨_, ⟨a, r, ha, hr, _, hh⟩, _⟩ := h2
      have := h1 r hr a ha
      rw [h, hh] at this
      cases this
  | some l =>
    obtain ⟨_, ⟨a, r, ha, hr, e, hh⟩, hm⟩ := h1
    cases M with
    | none =>
      have := h2 r hr a ha
      rw [← h, hh] at this
      cases this
    | some m =>
      obtain ⟨_, ⟨a2, r2, ha2, hr2, e2, hh2⟩, hm2⟩ := h2
      have h3 := hm2 r hr a ha (by rw [← h]; exact hh)
      have h4 := hm r2 hr2 a2 ha2 (by rw [h]; exact hh2)
      congr 1; omega
theorem least_min {w v : Wi Str} {L1 L2 : Option Nat} (h1 : Least ns [.both w (.not v)] L1) (h2 : Least ns [.both (.not w) v] L2) : Least ns [w, v] (omin L1 L2) := by
  have hx : ∀ a r, hitW ns [w, v] (a :: r) = (hitW ns [.both w (.not v)] (a :: r) || hitW ns [.both (.not w) v] (a :: r)) := fun a r => by
    rw [hit2, hit_l, hit_r]
    cases (ev w (wdOf ns (a :: r))).1 <;> cases (ev v (wdOf ns (a :: r))).1 <;> rfl
  cases L1 with
  | none =>
    cases L2 with
    | none => exact fun r hr a ha => by rw [hx, h1 r hr a ha, h2 r hr a ha]; rfl
    | some m =>
      obtain ⟨hb, ⟨a, r, ha, hr, e, hh⟩, hm⟩ := h2
      refine ⟨hb, ⟨a, r, ha, hr, e, by rw [hx, hh, Bool.or_true]⟩, fun r' hr' a' ha' h => ?_⟩
      rw [hx, h1 r' hr' a' ha', Bool.false_or] at h
      exact hm r' hr' a' ha' h
  | some l =>
    obtain ⟨hb, ⟨a, r, ha, hr, e, hh⟩, hm⟩ := h1
    cases L2 with
    | none =>
      refine ⟨hb, ⟨a, r, ha, hr, e, by rw [hx, hh]; rfl⟩, fun r' hr' a' ha' h => ?_⟩
      rw [hx, h2 r' hr' a' ha', Bool.or_false] at h
      exact hm r' hr' a' ha' h
    | some m =>
      obtain ⟨hb2, ⟨a2, r2, ha2, hr2, e2, hh2⟩, hm2⟩ := h2
      refine ⟨by omega, ?_, fun r' hr' a' ha' h => ?_⟩
      · rcases Nat.le_total l m with hlm | hlm
        · exact ⟨a, r, ha, hr, by omega, by rw [hx, hh]; rfl⟩
        · exact ⟨a2, r2, ha2, hr2, by omega, by rw [hx, hh2, Bool.or_true]⟩
      · rw [hx, Bool.or_eq_true] at h
        rcases h with h | h
        · have := hm r' hr' a' ha' h; omega
        · have := hm2 r' hr' a' ha' h; omega
theorem least_swap {w v : Wi Str} {L M : Option Nat} (h1 : Least ns [v, w] L) (h2 : Least ns [w, v] M) : L = M := least_uniq (fun a r => by rw [hit2, hit2, Bool.eq_iff_iff]; cases (ev w (wdOf ns (a :: r))).1 <;> cases (ev v (wdOf ns (a :: r))).1 <;> decide) h1 h2
theorem least_nots {w v : Wi Str} {L M : Option Nat} (h1 : Least ns [.not w, .not v] L) (h2 : Least ns [w, v] M) : L = M := least_uniq (fun a r => by
  rw [hit2, hit2]
  show ((!(ev w (wdOf ns (a :: r))).1) != (!(ev v (wdOf ns (a :: r))).1)) = _
  cases (ev w (wdOf ns (a :: r))).1 <;> cases (ev v (wdOf ns (a :: r))).1 <;> rfl) h1 h2
theorem least_self {w : Wi Str} {L : Option Nat} (h1 : Least ns [w, w] L) : L = none := by
  cases L with
  | none => rfl
  | some l =>
    obtain ⟨hb, ⟨a, r, ha, hr, e, hh⟩, hm⟩ := h1
    rw [hit2] at hh
    cases h : (ev w (wdOf ns (a :: r))).1 <;> rw [h] at hh <;> cases hh
theorem least_same {w v : Wi Str} (h : Least ns [w, v] none) : ∀ r : List (List Int), (∀ x ∈ r, x ∈ lvRows ns.length) → ∀ a ∈ lvRows ns.length, (ev w (wdOf ns (a :: r))).1 = (ev v (wdOf ns (a :: r))).1 := fun r hr a ha => by
  have := h r hr a ha
  rw [hit2] at this
  cases h1 : (ev w (wdOf ns (a :: r))).1 <;> cases h2 : (ev v (wdOf ns (a :: r))).1 <;> rw [h1, h2] at this <;> first | rfl | cases this
end AL
end
section
set_option Elab.async false
set_option linter.all false
/-! M3: spans in order, apart. -/
namespace AL
abbrev Sp := List (Int × Int)
def inS (t : Int) (xs : Sp) : Prop := ∃ p ∈ xs, p.1 ≤ t ∧ t < p.2
structure Canon (xs : Sp) : Prop where
  lt : ∀ p ∈ xs, p.1 < p.2
  sep : xs.Pairwise fun p q => p.2 < q.1
theorem inS_nil {t : Int} : ¬ inS t [] := fun ⟨p, h, _⟩ => by cases h
theorem inS_cons {t : Int} {p : Int × Int} {xs : Sp} : inS t (p :: xs) ↔ (p.1 ≤ t ∧ t < p.2) ∨ inS t xs := by
  unfold inS
  constructor
  · rintro ⟨q, h, h2⟩
    rcases List.mem_cons.mp h with rfl | h
    · exact .inl h2
    · exact .inr ⟨q, h, h2⟩
  · rintro (h | ⟨q, h, h2⟩)
    · exact ⟨p, List.mem_cons_self, h⟩
    · exact ⟨q, List.mem_cons_of_mem _ h, h2⟩
theorem inS_append {t : Int} {xs ys : Sp} : inS t (xs ++ ys) ↔ inS t xs ∨ inS t ys := by
  unfold inS
  constructor
  · rintro ⟨q, h, h2⟩
    rcases List.mem_append.mp h with h | h
    · exact .inl ⟨q, h, h2⟩
    · exact .inr ⟨q, h, h2⟩
  · rintro (⟨q, h, h2⟩ | ⟨q, h, h2⟩)
    · exact ⟨q, List.mem_append_left _ h, h2⟩
    · exact ⟨q, List.mem_append_right _ h, h2⟩
theorem inS_one {t : Int} {p : Int × Int} : inS t [p] ↔ p.1 ≤ t ∧ t < p.2 := by
  rw [inS_cons]; exact ⟨fun h => h.resolve_right inS_nil, .inl⟩
theorem Canon.nil : Canon [] := ⟨fun p h => (by cases h), List.Pairwise.nil⟩
theorem Canon.one {p : Int × Int} (h : p.1 < p.2) : Canon [p] := ⟨fun q hq => by rw [List.mem_singleton.mp hq]; exact h, by simp⟩
theorem Canon.tail {p : Int × Int} {xs : Sp} (c : Canon (p :: xs)) : Canon xs := ⟨fun q h => c.lt q (List.mem_cons_of_mem _ h), (List.pairwise_cons.mp c.sep).2⟩
theorem Canon.head {p : Int × Int} {xs : Sp} (c : Canon (p :: xs)) : ∀ q ∈ xs, p.2 < q.1 := (List.pairwise_cons.mp c.sep).1
theorem Canon.cons {p : Int × Int} {xs : Sp} (h : p.1 < p.2) (h2 : ∀ q ∈ xs, p.2 < q.1) (c : Canon xs) : Canon (p :: xs) := ⟨fun q hq => by
  rcases List.mem_cons.mp hq with rfl | hq
  · exact h
  · exact c.lt q hq, List.pairwise_cons.mpr ⟨h2, c.sep⟩⟩
theorem Canon.past {p : Int × Int} {xs : Sp} (c : Canon (p :: xs)) {t : Int} (h : inS t xs) : p.2 < t := by
  obtain ⟨q, hq, h1, h2⟩ := h
  have := c.head q hq
  omega
theorem canon_uniq : ∀ {xs ys : Sp}, Canon xs → Canon ys → (∀ t, inS t xs ↔ inS t ys) → xs = ys
  | [], [], _, _, _ => rfl
  | [], q :: ys, _, d, h => absurd ((h q.1).mpr (inS_cons.mpr (.inl ⟨by omega, d.lt q List.mem_cons_self⟩))) inS_nil
  | p :: xs, [], c, _, h => absurd ((h p.1).mp (inS_cons.mpr (.inl ⟨by omega, c.lt p List.mem_cons_self⟩))) inS_nil
  | p :: xs, q :: ys, c, d, h => by
    have hp := c.lt p List.mem_cons_self
    have hq := d.lt q List.mem_cons_self
    have e1 : p.1 = q.1 := by
      have h1 := inS_cons.mp ((h p.1).mp (inS_cons.mpr (.inl ⟨by omega, hp⟩)))
      have h2 := inS_cons.mp ((h q.1).mpr (inS_cons.mpr (.inl ⟨by omega, hq⟩)))
      rcases h1 with h1 | h1 <;> rcases h2 with h2 | h2
      · omega
      · have := c.past h2; omega
      · have := d.past h1; omega
      · have := c.past h2; have := d.past h1; omega
    have e2 : p.2 = q.2 := by
      rcases Int.lt_trichotomy p.2 q.2 with hl | hl | hl
      · have h1 := inS_cons.mp ((h p.2).mpr (inS_cons.mpr (.inl ⟨by omega, hl⟩)))
        rcases h1 with h1 | h1
        · omega
        · have := c.past h1; omega
      · exact hl
      · have h1 := inS_cons.mp ((h q.2).mp (inS_cons.mpr (.inl ⟨by omega, hl⟩)))
        rcases h1 with h1 | h1
        · omega
        · have := d.past h1; omega
    have e : p = q := Prod.ext e1 e2
    subst e
    congr 1
    refine canon_uniq c.tail d.tail fun t => ⟨fun ht => ?_, fun ht => ?_⟩
    · rcases inS_cons.mp ((h t).mp (inS_cons.mpr (.inr ht))) with h1 | h1
      · have := c.past ht; omega
      · exact h1
    · rcases inS_cons.mp ((h t).mpr (inS_cons.mpr (.inr ht))) with h1 | h1
      · have := d.past ht; omega
      · exact h1
/-- what is all within lies in one span -/
theorem canon_run {xs : Sp} (c : Canon xs) {s : Int} (n : Nat) : (∀ i : Int, s ≤ i → i ≤ s + n → inS i xs) → ∃ p ∈ xs, p.1 ≤ s ∧ s + n < p.2 := by
  induction n with
  | zero =>
    intro h
    obtain ⟨p, hp, h1, h2⟩ := h s (by omega) (by omega)
    exact ⟨p, hp, h1, by omega⟩
  | succ n ih =>
    intro h
    obtain ⟨p, hp, h1, h2⟩ := ih fun i h1 h2 => h i h1 (by omega)
    refine ⟨p, hp, h1, ?_⟩
    rcases Int.lt_or_le (s + (n + 1 : Nat)) p.2 with h3 | h3
    · exact h3
    · exfalso
      have e : s + (n + 1 : Nat) = p.2 := by omega
      obtain ⟨q, hq, h4, h5⟩ := h (s + (n + 1 : Nat)) (by omega) (by omega)
      have h6 : ∀ {xs : Sp}, Canon xs → p ∈ xs → q ∈ xs → q.1 ≤ p.2 → p.2 < q.2 → False := by
        intro xs c
        induction xs with
        | nil => intro h; cases h
        | cons a xs ih =>
          intro hp hq h1 h2
          rcases List.mem_cons.mp hp with rfl | hp' <;> rcases List.mem_cons.mp hq with rfl | hq'
          · omega
          · have := c.head q hq'; omega
          · have := c.head p hp'
            have := c.tail.lt p hp'
            omega
          · exact ih c.tail hp' hq' h1 h2
      exact h6 c hp hq (by omega) (by omega)
/-- so many spans at most -/
theorem canon_len : ∀ {xs : Sp} {lo hi : Int}, Canon xs → (∀ p ∈ xs, lo ≤ p.1 ∧ p.2 ≤ hi) → lo ≤ hi → (xs.length : Int) ≤ hi - lo
  | [], lo, hi, _, _, h => by simp; omega
  | p :: xs, lo, hi, c, hb, h => by
    have h1 := hb p List.mem_cons_self
    have h2 := c.lt p List.mem_cons_self
    have := canon_len (lo := p.2) (hi := hi) c.tail (fun q hq => ⟨by have := c.head q hq; omega, (hb q (List.mem_cons_of_mem _ hq)).2⟩) h1.2
    rw [List.length_cons]
    omega
theorem canon_bounds {xs : Sp} (c : Canon xs) {lo hi : Int} (h : ∀ t, inS t xs → lo ≤ t ∧ t < hi) : ∀ p ∈ xs, lo ≤ p.1 ∧ p.2 ≤ hi := fun p hp => by
  have h0 := c.lt p hp
  have h1 := h p.1 ⟨p, hp, by omega, by omega⟩
  have h2 := h (p.2 - 1) ⟨p, hp, by omega, by omega⟩
  omega

/-! ### merging -/
def mergeStep (found : Sp) (p : Int × Int) : Sp := match found.getLast? with
  | some q => if p.1 ≤ q.2 then found.dropLast ++ [(q.1, max q.2 p.2)] else found ++ [p]
  | none => found ++ [p]
theorem mergeStep_len (found : Sp) (p : Int × Int) : (mergeStep found p).length ≤ found.length + 1 := by
  unfold mergeStep
  split
  · split <;> simp
  · simp
theorem mergeStep_ne (found : Sp) (p : Int × Int) : mergeStep found p ≠ [] := by
  unfold mergeStep
  split
  · split <;> simp
  · simp
structure MergeI (found done rest : Sp) : Prop where
  c : Canon found
  m : ∀ t, inS t found ↔ inS t done
  s : ∀ q ∈ found, ∀ p ∈ rest, q.1 ≤ p.1
theorem MergeI.step {found done rest : Sp} {p : Int × Int} (i : MergeI found done (p :: rest)) (hp : p.1 < p.2) (hr : ∀ q ∈ rest, p.1 ≤ q.1) : MergeI (mergeStep found p) (done ++ [p]) rest := by
  unfold mergeStep
  cases hq : found.getLast? with
  | none =>
    rw [List.getLast?_eq_none_iff] at hq
    subst hq
    refine ⟨Canon.one hp, fun t => ?_, fun q hq r hr2 => ?_⟩
    · rw [List.nil_append, inS_append, ← i.m]
      exact ⟨.inr, fun h => h.resolve_left inS_nil⟩
    · rw [List.mem_singleton.mp hq]; exact hr r hr2
  | some q =>
    obtain ⟨ini, rfl⟩ := List.getLast?_eq_some_iff.mp hq
    have hs := List.pairwise_append.mp i.c.sep
    have hq1 := i.c.lt q (by simp)
    have hqp := i.s q (by simp) p List.mem_cons_self
    simp only
    split
    · rename_i hle
      rw [List.dropLast_concat]
      refine ⟨⟨fun r hr => ?_, ?_⟩, fun t => ?_, fun r hr2 v hv => ?_⟩
      · rcases List.mem_append.mp hr with hr | hr
        · exact i.c.lt r (List.mem_append_left _ hr)
        · rw [List.mem_singleton.mp hr]; show q.1 < max q.2 p.2; omega
      · refine List.pairwise_append.mpr ⟨hs.1, by simp, fun a ha b hb => ?_⟩
        rw [List.mem_singleton.mp hb]
        exact hs.2.2 a ha q (by simp)
      · rw [inS_append, inS_append, ← i.m, inS_append, inS_one, inS_one, inS_one]
        constructor
        · rintro (h | ⟨h1, h2⟩)
          · exact .inl (.inl h)
          · rcases Int.lt_or_le t q.2 with h3 | h3
            · exact .inl (.inr ⟨h1, h3⟩)
            · exact .inr ⟨by omega, by simp only at h2; omega⟩
        · rintro ((h | ⟨h1, h2⟩) | ⟨h1, h2⟩)
          · exact .inl h
          · exact .inr ⟨h1, by show t < max q.2 p.2; omega⟩
          · exact .inr ⟨by show q.1 ≤ t; omega, by show t < max q.2 p.2; omega⟩
      · rcases List.mem_append.mp hr2 with hr2 | hr2
        · exact i.s r (List.mem_append_left _ hr2) v (List.mem_cons_of_mem _ hv)
        · rw [List.mem_singleton.mp hr2]; have := hr v hv; show q.1 ≤ v.1; omega
    · rename_i hle
      refine ⟨⟨fun r hr => ?_, ?_⟩, fun t => ?_, fun r hr2 v hv => ?_⟩
      · rcases List.mem_append.mp hr with hr | hr
        · exact i.c.lt r hr
        · rw [List.mem_singleton.mp hr]; exact hp
      · refine List.pairwise_append.mpr ⟨i.c.sep, by simp, fun a ha b hb => ?_⟩
        rw [List.mem_singleton.mp hb]
        rcases List.mem_append.mp ha with ha | ha
        · have := hs.2.2 a ha q (by simp); omega
        · rw [List.mem_singleton.mp ha]; omega
      · rw [inS_append, inS_append (ys := [p]), ← i.m]
      · rcases List.mem_append.mp hr2 with hr2 | hr2
        · exact i.s r hr2 v (List.mem_cons_of_mem _ hv)
        · rw [List.mem_singleton.mp hr2]; exact hr v hv
theorem MergeI.start {rest : Sp} : MergeI [] [] rest := ⟨Canon.nil, fun t => Iff.rfl, fun q hq => by cases hq⟩

/-! ### both -/
def bothF : Nat → Sp → Sp → Sp
  | 0, _, _ => []
  | _, [], _ => []
  | _, _, [] => []
  | n + 1, p :: xs, q :: ys => (if max p.1 q.1 < min p.2 q.2 then [(max p.1 q.1, min p.2 q.2)] else []) ++ if p.2 ≤ q.2 then bothF n xs (q :: ys) else bothF n (p :: xs) ys
theorem bothF_in : ∀ (n : Nat) (xs ys : Sp), ∀ r ∈ bothF n xs ys, r.1 < r.2 ∧ (∃ p ∈ xs, p.1 ≤ r.1 ∧ r.2 ≤ p.2) ∧ (∃ q ∈ ys, q.1 ≤ r.1 ∧ r.2 ≤ q.2)
  | 0, xs, ys, r, h => by unfold bothF at h; cases h
  | n + 1, [], ys, r, h => by unfold bothF at h; cases h
  | n + 1, p :: xs, [], r, h => by unfold bothF at h; cases h
  | n + 1, p :: xs, q :: ys, r, h => by
    unfold bothF at h
    rcases List.mem_append.mp h with h | h
    · split at h
      · rename_i hlt
        rw [List.mem_singleton.mp h]
        exact ⟨hlt, ⟨p, List.mem_cons_self, by show p.1 ≤ max p.1 q.1; omega, by show min p.2 q.2 ≤ p.2; omega⟩, ⟨q, List.mem_cons_self, by show q.1 ≤ max p.1 q.1; omega, by show min p.2 q.2 ≤ q.2; omega⟩⟩
      · cases h
    · split at h
      · obtain ⟨h1, ⟨a, ha, h2⟩, h3⟩ := bothF_in n xs (q :: ys) r h
        exact ⟨h1, ⟨a, List.mem_cons_of_mem _ ha, h2⟩, h3⟩
      · obtain ⟨h1, h2, ⟨a, ha, h3⟩⟩ := bothF_in n (p :: xs) ys r h
        exact ⟨h1, h2, ⟨a, List.mem_cons_of_mem _ ha, h3⟩⟩
theorem bothF_canon : ∀ (n : Nat) (xs ys : Sp), Canon xs → Canon ys → Canon (bothF n xs ys)
  | 0, xs, ys, _, _ => by unfold bothF; exact Canon.nil
  | n + 1, [], ys, _, _ => by unfold bothF; exact Canon.nil
  | n + 1, p :: xs, [], _, _ => by unfold bothF; exact Canon.nil
  | n + 1, p :: xs, q :: ys, c, d => by
    have key : ∀ rest : Sp, Canon rest → (∀ r ∈ rest, min p.2 q.2 < r.1) → Canon ((if max p.1 q.1 < min p.2 q.2 then [(max p.1 q.1, min p.2 q.2)] else []) ++ rest) := fun rest hc hr => by
      split
      · rename_i h
        exact Canon.cons h hr hc
      · exact hc
    unfold bothF
    refine key _ ?_ fun r hr => ?_
    · split
      · exact bothF_canon n xs (q :: ys) c.tail d
      · exact bothF_canon n (p :: xs) ys c d.tail
    · split at hr
      · obtain ⟨h1, ⟨a, ha, h2⟩, h3⟩ := bothF_in n xs (q :: ys) r hr
        have := c.head a ha
        omega
      · obtain ⟨h1, h2, ⟨a, ha, h3⟩⟩ := bothF_in n (p :: xs) ys r hr
        have := d.head a ha
        omega
theorem bothF_mem : ∀ (n : Nat) (xs ys : Sp), Canon xs → Canon ys → xs.length + ys.length ≤ n → ∀ t, inS t (bothF n xs ys) ↔ inS t xs ∧ inS t ys
  | 0, xs, ys, _, _, h, t => by
    have : xs = [] := List.eq_nil_of_length_eq_zero (by omega)
    subst this
    unfold bothF
    exact ⟨fun h => absurd h inS_nil, fun h => h.1⟩
  | n + 1, [], ys, _, _, h, t => by
    unfold bothF
    exact ⟨fun h => absurd h inS_nil, fun h => h.1⟩
  | n + 1, p :: xs, [], _, _, h, t => by
    unfold bothF
    exact ⟨fun h => absurd h inS_nil, fun h => h.2⟩
  | n + 1, p :: xs, q :: ys, c, d, h, t => by
    rw [List.length_cons, List.length_cons] at h
    have hone : inS t (if max p.1 q.1 < min p.2 q.2 then [(max p.1 q.1, min p.2 q.2)] else []) ↔ (p.1 ≤ t ∧ t < p.2) ∧ q.1 ≤ t ∧ t < q.2 := by
      split
      · rw [inS_one]; show max p.1 q.1 ≤ t ∧ t < min p.2 q.2 ↔ _; omega
      · exact ⟨fun h => absurd h inS_nil, fun h => by omega⟩
    unfold bothF
    rw [inS_append, hone, inS_cons, inS_cons]
    split
    · rename_i hle
      rw [bothF_mem n xs (q :: ys) c.tail d (by rw [List.length_cons]; omega) t, inS_cons]
      constructor
      · rintro (⟨h1, h2⟩ | ⟨h1, h2⟩)
        · exact ⟨.inl h1, .inl h2⟩
        · exact ⟨.inr h1, h2⟩
      · rintro ⟨h1 | h1, h2 | h2⟩
        · exact .inl ⟨h1, h2⟩
        · have := d.past h2; omega
        · exact .inr ⟨h1, .inl h2⟩
        · exact .inr ⟨h1, .inr h2⟩
    · rename_i hle
      rw [bothF_mem n (p :: xs) ys c d.tail (by rw [List.length_cons]; omega) t, inS_cons]
      constructor
      · rintro (⟨h1, h2⟩ | ⟨h1, h2⟩)
        · exact ⟨.inl h1, .inl h2⟩
        · exact ⟨h1, .inr h2⟩
      · rintro ⟨h1 | h1, h2 | h2⟩
        · exact .inl ⟨h1, h2⟩
        · exact .inr ⟨.inl h1, h2⟩
        · have := c.past h1; omega
        · exact .inr ⟨.inr h1, h2⟩

/-! ### the others -/
def othersF (T : Int) : Int → Sp → Sp
  | b, [] => if b < min T T then [(b, min T T)] else []
  | b, p :: xs => (if b < min p.1 T then [(b, min p.1 T)] else []) ++ othersF T p.2 xs
theorem othersF_from {T : Int} : ∀ {xs : Sp} {b : Int}, Canon xs → (∀ p ∈ xs, b ≤ p.1) → Canon (othersF T b xs) ∧ (∀ r ∈ othersF T b xs, b ≤ r.1) ∧ ((∀ p ∈ xs, p.2 ≤ T) → ∀ t, inS t (othersF T b xs) ↔ b ≤ t ∧ t < T ∧ ¬ inS t xs)
  | [], b, _, _ => by
    unfold othersF
    refine ⟨?_, ?_, fun _ t => ?_⟩
    · split
      · rename_i h; exact Canon.one h
      · exact Canon.nil
    · intro r hr
      split at hr
      · rw [List.mem_singleton.mp hr]; show b ≤ b; omega
      · cases hr
    · split
      · rw [inS_one]
        show b ≤ t ∧ t < min T T ↔ _
        have := inS_nil (t := t)
        constructor
        · rintro ⟨h1, h2⟩; exact ⟨h1, by omega, this⟩
        · rintro ⟨h1, h2, _⟩; exact ⟨h1, by omega⟩
      · exact ⟨fun h => absurd h inS_nil, fun ⟨h1, h2, _⟩ => by omega⟩
  | p :: xs, b, c, hb => by
    have hp := c.lt p List.mem_cons_self
    have hb1 := hb p List.mem_cons_self
    obtain ⟨i1, i2, i3⟩ := othersF_from (T := T) (b := p.2) c.tail fun q hq => by have := c.head q hq; omega
    unfold othersF
    refine ⟨?_, ?_, fun hT t => ?_⟩
    · split
      · rename_i h
        refine Canon.cons h (fun q hq => ?_) i1
        have := i2 q hq
        show min p.1 T < q.1
        omega
      · exact i1
    · intro r hr
      rcases List.mem_append.mp hr with hr | hr
      · split at hr
        · rw [List.mem_singleton.mp hr]; show b ≤ b; omega
        · cases hr
      · have := i2 r hr; omega
    · have hT1 := hT p List.mem_cons_self
      rw [inS_append, i3 (fun q hq => hT q (List.mem_cons_of_mem _ hq)) t, inS_cons]
      have hone : inS t (if b < min p.1 T then [(b, min p.1 T)] else []) ↔ b ≤ t ∧ t < min p.1 T := by
        split
        · rw [inS_one]
        · exact ⟨fun h => absurd h inS_nil, fun h => by omega⟩
      rw [hone]
      constructor
      · rintro (⟨h1, h2⟩ | ⟨h1, h2, h3⟩)
        · refine ⟨h1, by omega, ?_⟩
          rintro (h4 | h4)
          · omega
          · have := c.past h4; omega
        · refine ⟨by omega, h2, ?_⟩
          rintro (h4 | h4)
          · omega
          · exact h3 h4
      · rintro ⟨h1, h2, h3⟩
        rcases Int.lt_or_le t p.1 with h4 | h4
        · exact .inl ⟨h1, by omega⟩
        · refine .inr ⟨?_, h2, fun h5 => h3 (.inr h5)⟩
          rcases Int.lt_or_le t p.2 with h5 | h5
          · exact absurd (.inl ⟨h4, h5⟩) h3
          · exact h5

/-! ### shifted, worn -/
theorem later_canon {xs : Sp} (n : Int) (c : Canon xs) : Canon (xs.map fun p => (p.1 + n, p.2 + n)) := by
  refine ⟨fun p hp => ?_, ?_⟩
  · obtain ⟨q, hq, rfl⟩ := List.mem_map.mp hp
    have := c.lt q hq
    show q.1 + n < q.2 + n
    omega
  · rw [List.pairwise_map]
    exact c.sep.imp fun h => by show _ + n < _ + n; omega
theorem later_mem {xs : Sp} (n : Int) (t : Int) : inS t (xs.map fun p => (p.1 + n, p.2 + n)) ↔ inS (t - n) xs := by
  constructor
  · rintro ⟨p, hp, h1, h2⟩
    obtain ⟨q, hq, rfl⟩ := List.mem_map.mp hp
    exact ⟨q, hq, by simp only at h1; omega, by simp only at h2; omega⟩
  · rintro ⟨p, hp, h1, h2⟩
    exact ⟨_, List.mem_map.mpr ⟨p, hp, rfl⟩, by simp only; omega, by simp only; omega⟩
theorem grown_mem {xs : Sp} (n : Int) (h0 : 0 ≤ n) (c : Canon xs) (t : Int) : inS t (xs.map fun p => (p.1, p.2 + n)) ↔ ∃ j, t - n ≤ j ∧ j ≤ t ∧ inS j xs := by
  constructor
  · rintro ⟨p, hp, h1, h2⟩
    obtain ⟨q, hq, rfl⟩ := List.mem_map.mp hp
    simp only at h1 h2
    have := c.lt q hq
    refine ⟨max (t - n) q.1, by omega, by omega, q, hq, by omega, by omega⟩
  · rintro ⟨j, h1, h2, q, hq, h3, h4⟩
    exact ⟨_, List.mem_map.mpr ⟨q, hq, rfl⟩, by simp only; omega, by simp only; omega⟩
theorem worn_canon {xs : Sp} (n : Int) (h0 : 0 ≤ n) (c : Canon xs) : Canon ((xs.filter fun p => decide (p.1 + n < p.2)).map fun p => (p.1 + n, p.2)) := by
  refine ⟨fun p hp => ?_, ?_⟩
  · obtain ⟨q, hq, rfl⟩ := List.mem_map.mp hp
    exact of_decide_eq_true (List.mem_filter.mp hq).2
  · rw [List.pairwise_map]
    exact (c.sep.filter _).imp fun h => by show _ < _ + n; omega
theorem worn_mem {xs : Sp} (n : Int) (h0 : 0 ≤ n) (c : Canon xs) (t : Int) : inS t ((xs.filter fun p => decide (p.1 + n < p.2)).map fun p => (p.1 + n, p.2)) ↔ ∀ j, t - n ≤ j → j ≤ t → inS j xs := by
  constructor
  · rintro ⟨p, hp, h1, h2⟩ j h3 h4
    obtain ⟨q, hq, rfl⟩ := List.mem_map.mp hp
    simp only at h1 h2
    exact ⟨q, (List.mem_filter.mp hq).1, by omega, by omega⟩
  · intro h
    obtain ⟨p, hp, h1, h2⟩ := canon_run c (s := t - n) n.toNat fun i h1 h2 => h i h1 (by omega)
    refine ⟨_, List.mem_map.mpr ⟨p, List.mem_filter.mpr ⟨hp, decide_eq_true (by omega)⟩, rfl⟩, by simp only; omega, by simp only; omega⟩
/-- since -/
theorem since_mem {xs ys : Sp} (c : Canon xs) (t : Int) : (∃ j, j ≤ t ∧ inS j ys ∧ ∀ i, j < i → i ≤ t → inS i xs) ↔ inS t ys ∨ ∃ p ∈ xs, p.1 ≤ t ∧ t < p.2 ∧ ∃ j, inS j ys ∧ p.1 - 1 ≤ j ∧ j ≤ t := by
  constructor
  · rintro ⟨j, h1, h2, h3⟩
    rcases Int.lt_or_le j t with h4 | h4
    · obtain ⟨p, hp, h5, h6⟩ := canon_run c (s := j + 1) (t - j - 1).toNat fun i h5 h6 => h3 i (by omega) (by omega)
      exact .inr ⟨p, hp, by omega, by omega, j, h2, by omega, h1⟩
    · have : j = t := by omega
      subst this
      exact .inl h2
  · rintro (h | ⟨p, hp, h1, h2, j, h3, h4, h5⟩)
    · exact ⟨t, by omega, h, fun i h1 h2 => by omega⟩
    · exact ⟨j, h5, h3, fun i h6 h7 => ⟨p, hp, by omega, by omega⟩⟩
end AL
end
section
set_option Elab.async false
set_option linter.all false
/-! M4: the value of a wish at a moment. -/
namespace AL
variable {α : Type} (L : Nat → α → Int)
def hist : Nat → Wd α
  | 0 => []
  | n + 1 => L n :: hist n
def val (w : Wi α) (t : Nat) : Bool := (ev w (hist L (t + 1))).1
def own (w : Wi α) (t : Nat) : List Int := (ev w (hist L t)).2
variable {L}
theorem own_0 (w : Wi α) : own L w 0 = [] := by unfold own hist; rw [ev_nil]
theorem own_s (w : Wi α) (t : Nat) : own L w (t + 1) = (stepO w (own L w t) (w.parts.map fun p => val L p t) (L t)).2 := by
  unfold own val
  rw [hist, ev_cons]
theorem val_s (w : Wi α) (t : Nat) : val L w t = (stepO w (own L w t) (w.parts.map fun p => val L p t) (L t)).1 := by
  unfold own val
  rw [hist, ev_cons]
theorem val_yes (t : Nat) : val L .yes t = true := by rw [val_s]; rfl
theorem val_high (x : α) (t : Nat) : val L (.high x) t = true ↔ L t x = 1 := by rw [val_s]; exact decide_eq_true_iff
theorem val_low (x : α) (t : Nat) : val L (.low x) t = true ↔ L t x = 0 := by rw [val_s]; exact decide_eq_true_iff
theorem val_not (a : Wi α) (t : Nat) : val L (.not a) t = !(val L a t) := by rw [val_s]; rfl
theorem val_both (a b : Wi α) (t : Nat) : val L (.both a b) t = (val L a t && val L b t) := by rw [val_s]; rfl
theorem val_either (a b : Wi α) (t : Nat) : val L (.either a b) t = (val L a t || val L b t) := by rw [val_s]; rfl
theorem val_rise (x : α) (t : Nat) : val L (.rise x) t = true ↔ ∃ s, t = s + 1 ∧ L s x = 0 ∧ L t x = 1 := by
  cases t with
  | zero =>
    rw [val_s, own_0]
    exact ⟨fun h => (by cases h), fun ⟨s, h, _⟩ => (by cases h)⟩
  | succ s =>
    have e : own L (.rise x) (s + 1) = [L s x] := by rw [own_s]; rfl
    rw [val_s, e]
    show (decide ([L s x] = [0]) && decide (L (s + 1) x = 1)) = true ↔ _
    rw [Bool.and_eq_true, decide_eq_true_iff, decide_eq_true_iff, List.cons.injEq]
    constructor
    · rintro ⟨⟨h1, _⟩, h2⟩; exact ⟨s, rfl, h1, h2⟩
    · rintro ⟨s', e2, h1, h2⟩
      have : s' = s := by omega
      subst this
      exact ⟨⟨h1, rfl⟩, h2⟩
theorem val_fall (x : α) (t : Nat) : val L (.fall x) t = true ↔ ∃ s, t = s + 1 ∧ L s x = 1 ∧ L t x = 0 := by
  cases t with
  | zero =>
    rw [val_s, own_0]
    exact ⟨fun h => (by cases h), fun ⟨s, h, _⟩ => (by cases h)⟩
  | succ s =>
    have e : own L (.fall x) (s + 1) = [L s x] := by rw [own_s]; rfl
    rw [val_s, e]
    show (decide ([L s x] = [1]) && decide (L (s + 1) x = 0)) = true ↔ _
    rw [Bool.and_eq_true, decide_eq_true_iff, decide_eq_true_iff, List.cons.injEq]
    constructor
    · rintro ⟨⟨h1, _⟩, h2⟩; exact ⟨s, rfl, h1, h2⟩
    · rintro ⟨s', e2, h1, h2⟩
      have : s' = s := by omega
      subst this
      exact ⟨⟨h1, rfl⟩, h2⟩
theorem val_since (a b : Wi α) (t : Nat) : val L (.since a b) t = true ↔ ∃ j, j ≤ t ∧ val L b j = true ∧ ∀ i, j < i → i ≤ t → val L a i = true := by
  induction t with
  | zero =>
    have e : val L (.since a b) 0 = (val L b 0 || (decide (([] : List Int) = [1]) && val L a 0)) := by rw [val_s, own_0]; rfl
    rw [e]
    constructor
    · intro h
      have h : val L b 0 = true := by simpa using h
      exact ⟨0, Nat.le_refl _, h, fun i h1 h2 => by omega⟩
    · rintro ⟨j, h1, h2, _⟩
      have : j = 0 := by omega
      subst this
      rw [h2]; rfl
  | succ t ih =>
    have e1 : own L (.since a b) (t + 1) = [b2 (val L (.since a b) t)] := by rw [own_s, val_s]; rfl
    have e : val L (.since a b) (t + 1) = (val L b (t + 1) || (decide ([b2 (val L (.since a b) t)] = [1]) && val L a (t + 1))) := by rw [val_s, e1]; rfl
    have e2 : decide ([b2 (val L (.since a b) t)] = [1]) = val L (.since a b) t := by cases val L (.since a b) t <;> rfl
    rw [e, e2, Bool.or_eq_true, Bool.and_eq_true, ih]
    constructor
    · rintro (h | ⟨⟨j, h1, h2, h3⟩, h4⟩)
      · exact ⟨t + 1, Nat.le_refl _, h, fun i h1 h2 => by omega⟩
      · refine ⟨j, by omega, h2, fun i h5 h6 => ?_⟩
        rcases Nat.lt_or_ge t i with h7 | h7
        · have : i = t + 1 := by omega
          subst this
          exact h4
        · exact h3 i h5 h7
    · rintro ⟨j, h1, h2, h3⟩
      rcases Nat.lt_or_ge t j with h7 | h7
      · have : j = t + 1 := by omega
        subst this
        exact .inl h2
      · exact .inr ⟨⟨j, h7, h2, fun i h5 h6 => h3 i h5 (by omega)⟩, h3 (t + 1) (by omega) (Nat.le_refl _)⟩
/-! ### ago, within -/
def sq (f : Nat → Int) (t : Nat) : List Int := (List.range t).map f
theorem sq_s (f : Nat → Int) (t : Nat) : sq f (t + 1) = sq f t ++ [f t] := by unfold sq; rw [List.range_succ, List.map_append]; rfl
theorem sq_len (f : Nat → Int) (t : Nat) : (sq f t).length = t := by simp [sq]
theorem last_last {β : Type} (xs : List β) {n m : Nat} (h : n ≤ m) : lastOf (lastOf xs m) n = lastOf xs n := by
  unfold lastOf
  rw [List.drop_drop, List.length_drop]
  congr 1
  omega
theorem last_app (f : Nat → Int) (t n : Nat) : lastOf (lastOf (sq f t) n ++ [f t]) (n + 1) = lastOf (sq f (t + 1)) (n + 1) := by
  rw [sq_s]
  unfold lastOf
  rw [List.length_append, List.length_append, List.length_drop, sq_len, List.length_singleton]
  have h1 : t - (t - n) + 1 - (n + 1) = 0 := by omega
  have h2 : t + 1 - (n + 1) = t - n := by omega
  rw [h1, h2, List.drop_zero, List.drop_append_of_le_length (by rw [sq_len]; omega)]
theorem own_row {w : Wi α} {n : Nat} {f : Nat → Int} (h : ∀ t, own L w (t + 1) = lastOf (lastOf (own L w t ++ [f t]) (n + 1)) n) (t : Nat) : own L w t = lastOf (sq f t) n := by
  induction t with
  | zero => rw [own_0]; simp [lastOf, sq]
  | succ t ih => rw [h, ih, last_app, last_last _ (by omega)]
theorem last_get (f : Nat → Int) (t n : Nat) : lastOf (sq f t) n = (List.range (min t n)).map fun i => f (t - min t n + i) := by
  unfold lastOf sq
  rw [List.length_map, List.length_range, ← List.map_drop]
  have : (List.range t).drop (t - n) = (List.range (min t n)).map fun i => t - min t n + i := by
    refine List.ext_getElem (by simp; omega) fun i h1 h2 => ?_
    rw [List.getElem_drop, List.getElem_range, List.getElem_map, List.getElem_range]
    omega
  rw [this, List.map_map]; rfl
theorem val_ago (n : Nat) (a : Wi α) (t : Nat) : val L (.ago n a) t = true ↔ n ≤ t ∧ val L a (t - n) = true := by
  have e : ∀ t, own L (.ago n a) t = lastOf (sq (fun j => b2 (val L a j)) t) n := own_row fun t => by rw [own_s]; rfl
  rw [val_s, e]
  show (decide (n < (lastOf (lastOf (sq (fun j => b2 (val L a j)) t) n ++ [b2 (val L a t)]) (n + 1)).length) && decide ((lastOf (lastOf (sq (fun j => b2 (val L a j)) t) n ++ [b2 (val L a t)]) (n + 1)).head? = some 1)) = true ↔ _
  rw [last_app (fun j => b2 (val L a j)) t n, last_get, List.length_map, List.length_range, Bool.and_eq_true, decide_eq_true_iff, decide_eq_true_iff]
  constructor
  · rintro ⟨h1, h2⟩
    have h3 : n ≤ t := by omega
    have h4 : min (t + 1) (n + 1) = n + 1 := by omega
    rw [h4, List.range_succ_eq_map, List.map_cons, List.head?_cons] at h2
    refine ⟨h3, ?_⟩
    have h5 : t + 1 - (n + 1) + 0 = t - n := by omega
    rw [h5] at h2
    cases h6 : val L a (t - n)
    · rw [h6] at h2; cases h2
    · rfl
  · rintro ⟨h1, h2⟩
    have h4 : min (t + 1) (n + 1) = n + 1 := by omega
    refine ⟨by omega, ?_⟩
    rw [h4, List.range_succ_eq_map, List.map_cons, List.head?_cons]
    have h5 : t + 1 - (n + 1) + 0 = t - n := by omega
    rw [h5, h2]; rfl
theorem val_within (n : Nat) (a : Wi α) (t : Nat) : val L (.within n a) t = true ↔ ∃ j, t - n ≤ j ∧ j ≤ t ∧ val L a j = true := by
  have e : ∀ t, own L (.within n a) t = lastOf (sq (fun j => b2 (val L a j)) t) n := own_row fun t => by rw [own_s]; rfl
  rw [val_s, e]
  show ((lastOf (lastOf (sq (fun j => b2 (val L a j)) t) n ++ [b2 (val L a t)]) (n + 1)).any fun i => decide (i = 1)) = true ↔ _
  rw [last_app (fun j => b2 (val L a j)) t n, last_get, List.any_eq_true]
  constructor
  · rintro ⟨x, hx, h1⟩
    obtain ⟨i, hi, rfl⟩ := List.mem_map.mp hx
    rw [List.mem_range] at hi
    refine ⟨t + 1 - min (t + 1) (n + 1) + i, by omega, by omega, ?_⟩
    cases h6 : val L a (t + 1 - min (t + 1) (n + 1) + i)
    · rw [h6] at h1; cases h1
    · rfl
  · rintro ⟨j, h1, h2, h3⟩
    refine ⟨_, List.mem_map.mpr ⟨j - (t + 1 - min (t + 1) (n + 1)), List.mem_range.mpr (by omega), rfl⟩, ?_⟩
    have h5 : t + 1 - min (t + 1) (n + 1) + (j - (t + 1 - min (t + 1) (n + 1))) = j := by omega
    rw [h5, h3]; rfl
/-! ### held -/
theorem keep_held (n : Nat) (a : Wi α) (t : Nat) : ∃ m : Nat, (own L (.held n a) t).sum = m ∧ m ≤ n ∧ ∀ k, k ≤ n → (k ≤ m ↔ k ≤ t ∧ ∀ j, t - k ≤ j → j < t → val L a j = true) := by
  induction t with
  | zero => exact ⟨0, by rw [own_0]; rfl, Nat.zero_le _, fun k _ => ⟨fun h => ⟨h, fun j _ h => by omega⟩, fun h => h.1⟩⟩
  | succ t ih =>
    obtain ⟨m, h1, h2, h3⟩ := ih
    have e : own L (.held n a) (t + 1) = [min (n : Int) ((own L (.held n a) t).sum + 1) * b2 (val L a t)] := by rw [own_s]; rfl
    rw [e, h1]
    cases hv : val L a t
    · refine ⟨0, by simp [b2], Nat.zero_le _, fun k _ => ⟨fun h => ⟨by omega, fun j h4 h5 => by omega⟩, fun ⟨h4, h5⟩ => ?_⟩⟩
      rcases Nat.eq_zero_or_pos k with h6 | h6
      · omega
      · have := h5 t (by omega) (by omega)
        rw [hv] at this; cases this
    · refine ⟨min n (m + 1), by simp [b2]; omega, by omega, fun k hk => ?_⟩
      rcases Nat.eq_zero_or_pos k with h6 | h6
      · subst h6
        exact ⟨fun _ => ⟨by omega, fun j h4 h5 => by omega⟩, fun _ => by omega⟩
      · have h7 := h3 (k - 1) (by omega)
        constructor
        · intro h8
          obtain ⟨h9, h10⟩ := h7.mp (by omega)
          refine ⟨by omega, fun j h11 h12 => ?_⟩
          rcases Nat.lt_or_ge j t with h13 | h13
          · exact h10 j (by omega) h13
          · have : j = t := by omega
            subst this
            exact hv
        · rintro ⟨h8, h9⟩
          have := h7.mpr ⟨by omega, fun j h11 h12 => h9 j (by omega) (by omega)⟩
          omega
theorem val_held (n : Nat) (a : Wi α) (hn : 1 ≤ n) (t : Nat) : val L (.held n a) t = true ↔ n ≤ t + 1 ∧ ∀ j, t + 1 - n ≤ j → j ≤ t → val L a j = true := by
  obtain ⟨m, h1, h2, h3⟩ := keep_held (L := L) n a (t + 1)
  have e : own L (.held n a) (t + 1) = [min (n : Int) ((own L (.held n a) t).sum + 1) * b2 (val L a t)] := by rw [own_s]; rfl
  have e2 : val L (.held n a) t = decide (min (n : Int) ((own L (.held n a) t).sum + 1) * b2 (val L a t) = n) := by rw [val_s]; rfl
  rw [e] at h1
  have h1 : min (n : Int) ((own L (.held n a) t).sum + 1) * b2 (val L a t) = m := by simpa using h1
  rw [e2, h1, decide_eq_true_iff]
  have h4 := h3 n (Nat.le_refl _)
  constructor
  · intro h5
    obtain ⟨h6, h7⟩ := h4.mp (by omega)
    exact ⟨h6, fun j h8 h9 => h7 j h8 (by omega)⟩
  · rintro ⟨h5, h6⟩
    have := h4.mpr ⟨h5, fun j h8 h9 => h6 j h8 (by omega)⟩
    omega
/-! ### nth -/
/-- how often it has come before -/
def cntR (f : Nat → Bool) : Nat → Nat
  | 0 => 0
  | t + 1 => cntR f t + if f t = true ∧ (t = 0 ∨ f (t - 1) = false) then 1 else 0
theorem keep_nth (n : Nat) (a : Wi α) (t : Nat) : own L (.nth n a) (t + 1) = [b2 (val L a t), min ((n : Int) + 1) (cntR (val L a) (t + 1))] := by
  induction t with
  | zero =>
    have e : own L (.nth n a) 1 = [b2 (val L a 0), min ((n : Int) + 1) (0 + b2 (val L a 0 && true))] := by rw [own_s, own_0]; rfl
    rw [e]
    unfold cntR cntR
    cases val L a 0 <;> simp [b2]
  | succ t ih =>
    have e : own L (.nth n a) (t + 1 + 1) = [b2 (val L a (t + 1)), min ((n : Int) + 1) (min ((n : Int) + 1) (cntR (val L a) (t + 1)) + b2 (val L a (t + 1) && !(decide (some (b2 (val L a t)) = some 1))))] := by rw [own_s, ih]; rfl
    have e2 : cntR (val L a) (t + 1 + 1) = cntR (val L a) (t + 1) + if val L a (t + 1) = true ∧ (t + 1 = 0 ∨ val L a t = false) then 1 else 0 := rfl
    rw [e, e2]
    congr 2
    cases val L a (t + 1) <;> cases val L a t <;> simp [b2] <;> omega
theorem val_nth (n : Nat) (a : Wi α) (hn : 1 ≤ n) (t : Nat) : val L (.nth n a) t = true ↔ val L a t = true ∧ (t = 0 ∨ val L a (t - 1) = false) ∧ cntR (val L a) (t + 1) = n := by
  cases t with
  | zero =>
    have e : val L (.nth n a) 0 = (val L a 0 && (true && decide (min ((n : Int) + 1) (0 + b2 (val L a 0 && true)) = n))) := by rw [val_s, own_0]; rfl
    rw [e]
    unfold cntR cntR
    cases val L a 0 <;> simp [b2]
    omega
  | succ t =>
    have e : val L (.nth n a) (t + 1) = (val L a (t + 1) && (!(decide (some (b2 (val L a t)) = some 1)) && decide (min ((n : Int) + 1) (min ((n : Int) + 1) (cntR (val L a) (t + 1)) + b2 (val L a (t + 1) && !(decide (some (b2 (val L a t)) = some 1)))) = n))) := by rw [val_s, keep_nth]; rfl
    have e2 : cntR (val L a) (t + 1 + 1) = cntR (val L a) (t + 1) + if val L a (t + 1) = true ∧ (t + 1 = 0 ∨ val L a t = false) then 1 else 0 := rfl
    have e3 : t + 1 - 1 = t := rfl
    rw [e, e2, e3]
    cases val L a (t + 1) <;> cases val L a t <;> simp [b2] <;> omega
/-! ### edges -/
def flagX (x : α) : Nat → Bool
  | 0 => false
  | t + 1 => decide (L t x ≠ L (t + 1) x)
def chF (own : List Int) (i : Int) : Bool := match own with
  | [] => false
  | e :: _ => decide (e ≠ i)
theorem flag_own {w : Wi α} {x : α} {t : Nat} {more : List Int} (h : ∀ s, t = s + 1 → own L w t = L s x :: more) : b2 (chF (own L w t) (L t x)) = b2 (flagX (L := L) x t) := by
  cases t with
  | zero => rw [own_0]; rfl
  | succ s => rw [h s rfl]; rfl
theorem keep_edges1 (x : α) (lo hi : Nat) (s : Nat) : own L (.edges x 1 lo hi) (s + 1) = [L s x] := by
  rw [own_s]
  show L s x :: lastOf _ 0 = _
  unfold lastOf
  rw [Nat.sub_zero, List.drop_length]
theorem val_edges1 (x : α) (lo hi : Nat) (t : Nat) : val L (.edges x 1 lo hi) t = (decide ((lo : Int) ≤ b2 (flagX (L := L) x t)) && decide (b2 (flagX (L := L) x t) ≤ hi)) := by
  have hf := flag_own (L := L) (w := .edges x 1 lo hi) (x := x) (t := t) (more := []) fun s e => by rw [e]; exact keep_edges1 x lo hi s
  have ht : (own L (.edges x 1 lo hi) t).tail = [] := by
    cases t with
    | zero => rw [own_0]; rfl
    | succ s => rw [keep_edges1]; rfl
  have e0 : val L (.edges x 1 lo hi) t = (decide ((lo : Int) ≤ (lastOf ((own L (.edges x 1 lo hi) t).tail ++ [b2 (chF (own L (.edges x 1 lo hi) t) (L t x))]) 1).sum) && decide ((lastOf ((own L (.edges x 1 lo hi) t).tail ++ [b2 (chF (own L (.edges x 1 lo hi) t) (L t x))]) 1).sum ≤ hi)) := by rw [val_s]; rfl
  rw [e0, hf, ht]
  simp [lastOf]
theorem keep_edges2 (x : α) (lo hi : Nat) (s : Nat) : own L (.edges x 2 lo hi) (s + 1) = [L s x, b2 (flagX (L := L) x s)] := by
  induction s with
  | zero =>
    rw [own_s, own_0]; rfl
  | succ s ih =>
    have hf := flag_own (L := L) (w := .edges x 2 lo hi) (x := x) (t := s + 1) (more := [b2 (flagX (L := L) x s)]) fun s' e => by
      have : s' = s := by omega
      subst this
      exact ih
    have ht : (own L (.edges x 2 lo hi) (s + 1)).tail = [b2 (flagX (L := L) x s)] := by rw [ih]; rfl
    have e0 : own L (.edges x 2 lo hi) (s + 1 + 1) = L (s + 1) x :: lastOf (lastOf ((own L (.edges x 2 lo hi) (s + 1)).tail ++ [b2 (chF (own L (.edges x 2 lo hi) (s + 1)) (L (s + 1) x))]) 2) 1 := by rw [own_s]; rfl
    rw [e0, hf, ht]
    rfl
theorem val_edges2 (x : α) (lo hi : Nat) (t : Nat) : val L (.edges x 2 lo hi) t = (decide ((lo : Int) ≤ b2 (flagX (L := L) x (t - 1)) + b2 (flagX (L := L) x t)) && decide (b2 (flagX (L := L) x (t - 1)) + b2 (flagX (L := L) x t) ≤ hi)) := by
  cases t with
  | zero =>
    rw [val_s, own_0]
    rfl
  | succ s =>
    have hf := flag_own (L := L) (w := .edges x 2 lo hi) (x := x) (t := s + 1) (more := [b2 (flagX (L := L) x s)]) fun s' e => by
      have : s' = s := by omega
      subst this
      exact keep_edges2 x lo hi s'
    have ht : (own L (.edges x 2 lo hi) (s + 1)).tail = [b2 (flagX (L := L) x s)] := by rw [keep_edges2]; rfl
    have e0 : val L (.edges x 2 lo hi) (s + 1) = (decide ((lo : Int) ≤ (lastOf ((own L (.edges x 2 lo hi) (s + 1)).tail ++ [b2 (chF (own L (.edges x 2 lo hi) (s + 1)) (L (s + 1) x))]) 2).sum) && decide ((lastOf ((own L (.edges x 2 lo hi) (s + 1)).tail ++ [b2 (chF (own L (.edges x 2 lo hi) (s + 1)) (L (s + 1) x))]) 2).sum ≤ hi)) := by rw [val_s]; rfl
    rw [e0, hf, ht]
    have e : (lastOf ([b2 (flagX (L := L) x s)] ++ [b2 (flagX (L := L) x (s + 1))]) 2).sum = b2 (flagX (L := L) x s) + b2 (flagX (L := L) x (s + 1)) := by simp [lastOf]
    rw [e]
    rfl
/-! ### pulse: by the runs of a line -/
/-- runs of a line: level, start, end -/
structure Runs (f : Nat → Int) (T : Nat) (pl : List (Int × Nat × Nat)) : Prop where
  lt : ∀ q ∈ pl, q.2.1 < q.2.2 ∧ q.2.2 ≤ T
  bit : ∀ q ∈ pl, q.1 = 0 ∨ q.1 = 1
  lev : ∀ q ∈ pl, ∀ t, q.2.1 ≤ t → t < q.2.2 → f t = q.1
  here : ∀ t, t < T → ∃ q ∈ pl, q.2.1 ≤ t ∧ t < q.2.2
  pre : ∀ q ∈ pl, 0 < q.2.1 → f (q.2.1 - 1) ≠ q.1
  post : ∀ q ∈ pl, q.2.2 < T → f q.2.2 ≠ q.1
  sep : pl.Pairwise fun q r => q.2.2 ≤ r.2.1
  last : ∀ ini q, pl = ini ++ [q] → q.2.2 = T ∧ ∀ r ∈ ini, r.2.2 < T
theorem Runs.uniq {f : Nat → Int} {T : Nat} {pl : List (Int × Nat × Nat)} (h : Runs f T pl) {q r : Int × Nat × Nat} {t : Nat} (hq : q ∈ pl) (hr : r ∈ pl) (h1 : q.2.1 ≤ t ∧ t < q.2.2) (h2 : r.2.1 ≤ t ∧ t < r.2.2) : q = r := by
  have hs := h.sep
  clear h
  induction pl with
  | nil => cases hq
  | cons a pl ih =>
    obtain ⟨s1, s2⟩ := List.pairwise_cons.mp hs
    rcases List.mem_cons.mp hq with rfl | hq' <;> rcases List.mem_cons.mp hr with rfl | hr'
    · rfl
    · have := s1 r hr'; omega
    · have := s1 q hq'; omega
    · exact ih hq' hr' s2
theorem keep_pulse {x : α} {lev : Int} {lo hi : Nat} {T : Nat} {pl : List (Int × Nat × Nat)} (h : Runs (fun t => L t x) T pl) : ∀ (t : Nat) (q : Int × Nat × Nat), t < T → q ∈ pl → q.2.1 ≤ t → t < q.2.2 →
    own L (.pulse x lev lo hi) (t + 1) = [q.1, min ((t : Int) - (q.2.1 : Int) + 1) ((hi : Int) + 1), b2 (decide (0 < q.2.1))]
  | 0, q, ht, hq, h1, h2 => by
    have e : own L (.pulse x lev lo hi) 1 = [L 0 x, 1, 0] := by rw [own_s, own_0]; rfl
    have h3 : L 0 x = q.1 := h.lev q hq 0 h1 h2
    have h4 : q.2.1 = 0 := by omega
    rw [e, h3, h4]
    simp [b2]
    omega
  | t + 1, q, ht, hq, h1, h2 => by
    obtain ⟨r, hr, h3, h4⟩ := h.here t (by omega)
    have ih := keep_pulse (lev := lev) (lo := lo) (hi := hi) h t r (by omega) hr h3 h4
    have hl : L (t + 1) x = q.1 := h.lev q hq (t + 1) h1 h2
    rw [own_s, ih]
    unfold stepO
    simp only
    rcases Nat.lt_or_ge t q.2.1 with h5 | h5
    · have e1 : q.2.1 = t + 1 := by omega
      have hne : r.1 ≠ L (t + 1) x := by
        have := h.pre q hq (by omega)
        rw [e1, Nat.add_sub_cancel] at this
        have h6 : L t x = r.1 := h.lev r hr t h3 h4
        rw [h6] at this
        rw [hl]
        exact this
      rw [if_neg hne, hl, e1]
      simp [b2]
      omega
    · have e1 := h.uniq hr hq ⟨h3, h4⟩ ⟨h5, by omega⟩
      subst e1
      rw [if_pos hl.symm, hl]
      have e2 : min (min ((t : Int) - (r.2.1 : Int) + 1) ((hi : Int) + 1) + 1) ((hi : Int) + 1) = min (((t + 1 : Nat) : Int) - (r.2.1 : Int) + 1) ((hi : Int) + 1) := by omega
      rw [e2]
theorem val_pulse {x : α} {lev : Int} {lo hi : Nat} {T : Nat} {pl : List (Int × Nat × Nat)} (h : Runs (fun t => L t x) T pl) {t : Nat} (ht : t < T) :
    val L (.pulse x lev lo hi) t = true ↔ ∃ q ∈ pl, q.2.2 = t ∧ q.1 = lev ∧ 0 < q.2.1 ∧ (lo : Int) ≤ (q.2.2 : Int) - q.2.1 ∧ (q.2.2 : Int) - q.2.1 ≤ hi := by
  cases t with
  | zero =>
    have e : val L (.pulse x lev lo hi) 0 = false := by rw [val_s, own_0]; rfl
    rw [e]
    refine ⟨fun h => (by cases h), fun ⟨q, hq, h1, _, h2, _⟩ => ?_⟩
    have := h.lt q hq
    omega
  | succ t =>
    obtain ⟨r, hr, h3, h4⟩ := h.here t (by omega)
    rw [val_s, keep_pulse h t r (by omega) hr h3 h4]
    unfold stepO
    simp only
    obtain ⟨h5, h6⟩ := h.lt r hr
    rcases Nat.lt_or_ge (t + 1) r.2.2 with h7 | h7
    · have hl : L (t + 1) x = r.1 := h.lev r hr (t + 1) (by omega) h7
      rw [if_pos hl.symm]
      refine ⟨fun h => (by cases h), fun ⟨q, hq, h8, h9, _⟩ => ?_⟩
      have h10 := (h.lt q hq).1
      have := h.uniq hr hq ⟨h3, h4⟩ ⟨by omega, by omega⟩
      subst this
      omega
    · have e1 : r.2.2 = t + 1 := by omega
      have hne : r.1 ≠ L (t + 1) x := by
        have := h.post r hr (by omega)
        rw [e1] at this
        exact fun e => this e.symm
      rw [if_neg hne]
      simp only [Bool.and_eq_true, decide_eq_true_iff]
      constructor
      · rintro ⟨h8, h9, h10, h11⟩
        refine ⟨r, hr, e1, h8, ?_, by omega, by omega⟩
        rcases Nat.eq_zero_or_pos r.2.1 with h12 | h12
        · rw [h12] at h9; cases h9
        · exact h12
      · rintro ⟨q, hq, h8, h9, h10, h11, h12⟩
        have h13 := (h.lt q hq).1
        have := h.uniq hr hq ⟨h3, h4⟩ ⟨by omega, by omega⟩
        subst this
        refine ⟨h9, ?_, by omega, by omega⟩
        rw [decide_eq_true h10]; rfl
end AL
end
section
set_option Elab.async false
set_option linter.all false
/-! M5: lines as runs; counting. -/
namespace AL
abbrev Ln := List (Int × Nat)
def LineOk : Int → Ln → Prop
  | _, [] => True
  | lv, p :: r => p.1 = lv ∧ 0 < p.2 ∧ LineOk (1 - lv) r
def lvAt : Ln → Nat → Int
  | [], _ => 0
  | p :: r, t => if t < p.2 then p.1 else lvAt r (t - p.2)
def total : Ln → Nat
  | [] => 0
  | p :: r => p.2 + total r
def plF : Nat → Ln → List (Int × Nat × Nat)
  | _, [] => []
  | s, p :: r => (p.1, s, s + p.2) :: plF (s + p.2) r
theorem plF_lt : ∀ {ln : Ln} {lv : Int} {s : Nat}, LineOk lv ln → ∀ q ∈ plF s ln, s ≤ q.2.1 ∧ q.2.1 < q.2.2 ∧ q.2.2 ≤ s + total ln
  | [], _, _, _, q, h => by unfold plF at h; cases h
  | p :: r, lv, s, ok, q, h => by
    obtain ⟨_, h1, h2⟩ := ok
    unfold plF at h
    unfold total
    rcases List.mem_cons.mp h with rfl | h
    · exact ⟨Nat.le_refl _, by simp only; omega, by simp only; omega⟩
    · have := plF_lt h2 q h; omega
theorem plF_bit : ∀ {ln : Ln} {lv : Int} {s : Nat}, LineOk lv ln → (lv = 0 ∨ lv = 1) → ∀ q ∈ plF s ln, q.1 = 0 ∨ q.1 = 1
  | [], _, _, _, _, q, h => by unfold plF at h; cases h
  | p :: r, lv, s, ok, hb, q, h => by
    obtain ⟨h0, h1, h2⟩ := ok
    unfold plF at h
    rcases List.mem_cons.mp h with rfl | h
    · simp only; omega
    · exact plF_bit h2 (by omega) q h
theorem plF_lev : ∀ {ln : Ln} {lv : Int} {s : Nat}, LineOk lv ln → ∀ q ∈ plF s ln, ∀ t, q.2.1 ≤ t → t < q.2.2 → lvAt ln (t - s) = q.1
  | [], _, _, _, q, h => by unfold plF at h; cases h
  | p :: r, lv, s, ok, q, h => by
    obtain ⟨h0, h1, h2⟩ := ok
    unfold plF at h
    intro t ht1 ht2
    unfold lvAt
    rcases List.mem_cons.mp h with rfl | h
    · simp only at ht1 ht2
      rw [if_pos (by omega)]
    · have h3 := plF_lt h2 q h
      rw [if_neg (by omega), show t - s - p.2 = t - (s + p.2) by omega]
      exact plF_lev h2 q h t ht1 ht2
theorem plF_here : ∀ {ln : Ln} {lv : Int} {s : Nat}, LineOk lv ln → ∀ t, s ≤ t → t < s + total ln → ∃ q ∈ plF s ln, q.2.1 ≤ t ∧ t < q.2.2
  | [], _, _, _, t, h1, h2 => by unfold total at h2; omega
  | p :: r, lv, s, ok, t, h1, h2 => by
    obtain ⟨h3, h4, h5⟩ := ok
    unfold total at h2
    unfold plF
    rcases Nat.lt_or_ge t (s + p.2) with h6 | h6
    · exact ⟨_, List.mem_cons_self, h1, h6⟩
    · obtain ⟨q, hq, h7⟩ := plF_here h5 t h6 (by omega)
      exact ⟨q, List.mem_cons_of_mem _ hq, h7⟩
theorem plF_first {ln : Ln} {lv : Int} {s : Nat} (ok : LineOk lv ln) : ∀ q ∈ plF s ln, q.2.1 = s → q.1 = lv := by
  cases ln with
  | nil => intro q h; unfold plF at h; cases h
  | cons p r =>
    obtain ⟨h3, h4, h5⟩ := ok
    intro q h e
    unfold plF at h
    rcases List.mem_cons.mp h with rfl | h
    · exact h3
    · have := plF_lt h5 q h; omega
theorem plF_pre : ∀ {ln : Ln} {lv : Int} {s : Nat}, LineOk lv ln → ∀ q ∈ plF s ln, s < q.2.1 → lvAt ln (q.2.1 - 1 - s) ≠ q.1
  | [], _, _, _, q, h => by unfold plF at h; cases h
  | p :: r, lv, s, ok, q, h => by
    obtain ⟨h3, h4, h5⟩ := ok
    intro hs
    unfold plF at h
    unfold lvAt
    rcases List.mem_cons.mp h with rfl | h
    · simp only at hs; omega
    · have h6 := plF_lt h5 q h
      rcases Nat.lt_or_ge (s + p.2) q.2.1 with h7 | h7
      · rw [if_neg (by omega), show q.2.1 - 1 - s - p.2 = q.2.1 - 1 - (s + p.2) by omega]
        exact plF_pre h5 q h h7
      · rw [if_pos (by omega), plF_first h5 q h (by omega), h3]
        omega
theorem plF_post : ∀ {ln : Ln} {lv : Int} {s : Nat}, LineOk lv ln → ∀ q ∈ plF s ln, q.2.2 < s + total ln → lvAt ln (q.2.2 - s) ≠ q.1
  | [], _, _, _, q, h => by unfold plF at h; cases h
  | p :: r, lv, s, ok, q, h => by
    obtain ⟨h3, h4, h5⟩ := ok
    intro hs
    unfold plF at h
    unfold lvAt
    unfold total at hs
    rcases List.mem_cons.mp h with rfl | h
    · simp only at hs ⊢
      rw [if_neg (by omega), show s + p.2 - s - p.2 = 0 by omega]
      cases r with
      | nil => unfold total at hs; omega
      | cons p2 r =>
        unfold lvAt
        obtain ⟨h6, h7, _⟩ := h5
        rw [if_pos h7]
        omega
    · have h6 := plF_lt h5 q h
      rw [if_neg (by omega), show q.2.2 - s - p.2 = q.2.2 - (s + p.2) by omega]
      exact plF_post h5 q h (by omega)
theorem plF_sep : ∀ {ln : Ln} {lv : Int} {s : Nat}, LineOk lv ln → (plF s ln).Pairwise fun q r => q.2.2 ≤ r.2.1
  | [], _, _, _ => by unfold plF; exact List.Pairwise.nil
  | p :: r, lv, s, ok => by
    obtain ⟨h3, h4, h5⟩ := ok
    unfold plF
    exact List.pairwise_cons.mpr ⟨fun q hq => (plF_lt h5 q hq).1, plF_sep h5⟩
theorem plF_last : ∀ {ln : Ln} {lv : Int} {s : Nat}, LineOk lv ln → ∀ ini q, plF s ln = ini ++ [q] → q.2.2 = s + total ln ∧ ∀ r ∈ ini, r.2.2 < s + total ln
  | [], _, _, _, ini, q, h => by unfold plF at h; simp at h
  | p :: r, lv, s, ok, ini, q, h => by
    obtain ⟨h3, h4, h5⟩ := ok
    unfold plF at h
    unfold total
    cases ini with
    | nil =>
      have h : (p.1, s, s + p.2) :: plF (s + p.2) r = [q] := h
      injection h with h6 h7
      cases r with
      | nil => rw [← h6]; exact ⟨rfl, fun r hr => by cases hr⟩
      | cons p2 r => unfold plF at h7; cases h7
    | cons a ini =>
      have h : (p.1, s, s + p.2) :: plF (s + p.2) r = a :: (ini ++ [q]) := h
      injection h with h6 h7
      obtain ⟨h8, h9⟩ := plF_last h5 ini q h7
      refine ⟨by omega, fun r' hr => ?_⟩
      rcases List.mem_cons.mp hr with rfl | hr
      · rw [← h6]
        show s + p.2 < _
        have : 0 < total r := by
          cases r with
          | nil => unfold plF at h7; simp at h7
          | cons p2 r => unfold total; have := h5.2.1; omega
        omega
      · have := h9 r' hr; omega
theorem runs_of_line {ln : Ln} {lv : Int} (ok : LineOk lv ln) (hb : lv = 0 ∨ lv = 1) {f : Nat → Int} {T : Nat} (hT : total ln = T) (hf : ∀ t, t < T → f t = lvAt ln t) : Runs f T (plF 0 ln) := by
  have e : (0 : Nat) + total ln = T := by omega
  constructor
  · intro q hq
    have := plF_lt ok q hq
    omega
  · exact plF_bit ok hb
  · intro q hq t h1 h2
    have := plF_lt ok q hq
    have h3 := plF_lev ok q hq t h1 h2
    rw [hf t (by omega)]
    exact h3
  · intro t ht
    exact plF_here ok t (Nat.zero_le _) (by omega)
  · intro q hq h1
    have := plF_lt ok q hq
    have h3 := plF_pre ok q hq h1
    rw [hf _ (by omega)]
    exact h3
  · intro q hq h1
    have h3 := plF_post ok q hq (by omega)
    rw [hf _ h1]
    exact h3
  · exact plF_sep ok
  · intro ini q h
    have h3 := plF_last ok ini q h
    rw [e] at h3
    exact h3
theorem lvAt_bit : ∀ {ln : Ln} {lv : Int} {t : Nat}, LineOk lv ln → (lv = 0 ∨ lv = 1) → lvAt ln t = 0 ∨ lvAt ln t = 1
  | [], _, _, _, _ => .inl rfl
  | p :: r, lv, t, ok, hb => by
    obtain ⟨h3, h4, h5⟩ := ok
    unfold lvAt
    split
    · omega
    · exact lvAt_bit h5 (by omega)
/-! ### from runs -/
variable {f : Nat → Int} {T : Nat} {pl : List (Int × Nat × Nat)}
def highsF (pl : List (Int × Nat × Nat)) : Sp := (pl.filter fun q => decide (q.1 = 1)).map fun q => ((q.2.1 : Int), (q.2.2 : Int))
def comF (lv : Int) (pl : List (Int × Nat × Nat)) : List Int := (pl.filter fun q => decide (q.1 = lv) && decide (0 < q.2.1)).map fun q => (q.2.1 : Int)
theorem highs_canon (h : Runs f T pl) : Canon (highsF pl) := by
  refine ⟨fun p hp => ?_, ?_⟩
  · obtain ⟨q, hq, rfl⟩ := List.mem_map.mp hp
    have := (h.lt q (List.mem_filter.mp hq).1).1
    show ((q.2.1 : Nat) : Int) < (q.2.2 : Nat)
    omega
  · unfold highsF
    rw [List.pairwise_map]
    have h2 : (pl.filter fun q => decide (q.1 = 1)).Pairwise fun q r => q.2.2 ≤ r.2.1 := h.sep.filter _
    refine List.Pairwise.imp_of_mem (R := fun q r => q.2.2 ≤ r.2.1) (fun {a b} ha hb hab => ?_) h2
    obtain ⟨ha1, ha2⟩ := List.mem_filter.mp ha
    obtain ⟨hb1, hb2⟩ := List.mem_filter.mp hb
    have ha2 := of_decide_eq_true ha2
    have hb2 := of_decide_eq_true hb2
    show ((a.2.2 : Nat) : Int) < (b.2.1 : Nat)
    rcases Nat.lt_or_ge a.2.2 b.2.1 with h3 | h3
    · omega
    · have e : a.2.2 = b.2.1 := by omega
      have h4 := h.lt b hb1
      have h5 := h.post a ha1 (by omega)
      have h6 := h.lev b hb1 b.2.1 (Nat.le_refl _) h4.1
      rw [e, h6, ha2, hb2] at h5
      exact absurd rfl h5
theorem highs_mem (h : Runs f T pl) (t : Int) : inS t (highsF pl) ↔ ∃ n : Nat, t = n ∧ n < T ∧ f n = 1 := by
  constructor
  · rintro ⟨p, hp, h1, h2⟩
    obtain ⟨q, hq, rfl⟩ := List.mem_map.mp hp
    obtain ⟨hq1, hq2⟩ := List.mem_filter.mp hq
    simp only at h1 h2
    have h4 := h.lt q hq1
    refine ⟨t.toNat, by omega, by omega, ?_⟩
    rw [h.lev q hq1 t.toNat (by omega) (by omega)]
    exact of_decide_eq_true hq2
  · rintro ⟨n, rfl, h1, h2⟩
    obtain ⟨q, hq, h3, h4⟩ := h.here n h1
    refine ⟨_, List.mem_map.mpr ⟨q, List.mem_filter.mpr ⟨hq, decide_eq_true ?_⟩, rfl⟩, ?_, ?_⟩
    · rw [← h.lev q hq n h3 h4]; exact h2
    · show ((q.2.1 : Nat) : Int) ≤ n; omega
    · show (n : Int) < (q.2.2 : Nat); omega
theorem com_mem (h : Runs f T pl) (lv : Int) (m : Int) : m ∈ comF lv pl ↔ ∃ s : Nat, m = (s + 1 : Nat) ∧ s + 1 < T ∧ f (s + 1) = lv ∧ f s ≠ lv := by
  constructor
  · intro hm
    obtain ⟨q, hq, rfl⟩ := List.mem_map.mp hm
    obtain ⟨hq1, hq2⟩ := List.mem_filter.mp hq
    rw [Bool.and_eq_true, decide_eq_true_iff, decide_eq_true_iff] at hq2
    have h4 := h.lt q hq1
    have h5 := h.pre q hq1 hq2.2
    have h6 := h.lev q hq1 q.2.1 (Nat.le_refl _) h4.1
    refine ⟨q.2.1 - 1, by omega, by omega, ?_, ?_⟩
    · rw [show q.2.1 - 1 + 1 = q.2.1 by omega, h6]; exact hq2.1
    · rw [← hq2.1]; exact h5
  · rintro ⟨s, rfl, h1, h2, h3⟩
    obtain ⟨q, hq, h4, h5⟩ := h.here (s + 1) h1
    have h6 := h.lev q hq (s + 1) h4 h5
    have e : q.2.1 = s + 1 := by
      rcases Nat.lt_or_ge q.2.1 (s + 1) with h7 | h7
      · have := h.lev q hq s (by omega) (by omega)
        rw [this, ← h6, h2] at h3
        exact absurd rfl h3
      · omega
    refine List.mem_map.mpr ⟨q, List.mem_filter.mpr ⟨hq, ?_⟩, by rw [e]⟩
    rw [Bool.and_eq_true, decide_eq_true_iff, decide_eq_true_iff]
    exact ⟨by rw [← h6]; exact h2, by omega⟩
theorem com_nodup (h : Runs f T pl) (lv : Int) : (comF lv pl).Nodup := by
  unfold comF List.Nodup
  rw [List.pairwise_map]
  have h2 : (pl.filter fun q => decide (q.1 = lv) && decide (0 < q.2.1)).Pairwise fun q r => q.2.2 ≤ r.2.1 := h.sep.filter _
  refine List.Pairwise.imp_of_mem (R := fun q r => q.2.2 ≤ r.2.1) (fun {a b} ha hb hab => ?_) h2
  have h4 := h.lt a (List.mem_filter.mp ha).1
  show ((a.2.1 : Nat) : Int) ≠ (b.2.1 : Nat)
  omega
def pulseF (lv lo hi : Int) (pl : List (Int × Nat × Nat)) : List Int := (pl.dropLast.filter fun q => decide (q.1 = lv) && (decide (0 < q.2.1) && (decide (lo ≤ (q.2.2 : Int) - q.2.1) && decide ((q.2.2 : Int) - q.2.1 ≤ hi)))).map fun q => (q.2.2 : Int)
theorem pulse_mem (h : Runs f T pl) (lv lo hi : Int) (m : Int) : m ∈ pulseF lv lo hi pl ↔ ∃ n : Nat, m = n ∧ n < T ∧ ∃ q ∈ pl, q.2.2 = n ∧ q.1 = lv ∧ 0 < q.2.1 ∧ lo ≤ (q.2.2 : Int) - q.2.1 ∧ (q.2.2 : Int) - q.2.1 ≤ hi := by
  have hd : ∀ q, q ∈ pl.dropLast ↔ q ∈ pl ∧ q.2.2 < T := fun q => by
    rcases List.eq_nil_or_concat pl with rfl | ⟨ini, z, e⟩
    · simp
    · have e : pl = ini ++ [z] := by simpa using e
      obtain ⟨h1, h2⟩ := h.last ini z e
      rw [e, List.dropLast_concat]
      constructor
      · exact fun hq => ⟨List.mem_append_left _ hq, h2 q hq⟩
      · rintro ⟨hq, h3⟩
        rcases List.mem_append.mp hq with hq | hq
        · exact hq
        · rw [List.mem_singleton.mp hq] at h3; omega
  constructor
  · intro hm
    obtain ⟨q, hq, rfl⟩ := List.mem_map.mp hm
    obtain ⟨hq1, hq2⟩ := List.mem_filter.mp hq
    obtain ⟨hq3, hq4⟩ := (hd q).mp hq1
    simp only [Bool.and_eq_true, decide_eq_true_iff] at hq2
    exact ⟨q.2.2, rfl, hq4, q, hq3, rfl, hq2.1, hq2.2.1, hq2.2.2.1, hq2.2.2.2⟩
  · rintro ⟨n, rfl, h1, q, hq, h2, h3⟩
    refine List.mem_map.mpr ⟨q, List.mem_filter.mpr ⟨(hd q).mpr ⟨hq, by omega⟩, ?_⟩, by rw [h2]⟩
    simp only [Bool.and_eq_true, decide_eq_true_iff]
    exact h3
/-! ### points -/
theorem points_mem (ms : List Int) (t : Int) : inS t (ms.map fun m => (m, m + 1)) ↔ t ∈ ms := by
  constructor
  · rintro ⟨p, hp, h1, h2⟩
    obtain ⟨m, hm, rfl⟩ := List.mem_map.mp hp
    simp only at h1 h2
    have : t = m := by omega
    rw [this]; exact hm
  · intro h
    exact ⟨_, List.mem_map.mpr ⟨t, h, rfl⟩, by simp only; omega, by simp only; omega⟩
/-! ### counted -/
def cAt (es : List (Int × Int)) (t : Int) : Int := (es.map fun e => if e.1 ≤ t then e.2 else 0).sum
theorem cAt_perm {es fs : List (Int × Int)} (h : es.Perm fs) (t : Int) : cAt es t = cAt fs t := by
  induction h with
  | nil => rfl
  | cons x _ ih => unfold cAt at ih ⊢; simp only [List.map_cons, List.sum_cons]; rw [ih]
  | swap x y l => unfold cAt; simp only [List.map_cons, List.sum_cons]; omega
  | trans _ _ ih1 ih2 => rw [ih1, ih2]
theorem cAt_append (es fs : List (Int × Int)) (t : Int) : cAt (es ++ fs) t = cAt es t + cAt fs t := by unfold cAt; rw [List.map_append, List.sum_append]
theorem cAt_all : ∀ {es : List (Int × Int)} {t : Int}, (∀ e ∈ es, e.1 ≤ t) → cAt es t = (es.map (·.2)).sum
  | [], _, _ => rfl
  | e :: es, t, h => by
    have := cAt_all (es := es) (t := t) fun x hx => h x (List.mem_cons_of_mem _ hx)
    unfold cAt at this ⊢
    rw [List.map_cons, List.map_cons, List.sum_cons, List.sum_cons, this, if_pos (h e List.mem_cons_self)]
theorem cAt_none : ∀ {es : List (Int × Int)} {t : Int}, (∀ e ∈ es, t < e.1) → cAt es t = 0
  | [], _, _ => rfl
  | e :: es, t, h => by
    have := cAt_none (es := es) (t := t) fun x hx => h x (List.mem_cons_of_mem _ hx)
    unfold cAt at this ⊢
    rw [List.map_cons, List.sum_cons, this, if_neg (by have := h e List.mem_cons_self; omega)]; rfl
structure CntI (lo hi : Int) (T : Nat) (done rest : List (Int × Int)) (found : Sp) (since count : Int) : Prop where
  s0 : 0 ≤ since
  sT : since ≤ T
  n : count = (done.map (·.2)).sum
  d : since < T → ∀ e ∈ done, e.1 ≤ since
  r : ∀ e ∈ rest, since ≤ e.1
  m : ∀ t, inS t found ↔ 0 ≤ t ∧ t < since ∧ lo ≤ cAt (done ++ rest) t ∧ cAt (done ++ rest) t ≤ hi
theorem CntI.step {lo hi : Int} {T : Nat} {done rest : List (Int × Int)} {found : Sp} {since count : Int} {e : Int × Int} (i : CntI lo hi T done (e :: rest) found since count) (hr : ∀ x ∈ rest, min e.1 T ≤ x.1) :
    CntI lo hi T (done ++ [e]) rest (if lo ≤ count ∧ count ≤ hi then found ++ [(since, min e.1 T)] else found) (min e.1 T) (count + e.2) := by
  have h1 := i.s0
  have h2 := i.sT
  have h3 := i.r e List.mem_cons_self
  have hall : done ++ [e] ++ rest = done ++ (e :: rest) := by simp
  have hc : ∀ t, since ≤ t → t < min e.1 T → cAt (done ++ [e] ++ rest) t = count := fun t h4 h5 => by
    rw [hall, cAt_append, cAt_all, cAt_none, i.n, Int.add_zero]
    · intro x hx
      rcases List.mem_cons.mp hx with rfl | hx
      · omega
      · have := hr x hx; omega
    · intro x hx
      have := i.d (by omega) x hx
      omega
  refine ⟨by omega, by omega, ?_, fun h4 x hx => ?_, fun x hx => ?_, fun t => ?_⟩
  · rw [i.n]; simp
  · rcases List.mem_append.mp hx with hx | hx
    · have := i.d (by omega) x hx
      omega
    · rw [List.mem_singleton.mp hx]; omega
  · have := hr x hx; omega
  · have hm := i.m t
    rw [← hall] at hm
    split
    · rename_i h5
      rw [inS_append, hm, inS_one]
      simp only
      constructor
      · rintro (⟨h6, h7, h8⟩ | ⟨h6, h7⟩)
        · exact ⟨h6, by omega, h8⟩
        · refine ⟨by omega, h7, ?_⟩
          rw [hc t h6 h7]; exact h5
      · rintro ⟨h6, h7, h8⟩
        rcases Int.lt_or_le t since with h9 | h9
        · exact .inl ⟨h6, h9, h8⟩
        · exact .inr ⟨h9, h7⟩
    · rename_i h5
      rw [hm]
      constructor
      · rintro ⟨h6, h7, h8⟩
        exact ⟨h6, by omega, h8⟩
      · rintro ⟨h6, h7, h8⟩
        rcases Int.lt_or_le t since with h9 | h9
        · exact ⟨h6, h9, h8⟩
        · rw [hc t h9 h7] at h8
          exact absurd h8 h5
theorem CntI.start {lo hi : Int} {T : Nat} {rest : List (Int × Int)} (h : ∀ e ∈ rest, 0 ≤ e.1) : CntI lo hi T [] rest [] 0 0 := ⟨Int.le_refl _, by omega, rfl, fun _ e he => (by cases he), h, fun t => ⟨fun h => absurd h inS_nil, fun ⟨h1, h2, _⟩ => by omega⟩⟩
def evs (ms : List Int) (n : Int) : List (Int × Int) := (ms.map fun m => (m, 1)) ++ ms.map fun m => (m + n, -1)
theorem evs_at (n : Int) (hn : 0 ≤ n) (t : Int) : ∀ ms : List Int, cAt (evs ms n) t = (ms.map fun m => if t - n < m ∧ m ≤ t then (1 : Int) else 0).sum := fun ms => by
  unfold evs
  rw [cAt_append]
  induction ms with
  | nil => rfl
  | cons m ms ih =>
    unfold cAt at ih ⊢
    simp only [List.map_cons, List.sum_cons] at ih ⊢
    rw [← ih]
    split <;> split <;> split <;> omega
theorem sum_one {t : Int} : ∀ {ms : List Int}, ms.Nodup → (ms.map fun m => if m = t then (1 : Int) else 0).sum = if t ∈ ms then 1 else 0
  | [], _ => rfl
  | m :: ms, h => by
    obtain ⟨h1, h2⟩ := List.nodup_cons.mp h
    rw [List.map_cons, List.sum_cons, sum_one h2]
    by_cases e : m = t
    · subst e
      rw [if_pos rfl, if_neg h1, if_pos List.mem_cons_self]; rfl
    · rw [if_neg e]
      by_cases e2 : t ∈ ms
      · rw [if_pos e2, if_pos (List.mem_cons_of_mem _ e2)]; rfl
      · rw [if_neg e2, if_neg (fun h => e2 ((List.mem_cons.mp h).resolve_left fun z => e z.symm))]; rfl
theorem evs_at1 {ms : List Int} (nd : ms.Nodup) (t : Int) : cAt (evs ms 1) t = if t ∈ ms then 1 else 0 := by
  rw [evs_at 1 (by decide), ← sum_one nd]
  congr 1
  refine List.map_congr_left fun m _ => ?_
  by_cases h : m = t
  · rw [if_pos h, if_pos (by omega)]
  · rw [if_neg h, if_neg (by omega)]
theorem evs_at2 {ms : List Int} (nd : ms.Nodup) (t : Int) : cAt (evs ms 2) t = (if t - 1 ∈ ms then 1 else 0) + (if t ∈ ms then 1 else 0) := by
  rw [evs_at 2 (by decide), ← sum_one nd, ← sum_one nd]
  clear nd
  induction ms with
  | nil => rfl
  | cons m ms ih =>
    simp only [List.map_cons, List.sum_cons] at ih ⊢
    rw [ih]
    split <;> split <;> split <;> omega
/-! ### the n-th -/
theorem canon_same {xs : Sp} (c : Canon xs) {p q : Int × Int} {t : Int} (hp : p ∈ xs) (hq : q ∈ xs) (h1 : p.1 ≤ t ∧ t < p.2) (h2 : q.1 ≤ t ∧ t < q.2) : p = q := by
  induction xs with
  | nil => cases hp
  | cons a xs ih =>
    rcases List.mem_cons.mp hp with rfl | hp' <;> rcases List.mem_cons.mp hq with rfl | hq'
    · rfl
    · have := c.head q hq'; omega
    · have := c.head p hp'; omega
    · exact ih c.tail hp' hq'
theorem canon_start {xs : Sp} (c : Canon xs) (t : Int) : (∃ p ∈ xs, p.1 = t) ↔ inS t xs ∧ ¬ inS (t - 1) xs := by
  constructor
  · rintro ⟨p, hp, rfl⟩
    have h := c.lt p hp
    refine ⟨⟨p, hp, by omega, h⟩, fun h2 => ?_⟩
    obtain ⟨q, hq, h3, h4⟩ := canon_run c (s := p.1 - 1) 1 fun i h5 h6 => by
      rcases Int.lt_or_le i p.1 with h7 | h7
      · have : i = p.1 - 1 := by omega
        rw [this]; exact h2
      · exact ⟨p, hp, h7, by omega⟩
    have := canon_same c hp hq (t := p.1) ⟨by omega, h⟩ ⟨by omega, by omega⟩
    subst this
    omega
  · rintro ⟨⟨p, hp, h1, h2⟩, h3⟩
    refine ⟨p, hp, ?_⟩
    rcases Int.lt_or_le p.1 t with h4 | h4
    · exact absurd ⟨p, hp, by omega, by omega⟩ h3
    · omega
theorem canon_cnt {xs : Sp} (c : Canon xs) (t : Int) : ((xs.filter fun p => decide (p.1 ≤ t)).length : Int) = (xs.filter fun p => decide (p.1 ≤ t - 1)).length + if ∃ p ∈ xs, p.1 = t then 1 else 0 := by
  induction xs with
  | nil =>
    have : ¬ ∃ p ∈ ([] : Sp), p.1 = t := fun ⟨p, h, _⟩ => by cases h
    rw [if_neg this]; rfl
  | cons a xs ih =>
    have ih := ih c.tail
    rw [List.filter_cons, List.filter_cons]
    by_cases h1 : a.1 = t
    · have h2 : ¬ ∃ p ∈ xs, p.1 = t := fun ⟨p, hp, e⟩ => by have := c.head p hp; have := c.lt a List.mem_cons_self; omega
      have h3 : ∃ p ∈ a :: xs, p.1 = t := ⟨a, List.mem_cons_self, h1⟩
      rw [if_neg h2] at ih
      rw [if_pos h3, if_pos (decide_eq_true (by omega)), if_neg (by rw [decide_eq_false (by omega)]; decide), List.length_cons]
      omega
    · have h2 : (∃ p ∈ a :: xs, p.1 = t) ↔ ∃ p ∈ xs, p.1 = t := ⟨fun ⟨p, hp, e⟩ => by
        rcases List.mem_cons.mp hp with rfl | hp
        · exact absurd e h1
        · exact ⟨p, hp, e⟩, fun ⟨p, hp, e⟩ => ⟨p, List.mem_cons_of_mem _ hp, e⟩⟩
      have h4 : (if ∃ p ∈ a :: xs, p.1 = t then (1 : Int) else 0) = if ∃ p ∈ xs, p.1 = t then 1 else 0 := by
        by_cases h5 : ∃ p ∈ xs, p.1 = t
        · rw [if_pos h5, if_pos (h2.mpr h5)]
        · rw [if_neg h5, if_neg fun h => h5 (h2.mp h)]
      rw [h4]
      clear h4 h2
      generalize (if ∃ p ∈ xs, p.1 = t then (1 : Int) else 0) = z at ih ⊢
      by_cases h3 : a.1 ≤ t
      · rw [if_pos (decide_eq_true h3), if_pos (decide_eq_true (by omega)), List.length_cons, List.length_cons]
        omega
      · rw [if_neg (by rw [decide_eq_false h3]; decide), if_neg (by rw [decide_eq_false (by omega)]; decide)]
        exact ih
theorem canon_idx {xs : Sp} (c : Canon xs) {k : Nat} {p : Int × Int} (h : xs[k]? = some p) : (xs.filter fun q => decide (q.1 ≤ p.1)).length = k + 1 := by
  induction xs generalizing k with
  | nil => cases h
  | cons a xs ih =>
    rw [List.filter_cons]
    cases k with
    | zero =>
      have : a = p := by simpa using h
      subst this
      rw [if_pos (decide_eq_true (Int.le_refl _)), List.length_cons]
      have : (xs.filter fun q => decide (q.1 ≤ a.1)) = [] := List.filter_eq_nil_iff.mpr fun q hq => by
        have := c.head q hq
        have := c.lt a List.mem_cons_self
        simp; omega
      rw [this]; rfl
    | succ k =>
      have h : xs[k]? = some p := by simpa using h
      have hp := List.mem_of_getElem? h
      have := c.head p hp
      have := c.lt a List.mem_cons_self
      rw [if_pos (decide_eq_true (by omega)), List.length_cons, ih c.tail h]
/-- the n-th coming of a value is the start of the n-th span -/
theorem nth_span {g : Nat → Bool} {T : Nat} {xs : Sp} (c : Canon xs) (hm : ∀ t, inS t xs ↔ ∃ n : Nat, t = n ∧ n < T ∧ g n = true) {n : Nat} (hn : 1 ≤ n) {t : Nat} (ht : t < T) :
    (g t = true ∧ (t = 0 ∨ g (t - 1) = false) ∧ cntR g (t + 1) = n) ↔ ∃ p, xs[n - 1]? = some p ∧ p.1 = t := by
  have hst : ∀ t, t < T → ((g t = true ∧ (t = 0 ∨ g (t - 1) = false)) ↔ ∃ p ∈ xs, p.1 = (t : Int)) := fun t ht => by
    rw [canon_start c, hm, hm]
    constructor
    · rintro ⟨h1, h2⟩
      refine ⟨⟨t, rfl, ht, h1⟩, ?_⟩
      rintro ⟨m, e, h3, h4⟩
      rcases h2 with h2 | h2
      · omega
      · have : m = t - 1 := by omega
        rw [this, h2] at h4; cases h4
    · rintro ⟨⟨m, e, h1, h2⟩, h3⟩
      have : m = t := by omega
      subst this
      refine ⟨h2, ?_⟩
      rcases Nat.eq_zero_or_pos m with h4 | h4
      · exact .inl h4
      · refine .inr ?_
        cases h5 : g (m - 1)
        · rfl
        · exact absurd ⟨m - 1, by omega, by omega, h5⟩ h3
  have hneg : ∀ p ∈ xs, 0 ≤ p.1 := fun p hp => by
    obtain ⟨m, e, _⟩ := (hm p.1).mp ⟨p, hp, Int.le_refl _, c.lt p hp⟩
    omega
  have hcnt : ∀ t, t ≤ T → (cntR g t : Int) = (xs.filter fun p => decide (p.1 ≤ (t : Int) - 1)).length := fun t => by
    induction t with
    | zero =>
      intro _
      have : (xs.filter fun p => decide (p.1 ≤ ((0 : Nat) : Int) - 1)) = [] := List.filter_eq_nil_iff.mpr fun q hq => by
        have := hneg q hq
        simp; omega
      rw [this]; rfl
    | succ t ih =>
      intro h
      have ih := ih (by omega)
      have e : ((t + 1 : Nat) : Int) - 1 = t := by omega
      have e3 : cntR g (t + 1) = cntR g t + if g t = true ∧ (t = 0 ∨ g (t - 1) = false) then 1 else 0 := rfl
      rw [e, canon_cnt c, ← ih, e3]
      have h2 := hst t (by omega)
      by_cases h3 : g t = true ∧ (t = 0 ∨ g (t - 1) = false)
      · rw [if_pos h3, if_pos (h2.mp h3)]; omega
      · rw [if_neg h3, if_neg (fun h => h3 (h2.mpr h))]; omega
  have hc := hcnt (t + 1) (by omega)
  have e : ((t + 1 : Nat) : Int) - 1 = t := by omega
  rw [e] at hc
  constructor
  · rintro ⟨h1, h2, h3⟩
    obtain ⟨p, hp, h4⟩ := (hst t ht).mp ⟨h1, h2⟩
    obtain ⟨k, hk⟩ := List.getElem?_of_mem hp
    have h5 := canon_idx c hk
    rw [h4] at h5
    have : k = n - 1 := by omega
    subst this
    exact ⟨p, hk, h4⟩
  · rintro ⟨p, hk, h4⟩
    obtain ⟨h1, h2⟩ := (hst t ht).mpr ⟨p, List.mem_of_getElem? hk, h4⟩
    have h5 := canon_idx c hk
    rw [h4] at h5
    exact ⟨h1, h2, by omega⟩
end AL
end
section
set_option Elab.async false
set_option linter.all false
set_option maxRecDepth 100000
set_option maxHeartbeats 4000000
/-! S13: lines. -/
namespace AL
open PySem PySem.Spec PyProof.Rows L2
variable {Z : Ar} {Y : LY}
def lnP (ln : Ln) : List (Int × Int) := ln.map fun p => (p.1, ((p.2 : Nat) : Int))
def lnD (ln : Ln) : D := .tup ((lnP ln).map pD)
theorem total_sum : ∀ ln : Ln, ((lnP ln).map (·.2)).sum = (total ln : Nat)
  | [] => rfl
  | p :: r => by
    have h := total_sum r
    have e : total (p :: r) = p.2 + total r := rfl
    have e2 : ((lnP (p :: r)).map (·.2)).sum = (p.2 : Int) + ((lnP r).map (·.2)).sum := rfl
    rw [e, e2, h]
    omega
theorem line_len : ∀ {ln : Ln} {lv : Int}, LineOk lv ln → ln.length ≤ total ln
  | [], _, _ => Nat.zero_le _
  | p :: r, lv, ok => by
    have := line_len ok.2.2
    have := ok.2.1
    unfold total
    rw [List.length_cons]; omega
theorem plF_len : ∀ (ln : Ln) (s : Nat), (plF s ln).length = ln.length
  | [], _ => rfl
  | p :: r, s => by unfold plF; rw [List.length_cons, List.length_cons, plF_len r]
def sndD (d : D) : D := match d with
  | .tup [_, e] => e
  | _ => .non
theorem sum_snd2 : ∀ ps : List (Int × Int), intL ((ps.map pD).map sndD) = some (ps.map (·.2))
  | [] => rfl
  | p :: ps => by rw [List.map_cons, List.map_cons, List.map_cons, ← Option.map_some (f := (p.2 :: ·)), ← sum_snd2 ps]; rfl
def F_long_of : PFs := fun ds R => ∃ ln : Ln, ln.length ≤ 1000 ∧ ds = [lnD ln] ∧ R (.int (total ln : Nat))
def U_long_of (F : PFs) : Prop := ∀ (ln : Ln) R, ln.length ≤ 1000 → R (.int (total ln : Nat)) → F [lnD ln] R
theorem u_long_of : U_long_of F_long_of := fun ln R h q => ⟨ln, h, rfl, q⟩
theorem sp_long_of (hZ : ArOk Z) (hY : YOk Y) : SpecP 1 3 (d_long_of Z Y) F_long_of := by
  rintro _ R _ ⟨ln, hl, rfl, q⟩
  have hs := sum_snd2 (lnP ln)
  have e := total_sum ln
  have hll : (lnP ln).length = ln.length := by unfold lnP; rw [List.length_map]
  obtain ⟨ps, hps⟩ : ∃ x, lnP ln = x := ⟨_, rfl⟩
  rw [hps] at hs e hll
  obtain ⟨sn, hsn⟩ : ∃ x, ps.map (·.2) = x := ⟨_, rfl⟩
  rw [hsn] at e hs
  obtain ⟨pd, hpd⟩ : ∃ x, ps.map pD = x := ⟨_, rfl⟩
  have hpl : pd.length = ps.length := by rw [← hpd, List.length_map]
  rw [hpd] at hs
  have e2 : lnD ln = .tup pd := by unfold lnD; rw [hps, hpd]
  rw [e2]
  rw [← e] at q
  cbv
  rw [hY.lc]
  refine lc_map sndD (ds := pd) (fun d hd => ?_) (by rw [sizeLine_eq]; omega) ?_
  · rw [← hpd] at hd
    obtain ⟨p, hp, rfl⟩ := List.mem_map.mp hd
    exact ⟨_, rfl, fun K hK => hK⟩
  · obtain ⟨il, hil⟩ : ∃ x, pd.map sndD = x := ⟨_, rfl⟩
    rw [hil] at hs ⊢
    cbv
    rw [hY.iL, hs]
    cbv
    rw [hY.sum]
    exact ⟨_, rfl, rfl, q⟩
/-! ### placed -/
def plE (q : Int × Nat × Nat) : D := .tup [.int q.1, .int (q.2.1 : Nat), .int (q.2.2 : Nat)]
def F_placed : PFs := fun ds R => ∃ ln : Ln, ln.length ≤ 1000 ∧ ds = [lnD ln] ∧ R (.lst ((plF 0 ln).map plE))
def U_placed (F : PFs) : Prop := ∀ (ln : Ln) R, ln.length ≤ 1000 → R (.lst ((plF 0 ln).map plE)) → F [lnD ln] R
theorem u_placed : U_placed F_placed := fun ln R h q => ⟨ln, h, rfl, q⟩
theorem plF_app : ∀ (a b : Ln) (s : Nat), plF s (a ++ b) = plF s a ++ plF (s + total a) b
  | [], b, s => rfl
  | p :: a, b, s => by
    rw [List.cons_append, plF, plF, plF_app a b, total, List.cons_append, Nat.add_assoc]
theorem total_app : ∀ (a b : Ln), total (a ++ b) = total a + total b
  | [], b => by simp [total]
  | p :: a, b => by rw [List.cons_append, total, total, total_app a b]; omega
theorem sp_placed (hZ : ArOk Z) (hY : YOk Y) : SpecP 1 5 (d_placed Z Y) F_placed := by
  rintro _ R _ ⟨ln, hl, rfl, q⟩
  unfold lnD
  generalize hpd : (lnP ln).map pD = pd
  cbv
  rw [hY.loop]
  have hpl : pd.length = ln.length := by rw [← hpd, List.length_map]; unfold lnP; rw [List.length_map]
  refine loop_of (fun i ρ h => ∃ a b fd s, ρ = [some (AV.dat (D.tup pd)), some (AV.ref 0), some (AV.dat (.int s)), a, b] ∧ h = [AO.lst fd] ∧ fd = (plF 0 (ln.take i)).map plE ∧ s = (total (ln.take i) : Nat)) ?step ?last _ _ ?init
  case init => exact ⟨_, _, _, _, rfl, rfl, rfl, rfl⟩
  case last =>
    rintro _ _ ⟨a, b, fd, s, rfl, rfl, hf, hs⟩
    rw [hpl, List.take_of_length_le (Nat.le_refl _)] at hf
    rw [← hf] at q
    cbv
    exact ⟨_, rfl, rfl, q⟩
  case step =>
    rintro i dd K _ _ hd hK ⟨a, b, fd, s, rfl, rfl, hf, hs⟩
    rw [← hpd] at hd
    unfold lnP at hd
    rw [List.map_map, List.getElem?_map] at hd
    obtain ⟨p, hp1, rfl⟩ := Option.map_eq_some_iff.mp hd
    obtain ⟨lv, lg⟩ := p
    have hi := (List.getElem?_eq_some_iff.mp hp1).1
    have ht : ln.take (i + 1) = ln.take i ++ [(lv, lg)] := by rw [List.take_add_one, hp1]; rfl
    have hfl : fd.length ≤ 1000 := by rw [hf, List.length_map, plF_len, List.length_take]; omega
    show gTup 2 _ (.dat (.tup [.int lv, .int (lg : Nat)])) _ _ _
    obtain ⟨gi, hgi⟩ : ∃ x : Int, ((lg : Nat) : Int) = x := ⟨_, rfl⟩
    rw [hgi]
    cbv
    rw [hY.app, hY.fit]
    refine ⟨by rw [sizeLine_eq]; omega, hK _ _ ⟨_, _, _, _, rfl, rfl, ?_, ?_⟩⟩
    · rw [hZ.plus, ht, plF_app, List.map_append, hf, hs, ← hgi]
      simp only [plF, List.map_cons, List.map_nil, plE, Nat.zero_add, Int.natCast_add]
    · rw [hZ.plus, ht, total_app, hs, ← hgi]
      simp [total]
/-! ### highs, comings -/
def F_highs : PFs := fun ds R => ∃ ln : Ln, ln.length ≤ 1000 ∧ ds = [lnD ln] ∧ R (.tup ((highsF (plF 0 ln)).map pD))
def U_highs (F : PFs) : Prop := ∀ (ln : Ln) R, ln.length ≤ 1000 → R (.tup ((highsF (plF 0 ln)).map pD)) → F [lnD ln] R
theorem u_highs : U_highs F_highs := fun ln R h q => ⟨ln, h, rfl, q⟩
theorem sp_highs {F : PFs} (hZ : ArOk Z) (hY : YOk Y) (U : U_placed F) : SpecP 1 4 (d_highs Z Y F) F_highs := by
  rintro _ R _ ⟨ln, hl, rfl, q⟩
  have U' := fun R' => U ln R' hl
  obtain ⟨ld, hld⟩ : ∃ x, lnD ln = .tup x := ⟨_, rfl⟩
  obtain ⟨pd, hpd⟩ : ∃ x, (plF 0 ln).map plE = x := ⟨_, rfl⟩
  have hpl : pd.length = ln.length := by rw [← hpd, List.length_map, plF_len]
  rw [hld, hpd] at U'
  rw [hld]
  cbv
  refine U' _ ?_
  rw [hY.lc]
  refine lc_pure (fun d => match d with | .tup (.int l :: _) => decide (l = 1) | _ => false) (fun d => match d with | .tup [_, a, b] => .tup [a, b] | _ => .non) pd [] (fun d hd => ?_) (by rw [sizeLine_eq]; simp; omega) ?_
  · rw [← hpd] at hd
    obtain ⟨⟨lv, a, b⟩, hp, rfl⟩ := List.mem_map.mp hd
    exact ⟨_, rfl, fun K hK => hK, fun _ K hK => by cbv; exact hK⟩
  · have e : (pd.filter fun d => match d with | .tup (.int l :: _) => decide (l = 1) | _ => false).map (fun d => match d with | .tup [_, a, b] => .tup [a, b] | _ => D.non) = (highsF (plF 0 ln)).map pD := by
      unfold highsF
      rw [← hpd, List.filter_map, List.map_map, List.map_map]
      rfl
    rw [List.nil_append, e]
    generalize (highsF (plF 0 ln)).map pD = hd at q ⊢
    cbv
    exact ⟨_, rfl, rfl, q⟩
def F_comings : PFs := fun ds R => ∃ (ln : Ln) (lv : Int), ln.length ≤ 1000 ∧ ds = [lnD ln, .int lv] ∧ R (.tup ((comF lv (plF 0 ln)).map .int))
def U_comings (F : PFs) : Prop := ∀ (ln : Ln) (lv : Int) R, ln.length ≤ 1000 → R (.tup ((comF lv (plF 0 ln)).map .int)) → F [lnD ln, .int lv] R
theorem u_comings : U_comings F_comings := fun ln lv R h q => ⟨ln, lv, h, rfl, q⟩
theorem sp_comings {F : PFs} (hZ : ArOk Z) (hY : YOk Y) (U : U_placed F) : SpecP 2 5 (d_comings Z Y F) F_comings := by
  rintro _ R _ ⟨ln, lv, hl, rfl, q⟩
  have U' := fun R' => U ln R' hl
  obtain ⟨ld, hld⟩ : ∃ x, lnD ln = .tup x := ⟨_, rfl⟩
  obtain ⟨pd, hpd⟩ : ∃ x, (plF 0 ln).map plE = x := ⟨_, rfl⟩
  have hpl : pd.length = ln.length := by rw [← hpd, List.length_map, plF_len]
  rw [hld, hpd] at U'
  rw [hld]
  cbv
  refine U' _ ?_
  rw [hY.lc]
  refine lc_pure (fun d => match d with | .tup (.int l :: .int a :: _) => decide (l = lv) && decide (0 < a) | _ => false) (fun d => match d with | .tup [_, a, b] => a | _ => .non) pd [] (fun d hd => ?_) (by rw [sizeLine_eq]; simp; omega) ?_
  · rw [← hpd] at hd
    obtain ⟨⟨l, a, b⟩, hp, rfl⟩ := List.mem_map.mp hd
    refine ⟨_, rfl, fun K hK => ?_, fun _ K hK => hK⟩
    simp only [plE] at hK ⊢
    generalize ((a : Nat) : Int) = ai at hK ⊢
    generalize ((b : Nat) : Int) = bi at hK ⊢
    cbv
    by_cases h1 : l = lv
    · rw [decide_eq_true h1] at hK ⊢
      cbv
      rw [hZ.lt]
      exact hK
    · rw [decide_eq_false h1] at hK ⊢
      exact hK
  · have e : (pd.filter fun d => match d with | .tup (.int l :: .int a :: _) => decide (l = lv) && decide (0 < a) | _ => false).map (fun d => match d with | .tup [_, a, b] => a | _ => D.non) = (comF lv (plF 0 ln)).map .int := by
      unfold comF
      rw [← hpd, List.filter_map, List.map_map, List.map_map]
      have e2 : ((fun d => match d with | .tup (.int l :: .int a :: _) => decide (l = lv) && decide (0 < a) | _ => false) ∘ plE) = fun q : Int × Nat × Nat => decide (q.1 = lv) && decide (0 < q.2.1) := by
        funext q
        show (decide (q.1 = lv) && decide ((0 : Int) < (q.2.1 : Nat))) = _
        congr 1
        exact decide_eq_decide.mpr (by omega)
      rw [e2]
      rfl
    rw [List.nil_append, e]
    generalize (comF lv (plF 0 ln)).map D.int = hd at q ⊢
    cbv
    exact ⟨_, rfl, rfl, q⟩
def F_rises : PFs := fun ds R => ∃ (ln : Ln), ln.length ≤ 1000 ∧ ds = [lnD ln] ∧ R (.tup ((comF 1 (plF 0 ln)).map .int))
def U_rises (F : PFs) : Prop := ∀ (ln : Ln) R, ln.length ≤ 1000 → R (.tup ((comF 1 (plF 0 ln)).map .int)) → F [lnD ln] R
theorem u_rises : U_rises F_rises := fun ln R h q => ⟨ln, h, rfl, q⟩
theorem sp_rises {F : PFs} (hZ : ArOk Z) (hY : YOk Y) (U : U_comings F) : SpecP 1 1 (d_rises Z Y F) F_rises := by
  rintro _ R _ ⟨ln, hl, rfl, q⟩
  have U' := fun R' => U ln 1 R' hl
  obtain ⟨ld, hld⟩ : ∃ x, lnD ln = .tup x := ⟨_, rfl⟩
  obtain ⟨pd, hpd⟩ : ∃ x, (comF 1 (plF 0 ln)).map D.int = x := ⟨_, rfl⟩
  rw [hld, hpd] at U'
  rw [hpd] at q
  rw [hld]
  cbv
  refine U' _ ?_
  cbv
  exact ⟨_, rfl, rfl, q⟩
def F_falls : PFs := fun ds R => ∃ (ln : Ln), ln.length ≤ 1000 ∧ ds = [lnD ln] ∧ R (.tup ((comF 0 (plF 0 ln)).map .int))
def U_falls (F : PFs) : Prop := ∀ (ln : Ln) R, ln.length ≤ 1000 → R (.tup ((comF 0 (plF 0 ln)).map .int)) → F [lnD ln] R
theorem u_falls : U_falls F_falls := fun ln R h q => ⟨ln, h, rfl, q⟩
theorem sp_falls {F : PFs} (hZ : ArOk Z) (hY : YOk Y) (U : U_comings F) : SpecP 1 1 (d_falls Z Y F) F_falls := by
  rintro _ R _ ⟨ln, hl, rfl, q⟩
  have U' := fun R' => U ln 0 R' hl
  obtain ⟨ld, hld⟩ : ∃ x, lnD ln = .tup x := ⟨_, rfl⟩
  obtain ⟨pd, hpd⟩ : ∃ x, (comF 0 (plF 0 ln)).map D.int = x := ⟨_, rfl⟩
  rw [hld, hpd] at U'
  rw [hpd] at q
  rw [hld]
  cbv
  refine U' _ ?_
  cbv
  exact ⟨_, rfl, rfl, q⟩
/-! ### lines -/
def linesD (ns : List Str) (lns : List Ln) : D := .tup ((ns.zip lns).map fun q => .tup [.str q.1, lnD q.2])
def lineOf (ns : List Str) (lns : List Ln) (x : Str) : Ln := (((ns.zip lns).find? fun p => decide (p.1 = x)).map (·.2)).getD []
structure LinesOk (ns : List Str) (lns : List Ln) (T : Nat) : Prop where
  len : lns.length = ns.length
  two : ns.length = 1 ∨ ns.length = 2
  nd : ns.Nodup
  ok : ∀ ln ∈ lns, ∃ lv : Int, (lv = 0 ∨ lv = 1) ∧ LineOk lv ln ∧ total ln = T
  few : T ≤ 100
theorem LinesOk.short {ns : List Str} {lns : List Ln} {T : Nat} (h : LinesOk ns lns T) : ∀ ln ∈ lns, ln.length ≤ 1000 := fun ln hl => by
  obtain ⟨lv, _, h2, h3⟩ := h.ok ln hl
  have := line_len h2
  have := h.few
  omega
def F_moments_of : PFs := fun ds R => ∃ ns lns T, LinesOk ns lns T ∧ ds = [linesD ns lns] ∧ R (.int (T : Nat))
def U_moments_of (F : PFs) : Prop := ∀ ns lns T R, LinesOk ns lns T → R (.int (T : Nat)) → F [linesD ns lns] R
theorem u_moments_of : U_moments_of F_moments_of := fun ns lns T R h q => ⟨ns, lns, T, h, rfl, q⟩
theorem sp_moments_of {F : PFs} (hZ : ArOk Z) (hY : YOk Y) (U : U_long_of F) : SpecP 1 4 (d_moments_of Z Y F) F_moments_of := by
  rintro _ R _ ⟨ns, lns, T, ok, rfl, q⟩
  cases ns with
  | nil => have := ok.two; simp at this
  | cons x ns => cases lns with
    | nil => have := ok.len; simp at this
    | cons ln lns =>
      obtain ⟨lv, _, h2, h3⟩ := ok.ok ln List.mem_cons_self
      have U' := fun R' => U ln R' (ok.short ln List.mem_cons_self)
      rw [h3] at U'
      generalize ((T : Nat) : Int) = Ti at q U'
      cases ns with
      | nil =>
        have e : linesD [x] (ln :: lns) = .tup [.tup [.str x, lnD ln]] := by unfold linesD; cases lns <;> rfl
        rw [e]
        generalize lnD ln = ld at U' ⊢
        cbv
        refine U' _ ?_
        cbv
        exact ⟨_, rfl, rfl, q⟩
      | cons y ns => cases ns with
        | cons z ns => have := ok.two; simp at this
        | nil => cases lns with
          | nil => have := ok.len; simp at this
          | cons ln2 lns =>
            have e : linesD [x, y] (ln :: ln2 :: lns) = .tup [.tup [.str x, lnD ln], .tup [.str y, lnD ln2]] := rfl
            rw [e]
            generalize lnD ln = ld at U' ⊢
            generalize lnD ln2 = ld2
            cbv
            refine U' _ ?_
            cbv
            exact ⟨_, rfl, rfl, q⟩
def F_line_in : PFs := fun ds R => ∃ ns lns T x, LinesOk ns lns T ∧ x ∈ ns ∧ ds = [linesD ns lns, .str x] ∧ R (lnD (lineOf ns lns x))
def U_line_in (F : PFs) : Prop := ∀ ns lns T x R, LinesOk ns lns T → x ∈ ns → R (lnD (lineOf ns lns x)) → F [linesD ns lns, .str x] R
theorem u_line_in : U_line_in F_line_in := fun ns lns T x R h hx q => ⟨ns, lns, T, x, h, hx, rfl, q⟩
theorem line_loop {t0 : List D} {x : Str} {R : D → Prop} (hY : YOk Y) : ∀ (qs : List (Str × Ln)) (a b : Option AV), (∃ q ∈ qs, q.1 = x) → R (lnD (((qs.find? fun p => decide (p.1 = x)).map (·.2)).getD [])) →
    loopA (gTup 2 (gCons (gN 2) (gCons (gN 3) gNil))) (sIf (tst (eOp (rEqN false) (eV 2) (eV 1))) (sRet (eV 3)) sNext) (fun ρ h => sNever (fun _ _ => R .non) (finA 0 fun d _ => R d) ρ h) (finA 0 fun d _ => R d)
      (qs.map fun q => .tup [.str q.1, lnD q.2]) [some (.dat (.tup t0)), some (.dat (.str x)), a, b] []
  | [], a, b, h, q => by obtain ⟨_, h, _⟩ := h; cases h
  | (y, ln) :: qs, a, b, h, q => by
    by_cases e : y = x
    · subst e
      have e2 : (((((y, ln) :: qs).find? fun p => decide (p.1 = y)).map (·.2)).getD []) = ln := by simp
      rw [e2] at q
      rw [List.map_cons]
      unfold loopA
      generalize loopA _ _ _ _ _ = LL
      simp only
      generalize lnD ln = ld at q ⊢
      cbv
      exact ⟨_, rfl, rfl, q⟩
    · have e2 : (((((y, ln) :: qs).find? fun p => decide (p.1 = x)).map (·.2)).getD []) = ((qs.find? fun p => decide (p.1 = x)).map (·.2)).getD [] := by
        rw [List.find?_cons]
        simp only [decide_eq_false e]
      rw [e2] at q
      obtain ⟨z, hz1, hz2⟩ := h
      have ih := line_loop (t0 := t0) hY qs (some (.dat (.str y))) (some (.dat (lnD ln))) ⟨z, (List.mem_cons.mp hz1).resolve_left fun h => e (by rw [h] at hz2; exact hz2), hz2⟩ q
      rw [List.map_cons]
      unfold loopA
      generalize loopA _ _ _ _ _ = LL at ih ⊢
      simp only
      generalize lnD ln = ld at ih ⊢
      cbv
      rw [decide_eq_false e]
      cbv
      exact ih
theorem zip_has {x : Str} : ∀ {ns : List Str} {lns : List Ln}, x ∈ ns → lns.length = ns.length → ∃ q ∈ ns.zip lns, q.1 = x
  | [], _, h, _ => by cases h
  | n :: ns, [], _, h => by simp at h
  | n :: ns, l :: lns, h, hl => by
    rcases List.mem_cons.mp h with rfl | h
    · exact ⟨_, List.mem_cons_self, rfl⟩
    · obtain ⟨q, h1, h2⟩ := zip_has (lns := lns) h (by simpa using hl)
      exact ⟨q, List.mem_cons_of_mem _ h1, h2⟩
theorem sp_line_in (hZ : ArOk Z) (hY : YOk Y) : SpecP 2 4 (d_line_in Z Y) F_line_in := by
  rintro _ R _ ⟨ns, lns, T, x, ok, hx, rfl, q⟩
  unfold d_line_in linesD
  show Y .loop _ _ _ _ _ _ _
  rw [hY.loop]
  exact line_loop hY (ns.zip lns) none none (zip_has hx ok.len) q
end AL
end
section
set_option Elab.async false
set_option linter.all false
set_option maxRecDepth 100000
set_option maxHeartbeats 4000000
/-! S14: spans. -/
namespace AL
open PySem PySem.Spec PyProof.Rows L2
variable {Z : Ar} {Y : LY}
def spD (xs : Sp) : D := .tup (xs.map pD)
theorem pL_map : ∀ xs : Sp, pairL (xs.map pD) = some xs
  | [] => rfl
  | p :: xs => by
    rw [List.map_cons, pairL, pL_map xs]; rfl
def ltD (d : D) : Bool := match d with | .tup [.int a, .int b] => decide (a < b) | _ => false
def F_spans_of : PFs := fun ds R => ∃ ps : Sp, ps.length ≤ 5000 ∧ (ds = [.tup (ps.map pD)] ∨ ds = [.lst (ps.map pD)]) ∧ ∀ xs, Canon xs → (∀ t, inS t xs ↔ inS t ps) → R (spD xs)
structure U_spans_of (F : PFs) : Prop where
  tup : ∀ (ps : Sp) R, ps.length ≤ 5000 → (∀ xs, Canon xs → (∀ t, inS t xs ↔ inS t ps) → R (spD xs)) → F [.tup (ps.map pD)] R
  lst : ∀ (ps : Sp) R, ps.length ≤ 5000 → (∀ xs, Canon xs → (∀ t, inS t xs ↔ inS t ps) → R (spD xs)) → F [.lst (ps.map pD)] R
theorem u_spans_of : U_spans_of F_spans_of := ⟨fun ps R h q => ⟨ps, h, .inl rfl, q⟩, fun ps R h q => ⟨ps, h, .inr rfl, q⟩⟩
theorem inS_filter (ps : Sp) (t : Int) : inS t (ps.filter fun p => decide (p.1 < p.2)) ↔ inS t ps := by
  constructor
  · rintro ⟨p, hp, h⟩; exact ⟨p, (List.mem_filter.mp hp).1, h⟩
  · rintro ⟨p, hp, h⟩; exact ⟨p, List.mem_filter.mpr ⟨hp, decide_eq_true (by omega)⟩, h⟩
theorem inS_perm {ps qs : Sp} (h : qs.Perm ps) (t : Int) : inS t qs ↔ inS t ps := ⟨fun ⟨p, hp, h2⟩ => ⟨p, h.mem_iff.mp hp, h2⟩, fun ⟨p, hp, h2⟩ => ⟨p, h.mem_iff.mpr hp, h2⟩⟩
/-- the loop of spans_of -/
theorem spans_loop (hZ : ArOk Z) (hY : YOk Y) {a0 : Option AV} {R : D → Prop} {qs : Sp} (hl : qs.length ≤ 5000) (hlt : ∀ p ∈ qs, p.1 < p.2) (hs : qs.Pairwise lexLe)
    (q : ∀ xs, Canon xs → (∀ t, inS t xs ↔ inS t qs) → R (spD xs)) :
    loopA (gTup 2 (gCons (gN 2) (gCons (gN 3) gNil))) (sIf (tAnd (tst (eOp (rGtZ Z) (eCall (rLenY Y) (aCons (eV 1) aNil)) (eC (.int 0)))) (tst (eOp (rLeZ Z) (eV 2) (eOp (rIxY Y) (eOp (rIxY Y) (eV 1) (eUn rNeg (eC (.int 1)))) (eC (.int 1))))))
      (sSeq (sAsg (ePopY Y (eV 1)) (gTup 2 (gCons (gN 4) (gCons (gN 5) gNil)))) (sExpr (eAppendY Y (eV 1) (aCons (eTup (aCons (eV 4) (aCons (eCall (rMax2Z Z) (aCons (eV 5) (aCons (eV 3) aNil))) aNil))) aNil)))) (sExpr (eAppendY Y (eV 1) (aCons (eTup (aCons (eV 2) (aCons (eV 3) aNil))) aNil))))
      (fun ρ h => sRet (eCall rTuple (aCons (eV 1) aNil)) (fun _ _ => R .non) (finA 0 fun d _ => R d) ρ h) (finA 0 fun d _ => R d) (qs.map pD) [a0, some (.ref 0), none, none, none, none] [.lst []] := by
  refine loop_of (fun i ρ h => ∃ a b c d found, ρ = [a0, some (AV.ref 0), a, b, c, d] ∧ h = [AO.lst (found.map pD)] ∧ MergeI found (qs.take i) (qs.drop i) ∧ found.length ≤ i) ?step ?last _ _ ?init
  case init => exact ⟨_, _, _, _, [], rfl, rfl, MergeI.start, Nat.le_refl _⟩
  case last =>
    rintro _ _ ⟨a, b, c, d, found, rfl, rfl, hm, hl2⟩
    have hm2 := hm.m
    rw [List.length_map, List.take_of_length_le (Nat.le_refl _)] at hm2
    have q := q found hm.c hm2
    unfold spD at q
    generalize found.map pD = fd at q ⊢
    cbv
    exact ⟨_, rfl, rfl, q⟩
  case step =>
    rintro i dd K _ _ hd hK ⟨a, b, c, d, found, rfl, rfl, hm, hl2⟩
    rw [List.getElem?_map] at hd
    obtain ⟨p, hp1, rfl⟩ := Option.map_eq_some_iff.mp hd
    have hi := (List.getElem?_eq_some_iff.mp hp1).1
    have hdr : qs.drop i = p :: qs.drop (i + 1) := by
      rw [List.drop_eq_getElem_cons hi]
      rw [List.getElem?_eq_getElem hi] at hp1
      rw [Option.some.inj hp1]
    have htk : qs.take (i + 1) = qs.take i ++ [p] := by rw [List.take_add_one, hp1]; rfl
    rw [hdr] at hm
    have hst := hm.step (hlt p (List.mem_of_getElem? hp1)) fun x hx => by
      have h2 := (hdr ▸ hs.drop (i := i) : (p :: qs.drop (i + 1)).Pairwise lexLe)
      have h3 := (List.pairwise_cons.mp h2).1 x hx
      unfold lexLe at h3
      omega
    rw [← htk] at hst
    have hl3 : (mergeStep found p).length ≤ i + 1 := Nat.le_trans (mergeStep_len _ _) (by omega)
    clear hm hdr htk hd
    obtain ⟨lo, hi2⟩ := p
    obtain ⟨fd, hfd⟩ : ∃ x, found.map pD = x := ⟨_, rfl⟩
    have hfl : fd.length = found.length := by rw [← hfd, List.length_map]
    rw [hfd]
    cbv
    rw [hZ.lt, hY.len]
    rcases List.eq_nil_or_concat found with hnil | ⟨ini, ⟨x, y⟩, hcon⟩
    · have e1 : decide ((0 : Int) < (fd.length : Int)) = false := by rw [hfl, hnil]; rfl
      rw [e1]
      cbv
      rw [hY.fit, hY.app]
      refine ⟨by rw [sizeLine_eq]; omega, hK _ _ ⟨_, _, _, _, mergeStep found (lo, hi2), rfl, ?_, hst, hl3⟩⟩
      rw [← hfd, hnil]; rfl
    · have e1 : decide ((0 : Int) < (fd.length : Int)) = true := by rw [hfl, hcon]; simp
      have hfi : fd = ini.map pD ++ [D.tup [.int x, .int y]] := by rw [← hfd, hcon]; simp [pD]
      have at1 : atI fd (-1) = some (.tup [.int x, .int y]) := by rw [hfi]; exact atI_last _ _
      have at3 : ∀ d e : D, atI [d, e] 1 = some e := fun d e => atI1 _ _ _
      have hil : (ini.map pD).length + 1 = fd.length := by rw [hfi]; simp
      rw [e1]
      cbv
      rw [hY.at_, at1]
      cbv
      rw [hY.at_, at3]
      cbv
      rw [hZ.le]
      by_cases h3 : lo ≤ y
      · have hms : mergeStep found (lo, hi2) = ini ++ [(x, max y hi2)] := by
          have e : found = ini ++ [(x, y)] := by rw [hcon]; simp
          unfold mergeStep
          rw [e, List.getLast?_concat]
          simp only [if_pos h3, List.dropLast_concat]
        have hla : fd[fd.length - 1]? = some (D.tup [.int x, .int y]) := by
          rw [hfi, List.length_append, List.length_singleton, Nat.add_sub_cancel, List.getElem?_append_right (Nat.le_refl _), Nat.sub_self]; rfl
        have hdl : fd.dropLast = ini.map pD := by rw [hfi, List.dropLast_concat]
        rw [hms] at hst hl3
        rw [decide_eq_true h3]
        cbv
        rw [hY.last, hla]
        cbv
        rw [hY.init, hdl, hY.fit, hY.app, hZ.mx]
        refine ⟨by rw [sizeLine_eq]; omega, hK _ _ ⟨_, _, _, _, ini ++ [(x, max y hi2)], rfl, ?_, hst, hl3⟩⟩
        rw [List.map_append]; rfl
      · have hms : mergeStep found (lo, hi2) = found ++ [(lo, hi2)] := by
          have e : found = ini ++ [(x, y)] := by rw [hcon]; simp
          unfold mergeStep
          rw [e, List.getLast?_concat]
          simp only [if_neg h3]
        rw [hms] at hst hl3
        rw [decide_eq_false h3]
        cbv
        rw [hY.fit, hY.app]
        refine ⟨by rw [sizeLine_eq]; omega, hK _ _ ⟨_, _, _, _, found ++ [(lo, hi2)], rfl, ?_, hst, hl3⟩⟩
        rw [List.map_append, hfd]; rfl
theorem sp_spans_of (hZ : ArOk Z) (hY : YOk Y) : SpecP 1 6 (d_spans_of Z Y) F_spans_of := by
  rintro _ R _ ⟨ps, hl, hd, q⟩
  obtain ⟨fs, hfs⟩ : ∃ x, (ps.filter fun p => decide (p.1 < p.2)) = x := ⟨_, rfl⟩
  obtain ⟨pd, hpd⟩ : ∃ x, ps.map pD = x := ⟨_, rfl⟩
  have hpl : pd.length = ps.length := by rw [← hpd, List.length_map]
  have hff : (pd.filter ltD).map (fun d => d) = fs.map pD := by
    rw [← hpd, List.filter_map, List.map_id', ← hfs]; rfl
  rcases hd with rfl | rfl
  all_goals
    rw [hpd]
    cbv
    rw [hY.lc]
    refine lc_pure ltD (fun d => d) pd [] (fun d hd => ?_) (by rw [sizeLine_eq]; simp; omega) ?_
    · rw [← hpd] at hd
      obtain ⟨⟨a, b⟩, hp, rfl⟩ := List.mem_map.mp hd
      refine ⟨_, rfl, fun K hK => ?_, fun _ K hK => ?_⟩
      · have hK : K (decide (a < b)) [.lst []] := hK
        cbv
        rw [hZ.lt]
        exact hK
      · cbv
        exact hK
    · rw [List.nil_append, hff]
      have hpl2 := pL_map fs
      obtain ⟨fd, hfd⟩ : ∃ x, fs.map pD = x := ⟨_, rfl⟩
      rw [hfd] at hpl2 ⊢
      cbv
      rw [hY.pL, hpl2]
      intro qs hp hs
      obtain ⟨qd, hqd⟩ : ∃ x, qs.map pD = x := ⟨_, rfl⟩
      rw [hqd]
      cbv
      rw [hY.loop, ← hqd]
      have hmem : ∀ t, inS t qs ↔ inS t ps := fun t => by rw [inS_perm hp, ← hfs, inS_filter]
      refine spans_loop hZ hY (by rw [hp.length_eq, ← hfs]; exact Nat.le_trans (List.length_filter_le _ _) hl) (fun p hp2 => ?_) hs fun xs hc hx => q xs hc fun t => (hx t).trans (hmem t)
      have := hp.mem_iff.mp hp2
      rw [← hfs] at this
      exact of_decide_eq_true (List.mem_filter.mp this).2
end AL
end
section
set_option Elab.async false
set_option linter.all false
set_option maxRecDepth 100000
set_option maxHeartbeats 4000000
/-! S15: more of spans. -/
namespace AL
open PySem PySem.Spec PyProof.Rows L2
variable {Z : Ar} {Y : LY}
def F_both_of : PFs := fun ds R => ∃ xs ys : Sp, Canon xs ∧ Canon ys ∧ xs.length ≤ 2000 ∧ ys.length ≤ 2000 ∧ ds = [spD xs, spD ys] ∧ ∀ zs, Canon zs → (∀ t, inS t zs ↔ inS t xs ∧ inS t ys) → R (spD zs)
def U_both_of (F : PFs) : Prop := ∀ (xs ys : Sp) R, Canon xs → Canon ys → xs.length ≤ 2000 → ys.length ≤ 2000 → (∀ zs, Canon zs → (∀ t, inS t zs ↔ inS t xs ∧ inS t ys) → R (spD zs)) → F [spD xs, spD ys] R
theorem u_both_of : U_both_of F_both_of := fun xs ys R h1 h2 h3 h4 q => ⟨xs, ys, h1, h2, h3, h4, rfl, q⟩
theorem bothF_n1 (n : Nat) (ys : Sp) : bothF n [] ys = [] := by cases n <;> rfl
theorem bothF_n2 (n : Nat) (xs : Sp) : bothF n xs [] = [] := by cases n <;> cases xs <;> rfl
theorem drop_at {α : Type} {xs : List α} {i : Nat} {p : α} (h : xs[i]? = some p) : xs.drop i = p :: xs.drop (i + 1) := by
  have hi := (List.getElem?_eq_some_iff.mp h).1
  rw [List.drop_eq_getElem_cons hi]
  rw [List.getElem?_eq_getElem hi] at h
  rw [Option.some.inj h]
theorem sp_both_of (hZ : ArOk Z) (hY : YOk Y) : SpecP 2 7 (d_both_of Z Y) F_both_of := by
  rintro _ R _ ⟨xs, ys, cx, cy, lx, ly, rfl, q⟩
  unfold spD
  obtain ⟨xd, hxd⟩ : ∃ x, xs.map pD = x := ⟨_, rfl⟩
  obtain ⟨yd, hyd⟩ : ∃ x, ys.map pD = x := ⟨_, rfl⟩
  have hxl : xd.length = xs.length := by rw [← hxd, List.length_map]
  have hyl : yd.length = ys.length := by rw [← hyd, List.length_map]
  have hat : ∀ {xs : Sp} {i : Nat} {p : Int × Int}, xs[i]? = some p → atI (xs.map pD) (i : Int) = some (.tup [.int p.1, .int p.2]) := fun h => atI_nat (by rw [List.getElem?_map, h]; rfl)
  rw [hxd, hyd]
  cbv
  rw [hY.whl]
  refine while_of (fun m ρ h => ∃ (a b : Option AV) (fd : List D) (i j : Nat) (found : Sp), ρ = [some (AV.dat (.tup xd)), some (AV.dat (.tup yd)), some (AV.ref 0), some (AV.dat (.int (i : Nat))), some (AV.dat (.int (j : Nat))), a, b] ∧ h = [AO.lst fd] ∧ fd = found.map pD ∧
    m = (xs.length - i) + (ys.length - j) + 1 ∧ i ≤ xs.length ∧ j ≤ ys.length ∧ found.length ≤ i + j ∧ found ++ bothF ((xs.length - i) + (ys.length - j)) (xs.drop i) (ys.drop j) = bothF (xs.length + ys.length) xs ys) ?step ?zero (xs.length + ys.length + 1) _ _ ?init
  case init => exact ⟨_, _, [], 0, 0, [], rfl, rfl, rfl, rfl, Nat.zero_le _, Nat.zero_le _, Nat.zero_le _, rfl⟩
  case zero =>
    rintro ρ h ⟨a, b, fd, i, j, found, _, _, _, h, _⟩
    omega
  case step =>
    rintro mm K _ _ hK ⟨a, b, fd, i, j, found, rfl, rfl, hfd, hm, hi, hj, hfl, hinv⟩
    have fin : (xs.length ≤ i ∨ ys.length ≤ j) → R (.tup fd) := fun h => by
      have e : found = bothF (xs.length + ys.length) xs ys := by
        rw [← hinv]
        rcases h with h | h
        · rw [List.drop_eq_nil_of_le h, bothF_n1, List.append_nil]
        · rw [List.drop_eq_nil_of_le h, bothF_n2, List.append_nil]
      rw [hfd, e]
      exact q _ (bothF_canon _ _ _ cx cy) (bothF_mem _ _ _ cx cy (Nat.le_refl _))
    have hfdl : fd.length ≤ i + j := by rw [hfd, List.length_map]; exact hfl
    obtain ⟨ii, hii⟩ : ∃ x : Int, (i : Int) = x := ⟨_, rfl⟩
    obtain ⟨jj, hjj⟩ : ∃ x : Int, (j : Int) = x := ⟨_, rfl⟩
    rw [hii, hjj]
    cbv
    rw [hZ.lt, hY.len]
    by_cases h1 : ii < (xd.length : Int)
    · have h1' : i < xs.length := by
        have h6 := h1
        rw [hxl, ← hii] at h6
        exact Int.ofNat_lt.mp h6
      rw [decide_eq_true h1]
      cbv
      rw [hZ.lt, hY.len]
      by_cases h2 : jj < (yd.length : Int)
      · have h2' : j < ys.length := by
          have h6 := h2
          rw [hyl, ← hjj] at h6
          exact Int.ofNat_lt.mp h6
        rw [decide_eq_true h2]
        obtain ⟨p, hp⟩ : ∃ p, xs[i]? = some p := ⟨_, List.getElem?_eq_getElem h1'⟩
        obtain ⟨q', hq⟩ : ∃ p, ys[j]? = some p := ⟨_, List.getElem?_eq_getElem h2'⟩
        have ax := hat hp
        have ay := hat hq
        rw [hxd, hii] at ax
        rw [hyd, hjj] at ay
        rw [drop_at hp, drop_at hq] at hinv
        have hn : xs.length - i + (ys.length - j) = (xs.length - (i + 1) + (ys.length - j)) + 1 := by omega
        have hn2 : xs.length - i + (ys.length - (j + 1)) = xs.length - (i + 1) + (ys.length - j) := by omega
        rw [hn, bothF] at hinv
        obtain ⟨a, b⟩ := p
        obtain ⟨c, d⟩ := q'
        simp only at hinv
        have b0 : ∀ d e : D, atI [d, e] 0 = some d := fun d e => atI0 _ _
        have b1 : ∀ d e : D, atI [d, e] 1 = some e := fun d e => atI1 _ _ _
        cbv
        rw [hY.at_, ax]
        cbv
        rw [hY.at_, b0]
        cbv
        rw [hY.at_, ay]
        cbv
        rw [hY.at_, b0]
        cbv
        rw [hY.at_, ax]
        cbv
        rw [hY.at_, b1]
        cbv
        rw [hY.at_, ay]
        cbv
        rw [hY.at_, b1]
        cbv
        rw [hZ.lt, hZ.mx, hZ.mn]
        -- the advance
        have adv : ∀ (fd' : List D) (found' : Sp) (u v : Option AV) (K2 : En → AH → Prop), K2 = K → fd' = found'.map pD → found'.length ≤ i + j + 1 → found' ++ (if b ≤ d then bothF (xs.length - (i + 1) + (ys.length - j)) (xs.drop (i + 1)) ((c, d) :: ys.drop (j + 1)) else bothF (xs.length - (i + 1) + (ys.length - j)) ((a, b) :: xs.drop (i + 1)) (ys.drop (j + 1))) = bothF (xs.length + ys.length) xs ys →
            (sIf (tst (eOp (rLeZ Z) (eOp (rIxY Y) (eOp (rIxY Y) (eV 0) (eV 3)) (eC (.int 1))) (eOp (rIxY Y) (eOp (rIxY Y) (eV 1) (eV 4)) (eC (.int 1))))) (sAug 3 (Z .plus) (eC (.int 1))) (sAug 4 (Z .plus) (eC (.int 1)))) K2 (finA 0 fun d x => R d)
              [some (AV.dat (.tup xd)), some (AV.dat (.tup yd)), some (AV.ref 0), some (AV.dat (.int ii)), some (AV.dat (.int jj)), u, v] [AO.lst fd'] := by
          intro fd' found' u v K2 hK2 hfd' hl' hi'
          subst hK2
          cbv
          rw [hY.at_, ax]
          cbv
          rw [hY.at_, b1]
          cbv
          rw [hY.at_, ay]
          cbv
          rw [hY.at_, b1]
          cbv
          rw [hZ.le]
          by_cases h3 : b ≤ d
          · rw [if_pos h3] at hi'
            rw [decide_eq_true h3]
            cbv
            rw [hZ.plus]
            refine hK _ _ ⟨u, v, fd', i + 1, j, found', ?_, rfl, hfd', by omega, by omega, hj, by omega, ?_⟩
            · rw [← hii, ← hjj]; simp
            · rw [drop_at hq]; exact hi'
          · rw [if_neg h3] at hi'
            rw [decide_eq_false h3]
            cbv
            rw [hZ.plus]
            refine hK _ _ ⟨u, v, fd', i, j + 1, found', ?_, rfl, hfd', by omega, hi, by omega, by omega, ?_⟩
            · rw [← hii, ← hjj]; simp
            · rw [hn2, drop_at hp]; exact hi'
        by_cases h3 : max a c < min b d
        · rw [if_pos h3, ← List.append_assoc] at hinv
          rw [decide_eq_true h3]
          obtain ⟨lo, hlo⟩ : ∃ x, max a c = x := ⟨_, rfl⟩
          obtain ⟨up, hup⟩ : ∃ x, min b d = x := ⟨_, rfl⟩
          rw [hlo, hup] at hinv ⊢
          generalize sIf _ _ _ = NX at adv ⊢
          cbv
          rw [hY.fit, hY.app]
          refine ⟨by rw [sizeLine_eq]; omega, ?_⟩
          refine adv _ (found ++ [(lo, up)]) _ _ _ rfl ?_ (by simp; omega) hinv
          rw [hfd, List.map_append]; rfl
        · rw [if_neg h3, List.nil_append] at hinv
          rw [decide_eq_false h3]
          generalize max a c = lo
          generalize min b d = up
          generalize sIf _ _ _ = NX at adv ⊢
          cbv
          exact adv _ found _ _ _ rfl hfd (by omega) hinv
      · rw [decide_eq_false h2]
        have q := fin (.inr (by
          have h6 := h2
          rw [hyl, ← hjj] at h6
          exact Nat.le_of_not_lt fun h => h6 (Int.ofNat_lt.mpr h)))
        cbv
        exact ⟨_, rfl, rfl, q⟩
    · rw [decide_eq_false h1]
      have q := fin (.inl (by
        have h6 := h1
        rw [hxl, ← hii] at h6
        exact Nat.le_of_not_lt fun h => h6 (Int.ofNat_lt.mpr h)))
      cbv
      exact ⟨_, rfl, rfl, q⟩
end AL
end
section
set_option Elab.async false
set_option linter.all false
set_option maxRecDepth 100000
set_option maxHeartbeats 4000000
/-! S16: either_of, others, later, grown, worn, between, first_of, points. -/
namespace AL
open PySem PySem.Spec PyProof.Rows L2
variable {Z : Ar} {Y : LY}
def F_either_of : PFs := fun ds R => ∃ xs ys : Sp, xs.length ≤ 2000 ∧ ys.length ≤ 2000 ∧ ds = [spD xs, spD ys] ∧ ∀ zs, Canon zs → (∀ t, inS t zs ↔ inS t xs ∨ inS t ys) → R (spD zs)
def U_either_of (F : PFs) : Prop := ∀ (xs ys : Sp) R, xs.length ≤ 2000 → ys.length ≤ 2000 → (∀ zs, Canon zs → (∀ t, inS t zs ↔ inS t xs ∨ inS t ys) → R (spD zs)) → F [spD xs, spD ys] R
theorem u_either_of : U_either_of F_either_of := fun xs ys R h3 h4 q => ⟨xs, ys, h3, h4, rfl, q⟩
theorem sp_either_of {F : PFs} (hZ : ArOk Z) (hY : YOk Y) (U : U_spans_of F) : SpecP 2 2 (d_either_of Z Y F) F_either_of := by
  rintro _ R _ ⟨xs, ys, lx, ly, rfl, q⟩
  have U' := fun R' => U.tup (xs ++ ys) R' (by simp; omega)
  unfold spD
  rw [List.map_append] at U'
  obtain ⟨xd, hxd⟩ : ∃ x, xs.map pD = x := ⟨_, rfl⟩
  obtain ⟨yd, hyd⟩ : ∃ x, ys.map pD = x := ⟨_, rfl⟩
  have hxl : xd.length = xs.length := by rw [← hxd, List.length_map]
  have hyl : yd.length = ys.length := by rw [← hyd, List.length_map]
  rw [hxd, hyd] at U' ⊢
  cbv
  rw [hY.fit2, hY.app]
  refine ⟨by rw [sizeLine_eq]; omega, U' _ fun zs hc hm => ?_⟩
  have q := q zs hc fun t => by rw [hm, inS_append]
  unfold spD at q ⊢
  generalize zs.map pD = zd at q ⊢
  cbv
  exact ⟨_, rfl, rfl, q⟩
/-! ### others -/
def gapP (T : Int) (d : D) : Bool := match d with | .tup [.int a, .int b] => decide (a < min b T) | _ => false
def gapF (T : Int) (d : D) : D := match d with | .tup [.int a, .int b] => .tup [.int a, .int (min b T)] | _ => .non
def sndI (d : D) : D := match d with | .tup [_, b] => b | _ => .non
def fstI (d : D) : D := match d with | .tup [a, _] => a | _ => .non
theorem gaps (T : Int) : ∀ (xs : Sp) (b : Int), ((zpD (.int b :: (xs.map pD).map sndI) ((xs.map pD).map fstI ++ [.int T])).filter (gapP T)).map (gapF T) = (othersF T b xs).map pD
  | [], b => by
    unfold othersF
    show ([D.tup [.int b, .int T]].filter (gapP T)).map (gapF T) = _
    by_cases h : b < min T T
    · rw [if_pos h, List.filter_cons_of_pos (by show decide (b < min T T) = true; exact decide_eq_true h)]; rfl
    · rw [if_neg h, List.filter_cons_of_neg (by show ¬ decide (b < min T T) = true; simpa using h)]; rfl
  | p :: xs, b => by
    have ih := gaps T xs p.2
    unfold othersF
    show ((D.tup [.int b, .int p.1] :: zpD (.int p.2 :: (xs.map pD).map sndI) ((xs.map pD).map fstI ++ [.int T])).filter (gapP T)).map (gapF T) = _
    rw [List.map_append, ← ih]
    by_cases h : b < min p.1 T
    · rw [if_pos h, List.filter_cons_of_pos (by show decide (b < min p.1 T) = true; exact decide_eq_true h)]; rfl
    · rw [if_neg h, List.filter_cons_of_neg (by show ¬ decide (b < min p.1 T) = true; simpa using h)]; rfl
def F_others : PFs := fun ds R => ∃ (xs : Sp) (T : Int), xs.length ≤ 2000 ∧ ds = [spD xs, .int T] ∧ R (spD (othersF T 0 xs))
def U_others (F : PFs) : Prop := ∀ (xs : Sp) (T : Int) R, xs.length ≤ 2000 → R (spD (othersF T 0 xs)) → F [spD xs, .int T] R
theorem u_others : U_others F_others := fun xs T R h q => ⟨xs, T, h, rfl, q⟩
theorem sp_others (hZ : ArOk Z) (hY : YOk Y) : SpecP 2 6 (d_others Z Y) F_others := by
  rintro _ R _ ⟨xs, T, hl, rfl, q⟩
  have hg := gaps T xs 0
  unfold spD at q ⊢
  obtain ⟨xd, hxd⟩ : ∃ x, xs.map pD = x := ⟨_, rfl⟩
  have hxl : xd.length = xs.length := by rw [← hxd, List.length_map]
  have hall : ∀ d ∈ xd, ∃ a b, d = .tup [.int a, .int b] := fun d hd => by
    rw [← hxd] at hd
    obtain ⟨p, _, rfl⟩ := List.mem_map.mp hd
    exact ⟨_, _, rfl⟩
  rw [hxd] at hg ⊢
  obtain ⟨od, hod⟩ : ∃ x, (othersF T 0 xs).map pD = x := ⟨_, rfl⟩
  rw [hod] at q hg
  cbv
  rw [hY.lc]
  refine lc_map sndI (ds := xd) (fun d hd => ?_) (by rw [sizeLine_eq]; omega) ?_
  · obtain ⟨a, b, rfl⟩ := hall d hd
    exact ⟨_, rfl, fun K hK => hK⟩
  obtain ⟨hi, hhi⟩ : ∃ x, xd.map sndI = x := ⟨_, rfl⟩
  have hhl : hi.length = xd.length := by rw [← hhi, List.length_map]
  rw [hhi] at hg ⊢
  cbv
  rw [hY.fit2, hY.app]
  refine ⟨by rw [sizeLine_eq]; simp; omega, ?_⟩
  rw [hY.lc]
  refine lc_map fstI (ds := xd) (fun d hd => ?_) (by rw [sizeLine_eq]; omega) ?_
  · obtain ⟨a, b, rfl⟩ := hall d hd
    exact ⟨_, rfl, fun K hK => hK⟩
  obtain ⟨lo, hlo⟩ : ∃ x, xd.map fstI = x := ⟨_, rfl⟩
  have hll : lo.length = xd.length := by rw [← hlo, List.length_map]
  rw [hlo] at hg ⊢
  cbv
  rw [hY.fit2, hY.app]
  refine ⟨by rw [sizeLine_eq]; simp; omega, ?_⟩
  rw [hY.zip_, hY.lc]
  have e0 : [D.int 0] ++ hi = .int 0 :: hi := rfl
  have hall2 : ∀ d ∈ zpD (.int 0 :: hi) (lo ++ [.int T]), ∃ a b, d = .tup [.int a, .int b] := fun d hd => by
    obtain ⟨i, hi2⟩ := List.getElem?_of_mem hd
    obtain ⟨a, b, h1, h2, rfl⟩ := zpD_get hi2
    have ha : ∃ x, a = .int x := by
      rcases List.mem_cons.mp (List.mem_of_getElem? h1) with rfl | h
      · exact ⟨_, rfl⟩
      · rw [← hhi] at h
        obtain ⟨d2, hd2, rfl⟩ := List.mem_map.mp h
        obtain ⟨x, y, rfl⟩ := hall d2 hd2
        exact ⟨_, rfl⟩
    have hb : ∃ x, b = .int x := by
      rcases List.mem_append.mp (List.mem_of_getElem? h2) with h | h
      · rw [← hlo] at h
        obtain ⟨d2, hd2, rfl⟩ := List.mem_map.mp h
        obtain ⟨x, y, rfl⟩ := hall d2 hd2
        exact ⟨_, rfl⟩
      · exact ⟨_, List.mem_singleton.mp h⟩
    obtain ⟨x, rfl⟩ := ha
    obtain ⟨y, rfl⟩ := hb
    exact ⟨_, _, rfl⟩
  have hzl : (zpD (.int 0 :: hi) (lo ++ [.int T])).length ≤ 2001 := by rw [zpD_length, List.length_cons, List.length_append]; simp; omega
  generalize zpD (.int 0 :: hi) (lo ++ [.int T]) = zd at hg hall2 hzl ⊢
  refine lc_pure (gapP T) (gapF T) zd [] (fun d hd => ?_) (by rw [sizeLine_eq]; simp; omega) ?_
  · obtain ⟨a, b, rfl⟩ := hall2 d hd
    refine ⟨_, rfl, fun K hK => ?_, fun _ K hK => ?_⟩
    · have hK : K (decide (a < min b T)) [] := hK
      cbv
      rw [hZ.lt, hZ.mn]
      exact hK
    · have hK : K (.dat (.tup [.int a, .int (min b T)])) [] := hK
      cbv
      rw [hZ.mn]
      exact hK
  · rw [List.nil_append, hg]
    cbv
    exact ⟨_, rfl, rfl, q⟩
/-! ### later, grown, worn -/
def F_later : PFs := fun ds R => ∃ (xs : Sp) (n : Int), xs.length ≤ 2000 ∧ ds = [spD xs, .int n] ∧ R (spD (xs.map fun p => (p.1 + n, p.2 + n)))
def U_later (F : PFs) : Prop := ∀ (xs : Sp) (n : Int) R, xs.length ≤ 2000 → R (spD (xs.map fun p => (p.1 + n, p.2 + n))) → F [spD xs, .int n] R
theorem u_later : U_later F_later := fun xs n R h q => ⟨xs, n, h, rfl, q⟩
def shD (n : Int) (d : D) : D := match d with | .tup [.int a, .int b] => .tup [.int (a + n), .int (b + n)] | _ => .non
theorem sp_later (hZ : ArOk Z) (hY : YOk Y) : SpecP 2 4 (d_later Z Y) F_later := by
  rintro _ R _ ⟨xs, n, hl, rfl, q⟩
  unfold spD at q ⊢
  have e : (xs.map pD).map (shD n) = (xs.map fun p => (p.1 + n, p.2 + n)).map pD := by rw [List.map_map, List.map_map]; rfl
  rw [← e] at q
  obtain ⟨xd, hxd⟩ : ∃ x, xs.map pD = x := ⟨_, rfl⟩
  have hxl : xd.length = xs.length := by rw [← hxd, List.length_map]
  rw [hxd] at q ⊢
  cbv
  rw [hY.lc]
  refine lc_map (shD n) (ds := xd) (fun d hd => ?_) (by rw [sizeLine_eq]; omega) ?_
  · rw [← hxd] at hd
    obtain ⟨⟨a, b⟩, hp, rfl⟩ := List.mem_map.mp hd
    refine ⟨_, rfl, fun K hK => ?_⟩
    have hK : K (.dat (.tup [.int (a + n), .int (b + n)])) [] := hK
    cbv
    rw [hZ.plus, hZ.plus]
    exact hK
  · generalize xd.map (shD n) = yd at q ⊢
    cbv
    exact ⟨_, rfl, rfl, q⟩
def F_grown : PFs := fun ds R => ∃ (xs : Sp) (n : Int), xs.length ≤ 2000 ∧ ds = [spD xs, .int n] ∧ ∀ zs, Canon zs → (∀ t, inS t zs ↔ inS t (xs.map fun p => (p.1, p.2 + n))) → R (spD zs)
def U_grown (F : PFs) : Prop := ∀ (xs : Sp) (n : Int) R, xs.length ≤ 2000 → (∀ zs, Canon zs → (∀ t, inS t zs ↔ inS t (xs.map fun p => (p.1, p.2 + n))) → R (spD zs)) → F [spD xs, .int n] R
theorem u_grown : U_grown F_grown := fun xs n R h q => ⟨xs, n, h, rfl, q⟩
def grD (n : Int) (d : D) : D := match d with | .tup [.int a, .int b] => .tup [.int a, .int (b + n)] | _ => .non
theorem sp_grown {F : PFs} (hZ : ArOk Z) (hY : YOk Y) (U : U_spans_of F) : SpecP 2 4 (d_grown Z Y F) F_grown := by
  rintro _ R _ ⟨xs, n, hl, rfl, q⟩
  have U' := fun R' => U.lst (xs.map fun p => (p.1, p.2 + n)) R' (by rw [List.length_map]; omega)
  unfold spD
  have e : (xs.map pD).map (grD n) = (xs.map fun p => (p.1, p.2 + n)).map pD := by rw [List.map_map, List.map_map]; rfl
  rw [← e] at U'
  obtain ⟨xd, hxd⟩ : ∃ x, xs.map pD = x := ⟨_, rfl⟩
  have hxl : xd.length = xs.length := by rw [← hxd, List.length_map]
  rw [hxd] at U' ⊢
  cbv
  rw [hY.lc]
  refine lc_map (grD n) (ds := xd) (fun d hd => ?_) (by rw [sizeLine_eq]; omega) ?_
  · rw [← hxd] at hd
    obtain ⟨⟨a, b⟩, hp, rfl⟩ := List.mem_map.mp hd
    refine ⟨_, rfl, fun K hK => ?_⟩
    have hK : K (.dat (.tup [.int a, .int (b + n)])) [] := hK
    cbv
    rw [hZ.plus]
    exact hK
  · generalize xd.map (grD n) = yd at U' ⊢
    cbv
    refine U' _ fun zs hc hm => ?_
    have q := q zs hc hm
    unfold spD at q ⊢
    generalize zs.map pD = zd at q ⊢
    cbv
    exact ⟨_, rfl, rfl, q⟩
def F_worn : PFs := fun ds R => ∃ (xs : Sp) (n : Int), xs.length ≤ 2000 ∧ ds = [spD xs, .int n] ∧ R (spD ((xs.filter fun p => decide (p.1 + n < p.2)).map fun p => (p.1 + n, p.2)))
def U_worn (F : PFs) : Prop := ∀ (xs : Sp) (n : Int) R, xs.length ≤ 2000 → R (spD ((xs.filter fun p => decide (p.1 + n < p.2)).map fun p => (p.1 + n, p.2))) → F [spD xs, .int n] R
theorem u_worn : U_worn F_worn := fun xs n R h q => ⟨xs, n, h, rfl, q⟩
def woP (n : Int) (d : D) : Bool := match d with | .tup [.int a, .int b] => decide (a + n < b) | _ => false
def woD (n : Int) (d : D) : D := match d with | .tup [.int a, .int b] => .tup [.int (a + n), .int b] | _ => .non
theorem sp_worn (hZ : ArOk Z) (hY : YOk Y) : SpecP 2 4 (d_worn Z Y) F_worn := by
  rintro _ R _ ⟨xs, n, hl, rfl, q⟩
  unfold spD at q ⊢
  have e : ((xs.map pD).filter (woP n)).map (woD n) = ((xs.filter fun p => decide (p.1 + n < p.2)).map fun p => (p.1 + n, p.2)).map pD := by rw [List.filter_map, List.map_map, List.map_map]; rfl
  rw [← e] at q
  obtain ⟨xd, hxd⟩ : ∃ x, xs.map pD = x := ⟨_, rfl⟩
  have hxl : xd.length = xs.length := by rw [← hxd, List.length_map]
  rw [hxd] at q ⊢
  cbv
  rw [hY.lc]
  refine lc_pure (woP n) (woD n) xd [] (fun d hd => ?_) (by rw [sizeLine_eq]; simp; omega) ?_
  · rw [← hxd] at hd
    obtain ⟨⟨a, b⟩, hp, rfl⟩ := List.mem_map.mp hd
    refine ⟨_, rfl, fun K hK => ?_, fun _ K hK => ?_⟩
    · have hK : K (decide (a + n < b)) [] := hK
      cbv
      rw [hZ.lt, hZ.plus]
      exact hK
    · have hK : K (.dat (.tup [.int (a + n), .int b])) [] := hK
      cbv
      rw [hZ.plus]
      exact hK
  · rw [List.nil_append]
    generalize (xd.filter (woP n)).map (woD n) = yd at q ⊢
    cbv
    exact ⟨_, rfl, rfl, q⟩
/-! ### between, first_of, points -/
def F_between : PFs := fun ds R => ∃ (xs : Sp) (a b : Int), Canon xs ∧ xs.length ≤ 2000 ∧ ds = [spD xs, .int a, .int b] ∧ ∀ zs, Canon zs → (∀ t, inS t zs ↔ inS t xs ∧ a ≤ t ∧ t < b) → R (spD zs)
def U_between (F : PFs) : Prop := ∀ (xs : Sp) (a b : Int) R, Canon xs → xs.length ≤ 2000 → (∀ zs, Canon zs → (∀ t, inS t zs ↔ inS t xs ∧ a ≤ t ∧ t < b) → R (spD zs)) → F [spD xs, .int a, .int b] R
theorem u_between : U_between F_between := fun xs a b R h1 h2 q => ⟨xs, a, b, h1, h2, rfl, q⟩
theorem sp_between {F F2 : PFs} (hZ : ArOk Z) (hY : YOk Y) (U : U_spans_of F) (U2 : U_both_of F2) : SpecP 3 3 (d_between Z Y F F2) F_between := by
  rintro _ R _ ⟨xs, a, b, hc, hl, rfl, q⟩
  have U' : ∀ R', (∀ ys, Canon ys → (∀ t, inS t ys ↔ inS t [(a, b)]) → R' (spD ys)) → F [.lst [.tup [.int a, .int b]]] R' := fun R' h => U.lst [(a, b)] R' (by simp) h
  have U2' := fun ys R' h1 h2 => U2 xs ys R' hc h1 hl h2
  unfold spD at U' U2' ⊢
  generalize xs.map pD = xd at U2' ⊢
  cbv
  refine U' _ fun ys hy hm => ?_
  have hyl : ys.length ≤ 2000 := by
    have e : ys = if a < b then [(a, b)] else [] := canon_uniq hy (by split; exact Canon.one ‹_›; exact Canon.nil) fun t => by
      rw [hm]
      split
      · rfl
      · rw [inS_one]; exact ⟨fun h => by omega, fun h => absurd h inS_nil⟩
    rw [e]
    split <;> simp
  have U3 := fun R' => U2' ys R' hy hyl
  generalize ys.map pD = yd at U3 ⊢
  cbv
  refine U3 _ fun zs hz hm2 => ?_
  have q := q zs hz fun t => by rw [hm2, hm, inS_one]
  unfold spD at q
  generalize zs.map pD = zd at q ⊢
  cbv
  exact ⟨_, rfl, rfl, q⟩
def F_first_of : PFs := fun ds R => ∃ (xs : Sp), ds = [spD xs] ∧ (xs = [] → R .non) ∧ ∀ p ps, xs = p :: ps → R (.int p.1)
def U_first_of (F : PFs) : Prop := ∀ (xs : Sp) R, (xs = [] → R .non) → (∀ p ps, xs = p :: ps → R (.int p.1)) → F [spD xs] R
theorem u_first_of : U_first_of F_first_of := fun xs R h q => ⟨xs, rfl, h, q⟩
theorem sp_first_of (hZ : ArOk Z) (hY : YOk Y) : SpecP 1 1 (d_first_of Z Y) F_first_of := by
  rintro _ R _ ⟨xs, rfl, q1, q2⟩
  cases xs with
  | nil =>
    have q := q1 rfl
    show d_first_of Z Y _ _ [some (.dat (.tup []))] []
    cbv
    rw [hY.len]
    cbv
    exact ⟨_, rfl, rfl, q⟩
  | cons p ps =>
    have q := q2 p ps rfl
    obtain ⟨a, b⟩ := p
    show d_first_of Z Y _ _ [some (.dat (.tup (.tup [.int a, .int b] :: ps.map pD)))] []
    generalize ps.map pD = pd
    have hne : decide (Y .len (D.tup [.int a, .int b] :: pd) = 0) = false := by rw [hY.len]; exact decide_eq_false (by rw [List.length_cons]; omega)
    have at0 : atI (D.tup [.int a, .int b] :: pd) 0 = some (.tup [.int a, .int b]) := atI0 _ _
    have b0 : ∀ d e : D, atI [d, e] 0 = some d := fun d e => atI0 _ _
    cbv
    rw [hne]
    cbv
    rw [hY.at_, at0]
    cbv
    rw [hY.at_, b0]
    cbv
    exact ⟨_, rfl, rfl, q⟩
def F_points : PFs := fun ds R => ∃ ms : List Int, ms.length ≤ 2000 ∧ (ds = [.tup (ms.map .int)] ∨ ds = [.lst (ms.map .int)]) ∧ ∀ zs, Canon zs → (∀ t, inS t zs ↔ t ∈ ms) → R (spD zs)
structure U_points (F : PFs) : Prop where
  tup : ∀ (ms : List Int) R, ms.length ≤ 2000 → (∀ zs, Canon zs → (∀ t, inS t zs ↔ t ∈ ms) → R (spD zs)) → F [.tup (ms.map .int)] R
  lst : ∀ (ms : List Int) R, ms.length ≤ 2000 → (∀ zs, Canon zs → (∀ t, inS t zs ↔ t ∈ ms) → R (spD zs)) → F [.lst (ms.map .int)] R
theorem u_points : U_points F_points := ⟨fun ps R h q => ⟨ps, h, .inl rfl, q⟩, fun ps R h q => ⟨ps, h, .inr rfl, q⟩⟩
def poD (d : D) : D := match d with | .int m => .tup [.int m, .int (m + 1)] | _ => .non
theorem sp_points {F : PFs} (hZ : ArOk Z) (hY : YOk Y) (U : U_spans_of F) : SpecP 1 2 (d_points Z Y F) F_points := by
  rintro _ R _ ⟨ms, hl, hd, q⟩
  have U' := fun R' => U.lst (ms.map fun m => (m, m + 1)) R' (by rw [List.length_map]; omega)
  have e : (ms.map D.int).map poD = (ms.map fun m => (m, m + 1)).map pD := by rw [List.map_map, List.map_map]; rfl
  rw [← e] at U'
  obtain ⟨xd, hxd⟩ : ∃ x, ms.map D.int = x := ⟨_, rfl⟩
  have hxl : xd.length = ms.length := by rw [← hxd, List.length_map]
  rw [hxd] at U' hd
  rcases hd with rfl | rfl
  all_goals
    cbv
    rw [hY.lc]
    refine lc_map poD (ds := xd) (fun d hd => ?_) (by rw [sizeLine_eq]; omega) ?_
    · rw [← hxd] at hd
      obtain ⟨m, hp, rfl⟩ := List.mem_map.mp hd
      refine ⟨_, rfl, fun K hK => ?_⟩
      have hK : K (.dat (.tup [.int m, .int (m + 1)])) [] := hK
      cbv
      rw [hZ.plus]
      exact hK
    · generalize xd.map poD = yd at U' ⊢
      cbv
      refine U' _ fun zs hc hm => ?_
      have q := q zs hc fun t => by rw [hm, points_mem]
      unfold spD at q ⊢
      generalize zs.map pD = zd at q ⊢
      cbv
      exact ⟨_, rfl, rfl, q⟩
end AL
end
section
set_option Elab.async false
set_option linter.all false
set_option maxRecDepth 100000
set_option maxHeartbeats 4000000
/-! S17: pulse_ends, counted. -/
namespace AL
open PySem PySem.Spec PyProof.Rows L2
variable {Z : Ar} {Y : LY}
theorem cut_init (xs : List D) : cutD xs none (some (-1)) = xs.dropLast := by
  unfold cutD HT.sIx
  simp
  rw [List.dropLast_eq_take]
  congr 1
  omega
theorem cut_nth (xs : Sp) (n : Nat) (hn : 1 ≤ n) : cutD (xs.map pD) (some ((n : Int) - 1)) (some (n : Int)) = (match xs[n - 1]? with | some p => [pD p] | none => []) := by
  unfold cutD
  have e : ((n : Int) - 1) = ((n - 1 : Nat) : Int) := by omega
  rw [e, HT.sIx_nat, HT.sIx_nat, List.length_map]
  rcases Nat.lt_or_ge (n - 1) xs.length with h | h
  · have h2 : min n xs.length - min (n - 1) xs.length = 1 := by omega
    have h3 : min (n - 1) xs.length = n - 1 := by omega
    rw [h2, h3, List.getElem?_eq_getElem h, ← List.map_drop, List.drop_eq_getElem_cons h]
    rfl
  · have h2 : min n xs.length - min (n - 1) xs.length = 0 := by omega
    rw [h2, List.getElem?_eq_none h]
    rfl
def F_pulse_ends : PFs := fun ds R => ∃ (ln : Ln) (lv lo hi : Int), ln.length ≤ 1000 ∧ ds = [lnD ln, .int lv, .int lo, .int hi] ∧ R (.lst ((pulseF lv lo hi (plF 0 ln)).map .int))
def U_pulse_ends (F : PFs) : Prop := ∀ (ln : Ln) (lv lo hi : Int) R, ln.length ≤ 1000 → R (.lst ((pulseF lv lo hi (plF 0 ln)).map .int)) → F [lnD ln, .int lv, .int lo, .int hi] R
theorem u_pulse_ends : U_pulse_ends F_pulse_ends := fun ln lv lo hi R h q => ⟨ln, lv, lo, hi, h, rfl, q⟩
def puP (lv lo hi : Int) (d : D) : Bool := match d with | .tup [.int l, .int a, .int b] => decide (l = lv) && (decide (0 < a) && (decide (lo ≤ b - a) && decide (b - a ≤ hi))) | _ => false
def thrD (d : D) : D := match d with | .tup [_, _, c] => c | _ => .non
theorem sp_pulse_ends {F : PFs} (hZ : ArOk Z) (hY : YOk Y) (U : U_placed F) : SpecP 4 8 (d_pulse_ends Z Y F) F_pulse_ends := by
  rintro _ R _ ⟨ln, lv, lo, hi, hl, rfl, q⟩
  have U' := fun R' => U ln R' hl
  have e : (((plF 0 ln).map plE).dropLast.filter (puP lv lo hi)).map thrD = (pulseF lv lo hi (plF 0 ln)).map .int := by
    unfold pulseF
    rw [← List.map_dropLast, List.filter_map, List.map_map, List.map_map]
    have e2 : (puP lv lo hi ∘ plE) = fun q : Int × Nat × Nat => decide (q.1 = lv) && (decide (0 < q.2.1) && (decide (lo ≤ (q.2.2 : Int) - q.2.1) && decide ((q.2.2 : Int) - q.2.1 ≤ hi))) := by
      funext q
      show (decide (q.1 = lv) && (decide ((0 : Int) < (q.2.1 : Nat)) && _)) = _
      have : decide ((0 : Int) < (q.2.1 : Nat)) = decide (0 < q.2.1) := decide_eq_decide.mpr (by omega)
      rw [this]
    rw [e2]
    rfl
  obtain ⟨ld, hld⟩ : ∃ x, lnD ln = .tup x := ⟨_, rfl⟩
  obtain ⟨pd, hpd⟩ : ∃ x, (plF 0 ln).map plE = x := ⟨_, rfl⟩
  have hpl : pd.length = ln.length := by rw [← hpd, List.length_map, plF_len]
  rw [← e] at q
  rw [hld, hpd] at U'
  rw [hpd] at q
  rw [hld]
  cbv
  refine U' _ ?_
  cbv
  rw [hY.cut, cut_init]
  have hdl : ∀ d ∈ pd.dropLast, ∃ l a b, d = .tup [.int l, .int a, .int b] := fun d hd => by
    have hd := List.dropLast_subset _ hd
    rw [← hpd] at hd
    obtain ⟨q, _, rfl⟩ := List.mem_map.mp hd
    exact ⟨_, _, _, rfl⟩
  have hll : pd.dropLast.length ≤ 1000 := by rw [List.length_dropLast]; omega
  generalize pd.dropLast = sd at q hdl hll ⊢
  cbv
  rw [hY.lc]
  refine lc_pure (puP lv lo hi) thrD sd [] (fun d hd => ?_) (by rw [sizeLine_eq]; simp; omega) ?_
  · obtain ⟨l, a, b, rfl⟩ := hdl d hd
    refine ⟨_, rfl, fun K hK => ?_, fun _ K hK => hK⟩
    simp only [puP] at hK
    cbv
    by_cases h1 : l = lv
    · rw [decide_eq_true h1] at hK ⊢
      cbv
      rw [hZ.lt]
      by_cases h2 : 0 < a
      · rw [decide_eq_true h2] at hK ⊢
        cbv
        rw [hZ.le, hZ.minus]
        generalize b - a = z at hK ⊢
        by_cases h3 : lo ≤ z
        · rw [decide_eq_true h3] at hK ⊢
          cbv
          first | rw [hZ.le] | skip
          simpa using hK
        · rw [decide_eq_false h3] at hK ⊢
          cbv
          simpa using hK
      · rw [decide_eq_false h2] at hK ⊢
        cbv
        simpa using hK
    · rw [decide_eq_false h1] at hK ⊢
      cbv
      simpa using hK
  · rw [List.nil_append]
    generalize (sd.filter (puP lv lo hi)).map thrD = yd at q ⊢
    cbv
    exact ⟨_, rfl, rfl, q⟩

/-! ### counted -/
def F_counted : PFs := fun ds R => ∃ (ms : List Int) (n lo hi : Int) (T : Nat), ms.length ≤ 1000 ∧ (∀ m ∈ ms, 0 ≤ m) ∧ 0 ≤ n ∧ ds = [.tup (ms.map .int), .int n, .int lo, .int hi, .int (T : Nat)] ∧
  ∀ zs, Canon zs → (∀ t, inS t zs ↔ 0 ≤ t ∧ t < T ∧ lo ≤ cAt (evs ms n) t ∧ cAt (evs ms n) t ≤ hi) → R (spD zs)
def U_counted (F : PFs) : Prop := ∀ (ms : List Int) (n lo hi : Int) (T : Nat) R, ms.length ≤ 1000 → (∀ m ∈ ms, 0 ≤ m) → 0 ≤ n →
  (∀ zs, Canon zs → (∀ t, inS t zs ↔ 0 ≤ t ∧ t < T ∧ lo ≤ cAt (evs ms n) t ∧ cAt (evs ms n) t ≤ hi) → R (spD zs)) → F [.tup (ms.map .int), .int n, .int lo, .int hi, .int (T : Nat)] R
theorem u_counted : U_counted F_counted := fun ms n lo hi T R h1 h2 h3 q => ⟨ms, n, lo, hi, T, h1, h2, h3, rfl, q⟩
def on1 (d : D) : D := .tup [d, .int 1]
def off1 (n : Int) (d : D) : D := match d with | .int m => .tup [.int (m + n), .int (-1)] | _ => .non
theorem sp_counted {F : PFs} (hZ : ArOk Z) (hY : YOk Y) (U : U_spans_of F) : SpecP 5 12 (d_counted Z Y F) F_counted := by
  rintro _ R _ ⟨ms, n, lo, hi, T, hl, h0, hn, rfl, q⟩
  have e1 : (ms.map D.int).map on1 ++ (ms.map D.int).map (off1 n) = (evs ms n).map pD := by
    unfold evs
    rw [List.map_append, List.map_map, List.map_map, List.map_map, List.map_map]; rfl
  have hel : (evs ms n).length ≤ 2000 := by unfold evs; simp; omega
  have he0 : ∀ e ∈ evs ms n, 0 ≤ e.1 := fun e he => by
    unfold evs at he
    rcases List.mem_append.mp he with he | he
    · obtain ⟨m, hm, rfl⟩ := List.mem_map.mp he
      exact h0 m hm
    · obtain ⟨m, hm, rfl⟩ := List.mem_map.mp he
      have := h0 m hm
      show 0 ≤ m + n
      omega
  obtain ⟨es, hes⟩ : ∃ x, evs ms n = x := ⟨_, rfl⟩
  rw [hes] at e1 hel he0 q
  obtain ⟨xd, hxd⟩ : ∃ x, ms.map D.int = x := ⟨_, rfl⟩
  have hxl : xd.length = ms.length := by rw [← hxd, List.length_map]
  have hall : ∀ d ∈ xd, ∃ m, d = .int m := fun d hd => by
    rw [← hxd] at hd
    obtain ⟨m, _, rfl⟩ := List.mem_map.mp hd
    exact ⟨_, rfl⟩
  rw [hxd] at e1 ⊢
  obtain ⟨Ti, hTi⟩ : ∃ x : Int, (T : Int) = x := ⟨_, rfl⟩
  rw [hTi]
  cbv
  rw [hY.lc]
  refine lc_map on1 (ds := xd) (fun d hd => ?_) (by rw [sizeLine_eq]; omega) ?_
  · obtain ⟨m, rfl⟩ := hall d hd
    exact ⟨_, rfl, fun K hK => by cbv; exact hK⟩
  obtain ⟨ad, had⟩ : ∃ x, xd.map on1 = x := ⟨_, rfl⟩
  have hal : ad.length = xd.length := by rw [← had, List.length_map]
  rw [had] at e1 ⊢
  cbv
  rw [hY.lc]
  refine lc_map (off1 n) (ds := xd) (fun d hd => ?_) (by rw [sizeLine_eq]; omega) ?_
  · obtain ⟨m, rfl⟩ := hall d hd
    refine ⟨_, rfl, fun K hK => ?_⟩
    have hK : K (.dat (.tup [.int (m + n), .int (-1)])) [] := hK
    cbv
    rw [hZ.plus]
    exact hK
  obtain ⟨bd, hbd⟩ : ∃ x, xd.map (off1 n) = x := ⟨_, rfl⟩
  have hbl : bd.length = xd.length := by rw [← hbd, List.length_map]
  rw [hbd] at e1 ⊢
  cbv
  rw [hY.fit2, hY.app, e1]
  refine ⟨by rw [sizeLine_eq]; omega, ?_⟩
  have hpl := pL_map es
  obtain ⟨ed, hed⟩ : ∃ x, es.map pD = x := ⟨_, rfl⟩
  rw [hed] at hpl ⊢
  cbv
  rw [hY.pL, hpl]
  intro qs hp hs
  have hql : qs.length ≤ 2000 := by rw [hp.length_eq]; exact hel
  obtain ⟨qd, hqd⟩ : ∃ x, qs.map pD = x := ⟨_, rfl⟩
  have hqdl : qd.length = qs.length := by rw [← hqd, List.length_map]
  rw [hqd]
  cbv
  rw [hY.fit2, hY.app, hY.loop]
  refine ⟨by rw [sizeLine_eq]; simp; omega, ?_⟩
  obtain ⟨L, hL⟩ : ∃ x, qs ++ [((T : Int), (0 : Int))] = x := ⟨_, rfl⟩
  have eL : qd ++ [D.tup [.int Ti, .int 0]] = L.map pD := by rw [← hL, List.map_append, hqd, ← hTi]; rfl
  have hLl : L.length = qs.length + 1 := by rw [← hL]; simp
  have hcL : ∀ t, cAt L t = cAt es t := fun t => by
    rw [← hL, cAt_append, cAt_perm hp]
    unfold cAt
    simp
  have hord : L.Pairwise fun e x => min e.1 (T : Int) ≤ x.1 := by
    rw [← hL]
    refine List.pairwise_append.mpr ⟨hs.imp fun h => ?_, by simp, fun a ha b hb => ?_⟩
    · unfold lexLe at h; omega
    · rw [List.mem_singleton.mp hb]; show min a.1 (T : Int) ≤ T; omega
  have hL0 : ∀ e ∈ L, 0 ≤ e.1 := fun e he => by
    rw [← hL] at he
    rcases List.mem_append.mp he with he | he
    · exact he0 e (hp.mem_iff.mp he)
    · rw [List.mem_singleton.mp he]; show (0 : Int) ≤ T; omega
  rw [eL]
  refine loop_of (fun i ρ h => ∃ (a b c : Option AV) (found : Sp) (since count : Int), ρ = [some (AV.dat (.tup xd)), some (AV.dat (.int n)), some (AV.dat (.int lo)), some (AV.dat (.int hi)), some (AV.dat (.int Ti)), some (AV.dat (.lst ed)), some (AV.ref 0), some (AV.dat (.int since)), some (AV.dat (.int count)), a, b, c] ∧
    h = [AO.lst (found.map pD)] ∧ CntI lo hi T (L.take i) (L.drop i) found since count ∧ found.length ≤ i ∧ (∀ e, (L.take i).getLast? = some e → since = min e.1 T)) ?step ?last _ _ ?init
  case init => exact ⟨_, _, _, [], 0, 0, rfl, rfl, CntI.start hL0, Nat.le_refl _, fun e h => by simp at h⟩
  case last =>
    rintro _ _ ⟨a, b, c, found, since, count, rfl, rfl, hc, hfl, hlast⟩
    rw [List.length_map] at hc hfl hlast
    rw [List.take_of_length_le (Nat.le_refl _)] at hlast hc
    have hsT : since = T := by
      have h := hlast ((T : Int), 0) (by rw [← hL, List.getLast?_concat])
      rw [h]
      show min (T : Int) T = T
      omega
    have U' := fun R' => U.lst found R' (by omega)
    have hm := hc.m
    rw [List.drop_of_length_le (Nat.le_refl _), List.append_nil] at hm
    generalize found.map pD = fd at U' ⊢
    cbv
    refine U' _ fun zs hz hzm => ⟨zs, rfl, ?_⟩
    have q := q zs hz fun t => by rw [hzm, hm, hsT, hcL]
    unfold spD at q ⊢
    generalize zs.map pD = zd at q ⊢
    cbv
    exact ⟨_, rfl, rfl, q⟩
  case step =>
    rintro i dd K _ _ hd hK ⟨a, b, c, found, since, count, rfl, rfl, hc, hfl, hlast⟩
    rw [List.getElem?_map] at hd
    obtain ⟨p, hp1, rfl⟩ := Option.map_eq_some_iff.mp hd
    have hi3 := (List.getElem?_eq_some_iff.mp hp1).1
    rw [drop_at hp1] at hc
    have htk : L.take (i + 1) = L.take i ++ [p] := by rw [List.take_add_one, hp1]; rfl
    have hst := hc.step fun x hx => (List.pairwise_cons.mp (drop_at hp1 ▸ hord.drop (i := i) : (p :: L.drop (i + 1)).Pairwise fun e x => min e.1 (T : Int) ≤ x.1)).1 x hx
    rw [← htk] at hst
    have hla : ∀ e, (L.take (i + 1)).getLast? = some e → min p.1 (T : Int) = min e.1 T := fun e h => by
      rw [htk, List.getLast?_concat] at h
      rw [Option.some.inj h]
    clear hc htk hd hlast
    obtain ⟨at_, by_⟩ := p
    obtain ⟨fd, hfd⟩ : ∃ x, found.map pD = x := ⟨_, rfl⟩
    have hfdl : fd.length = found.length := by rw [← hfd, List.length_map]
    rw [hfd]
    simp only at hst hla
    have hTi2 : ((T : Nat) : Int) = Ti := hTi
    simp only [hTi2] at hst hla
    obtain ⟨here, hhere⟩ : ∃ x, min at_ Ti = x := ⟨_, rfl⟩
    rw [hhere] at hst hla
    cbv
    rw [hZ.mn, hhere, hZ.le]
    have fin : ∀ (fd' : List D) (found' : Sp), fd' = found'.map pD → found'.length ≤ i + 1 → CntI lo hi T (L.take (i + 1)) (L.drop (i + 1)) found' here (count + by_) →
        K [some (AV.dat (.tup xd)), some (AV.dat (.int n)), some (AV.dat (.int lo)), some (AV.dat (.int hi)), some (AV.dat (.int Ti)), some (AV.dat (.lst ed)), some (AV.ref 0), some (AV.dat (.int here)), some (AV.dat (.int (Z .plus count by_))), some (AV.dat (.int at_)), some (AV.dat (.int by_)), some (AV.dat (.int here))] [AO.lst fd'] := fun fd' found' h1 h2 h3 => by
      refine hK _ _ ⟨_, _, _, found', here, count + by_, by rw [hZ.plus], by rw [h1], h3, h2, fun e he => ?_⟩
      rw [hla e he, hTi]
    by_cases h1 : lo ≤ count
    · rw [decide_eq_true h1]
      cbv
      rw [hZ.le]
      by_cases h2 : count ≤ hi
      · rw [if_pos ⟨h1, h2⟩] at hst
        rw [decide_eq_true h2]
        cbv
        rw [hY.fit, hY.app]
        refine ⟨by rw [sizeLine_eq]; omega, fin _ (found ++ [(since, here)]) ?_ (by simp; omega) hst⟩
        rw [List.map_append, hfd]; rfl
      · rw [if_neg fun h => h2 h.2] at hst
        rw [decide_eq_false h2]
        cbv
        exact fin _ found hfd.symm (by omega) hst
    · rw [if_neg fun h => h1 h.1] at hst
      rw [decide_eq_false h1]
      cbv
      exact fin _ found hfd.symm (by omega) hst
end AL
end
section
set_option Elab.async false
set_option linter.all false
set_option maxRecDepth 100000
set_option maxHeartbeats 4000000
/-! S18: line_spans. -/
namespace AL
open PySem PySem.Spec PyProof.Rows L2
variable {Z : Ar} {Y : LY}
def Lets (ns : List Str) (lns : List Ln) (T : Nat) (L : Nat → Str → Int) : Prop := ∀ t, t < T → ∀ x ∈ ns, L t x = lvAt (lineOf ns lns x) t
def VW (L : Nat → Str → Int) (T : Nat) (w : Wi Str) (zs : AL.Sp) : Prop := ∀ t, inS t zs ↔ ∃ n : Nat, t = n ∧ n < T ∧ val L w n = true
theorem zip_mem {x : Str} : ∀ {ns : List Str} {lns : List Ln}, x ∈ ns → lns.length = ns.length → ∃ ln, ((ns.zip lns).find? fun p => decide (p.1 = x)) = some (x, ln) ∧ ln ∈ lns
  | [], _, h, _ => by cases h
  | n :: ns, [], _, h => by simp at h
  | n :: ns, l :: lns, h, hl => by
    rw [List.zip_cons_cons, List.find?_cons]
    by_cases e : n = x
    · subst e
      exact ⟨l, by simp, List.mem_cons_self⟩
    · simp only [decide_eq_false e]
      obtain ⟨ln, h1, h2⟩ := zip_mem (lns := lns) ((List.mem_cons.mp h).resolve_left fun z => e z.symm) (by simpa using hl)
      exact ⟨ln, h1, List.mem_cons_of_mem _ h2⟩
theorem lineOf_mem {ns : List Str} {lns : List Ln} {T : Nat} (ok : LinesOk ns lns T) {x : Str} (hx : x ∈ ns) : lineOf ns lns x ∈ lns := by
  obtain ⟨ln, h1, h2⟩ := zip_mem hx ok.len
  unfold lineOf
  rw [h1]
  exact h2
section
variable {ns : List Str} {lns : List Ln} {T : Nat} {L : Nat → Str → Int} {x : Str}
theorem lets_runs (ok : LinesOk ns lns T) (hL : Lets ns lns T L) (hx : x ∈ ns) : Runs (fun t => L t x) T (plF 0 (lineOf ns lns x)) := by
  obtain ⟨lv, hb, h1, h2⟩ := ok.ok _ (lineOf_mem ok hx)
  exact runs_of_line h1 hb h2 fun t ht => hL t ht x hx
theorem lets_bit (ok : LinesOk ns lns T) (hL : Lets ns lns T L) (hx : x ∈ ns) {t : Nat} (ht : t < T) : L t x = 0 ∨ L t x = 1 := by
  obtain ⟨lv, hb, h1, h2⟩ := ok.ok _ (lineOf_mem ok hx)
  rw [hL t ht x hx]
  exact lvAt_bit h1 hb
theorem vw_high (ok : LinesOk ns lns T) (hL : Lets ns lns T L) (hx : x ∈ ns) : VW L T (.high x) (highsF (plF 0 (lineOf ns lns x))) := fun t => by
  rw [highs_mem (lets_runs ok hL hx)]
  simp only [val_high]
theorem vw_low (ok : LinesOk ns lns T) (hL : Lets ns lns T L) (hx : x ∈ ns) : Canon (othersF T 0 (highsF (plF 0 (lineOf ns lns x)))) ∧ VW L T (.low x) (othersF T 0 (highsF (plF 0 (lineOf ns lns x)))) := by
  have hr := lets_runs ok hL hx
  have hb := canon_bounds (highs_canon hr) (lo := 0) (hi := T) fun t h => by
    obtain ⟨n, rfl, h1, _⟩ := (highs_mem hr t).mp h
    omega
  obtain ⟨h1, _, h3⟩ := othersF_from (T := T) (b := 0) (highs_canon hr) fun p hp => (hb p hp).1
  refine ⟨h1, fun t => ?_⟩
  rw [h3 (fun p hp => (hb p hp).2), highs_mem hr]
  simp only [val_low]
  constructor
  · rintro ⟨h4, h5, h6⟩
    refine ⟨t.toNat, by omega, by omega, ?_⟩
    rcases lets_bit ok hL hx (t := t.toNat) (by omega) with h | h
    · exact h
    · exact absurd ⟨t.toNat, by omega, by omega, h⟩ h6
  · rintro ⟨n, rfl, h4, h5⟩
    refine ⟨by omega, by omega, ?_⟩
    rintro ⟨m, e, h6, h7⟩
    have : m = n := by omega
    subst this
    omega
theorem vw_rise (ok : LinesOk ns lns T) (hL : Lets ns lns T L) (hx : x ∈ ns) {zs : AL.Sp} (h : ∀ t, inS t zs ↔ t ∈ comF 1 (plF 0 (lineOf ns lns x))) : VW L T (.rise x) zs := fun t => by
  rw [h, com_mem (lets_runs ok hL hx)]
  simp only [val_rise]
  constructor
  · rintro ⟨s, rfl, h1, h2, h3⟩
    refine ⟨s + 1, rfl, h1, s, rfl, ?_, h2⟩
    have := lets_bit ok hL hx (t := s) (by omega)
    omega
  · rintro ⟨n, rfl, h1, s, rfl, h2, h3⟩
    exact ⟨s, rfl, h1, h3, by omega⟩
theorem vw_fall (ok : LinesOk ns lns T) (hL : Lets ns lns T L) (hx : x ∈ ns) {zs : AL.Sp} (h : ∀ t, inS t zs ↔ t ∈ comF 0 (plF 0 (lineOf ns lns x))) : VW L T (.fall x) zs := fun t => by
  rw [h, com_mem (lets_runs ok hL hx)]
  simp only [val_fall]
  constructor
  · rintro ⟨s, rfl, h1, h2, h3⟩
    refine ⟨s + 1, rfl, h1, s, rfl, ?_, h2⟩
    have := lets_bit ok hL hx (t := s) (by omega)
    omega
  · rintro ⟨n, rfl, h1, s, rfl, h2, h3⟩
    exact ⟨s, rfl, h1, h3, by omega⟩
theorem vw_pulse (ok : LinesOk ns lns T) (hL : Lets ns lns T L) (hx : x ∈ ns) {lev : Int} {lo hi : Nat} {zs : AL.Sp} (h : ∀ t, inS t zs ↔ t ∈ pulseF lev lo hi (plF 0 (lineOf ns lns x))) : VW L T (.pulse x lev lo hi) zs := fun t => by
  have hr := lets_runs ok hL hx
  rw [h, pulse_mem hr]
  constructor
  · rintro ⟨n, e, h1, h2⟩
    exact ⟨n, e, h1, (val_pulse hr h1).mpr h2⟩
  · rintro ⟨n, e, h1, h2⟩
    exact ⟨n, e, h1, (val_pulse hr h1).mp h2⟩
/-- the changes of a line -/
theorem chg_mem (ok : LinesOk ns lns T) (hL : Lets ns lns T L) (hx : x ∈ ns) (m : Int) : m ∈ comF 1 (plF 0 (lineOf ns lns x)) ++ comF 0 (plF 0 (lineOf ns lns x)) ↔ ∃ n : Nat, m = n ∧ n < T ∧ flagX (L := L) x n = true := by
  have hr := lets_runs ok hL hx
  rw [List.mem_append, com_mem hr, com_mem hr]
  constructor
  · rintro (⟨s, rfl, h1, h2, h3⟩ | ⟨s, rfl, h1, h2, h3⟩)
    · exact ⟨s + 1, rfl, h1, decide_eq_true (by rw [h2]; exact h3)⟩
    · exact ⟨s + 1, rfl, h1, decide_eq_true (by rw [h2]; exact h3)⟩
  · rintro ⟨n, rfl, h1, h2⟩
    cases n with
    | zero => cases h2
    | succ s =>
      have h2 : L s x ≠ L (s + 1) x := of_decide_eq_true h2
      rcases lets_bit ok hL hx h1 with h3 | h3
      · exact .inr ⟨s, rfl, h1, h3, by rw [h3] at h2; exact h2⟩
      · exact .inl ⟨s, rfl, h1, h3, by rw [h3] at h2; exact h2⟩
theorem chg_nodup (ok : LinesOk ns lns T) (hL : Lets ns lns T L) (hx : x ∈ ns) : (comF 1 (plF 0 (lineOf ns lns x)) ++ comF 0 (plF 0 (lineOf ns lns x))).Nodup := by
  have hr := lets_runs ok hL hx
  refine List.nodup_append.mpr ⟨com_nodup hr 1, com_nodup hr 0, fun a ha b hb e => ?_⟩
  subst e
  obtain ⟨s, e1, _, h1, _⟩ := (com_mem hr 1 a).mp ha
  obtain ⟨s2, e2, _, h2, _⟩ := (com_mem hr 0 a).mp hb
  have : s = s2 := by omega
  subst this
  rw [h1] at h2
  cases h2
theorem chg_at (ok : LinesOk ns lns T) (hL : Lets ns lns T L) (hx : x ∈ ns) {n : Nat} (hn : n < T) : (if (n : Int) ∈ comF 1 (plF 0 (lineOf ns lns x)) ++ comF 0 (plF 0 (lineOf ns lns x)) then (1 : Int) else 0) = b2 (flagX (L := L) x n) := by
  have h := chg_mem ok hL hx (n : Int)
  cases hf : flagX (L := L) x n
  · rw [if_neg]; rfl
    intro h2
    obtain ⟨m, e, _, h3⟩ := h.mp h2
    have : m = n := by omega
    subst this
    rw [hf] at h3; cases h3
  · rw [if_pos (h.mpr ⟨n, rfl, hn, hf⟩)]; rfl
theorem vw_edges (ok : LinesOk ns lns T) (hL : Lets ns lns T L) (hx : x ∈ ns) {n lo hi : Nat} (hn : n = 1 ∨ n = 2) {zs : AL.Sp}
    (h : ∀ t, inS t zs ↔ 0 ≤ t ∧ t < T ∧ (lo : Int) ≤ cAt (evs (comF 1 (plF 0 (lineOf ns lns x)) ++ comF 0 (plF 0 (lineOf ns lns x))) n) t ∧ cAt (evs (comF 1 (plF 0 (lineOf ns lns x)) ++ comF 0 (plF 0 (lineOf ns lns x))) n) t ≤ (hi : Int)) : VW L T (.edges x n lo hi) zs := by
  have nd := chg_nodup ok hL hx
  have key : ∀ k : Nat, k < T → (((lo : Int) ≤ cAt (evs (comF 1 (plF 0 (lineOf ns lns x)) ++ comF 0 (plF 0 (lineOf ns lns x))) n) k ∧ cAt (evs (comF 1 (plF 0 (lineOf ns lns x)) ++ comF 0 (plF 0 (lineOf ns lns x))) n) k ≤ (hi : Int)) ↔ val L (.edges x n lo hi) k = true) := fun k hk => by
    rcases hn with rfl | rfl
    · have e : cAt (evs (comF 1 (plF 0 (lineOf ns lns x)) ++ comF 0 (plF 0 (lineOf ns lns x))) ((1 : Nat) : Int)) k = b2 (flagX (L := L) x k) := (evs_at1 nd k).trans (chg_at ok hL hx hk)
      rw [e, val_edges1, Bool.and_eq_true, decide_eq_true_iff, decide_eq_true_iff]
    · have e : cAt (evs (comF 1 (plF 0 (lineOf ns lns x)) ++ comF 0 (plF 0 (lineOf ns lns x))) ((2 : Nat) : Int)) k = b2 (flagX (L := L) x (k - 1)) + b2 (flagX (L := L) x k) := by
        refine (evs_at2 nd k).trans ?_
        rw [chg_at ok hL hx hk]
        congr 1
        cases k with
        | zero =>
          rw [if_neg]; rfl
          intro h2
          obtain ⟨m, e, _, _⟩ := (chg_mem ok hL hx _).mp h2
          omega
        | succ k =>
          have e3 : ((k + 1 : Nat) : Int) - 1 = (k : Int) := by omega
          rw [e3, chg_at ok hL hx (by omega)]
          rfl
      rw [e, val_edges2, Bool.and_eq_true, decide_eq_true_iff, decide_eq_true_iff]
  intro t
  rw [h]
  constructor
  · rintro ⟨h1, h2, h3⟩
    refine ⟨t.toNat, by omega, by omega, (key t.toNat (by omega)).mp ?_⟩
    have : ((t.toNat : Nat) : Int) = t := by omega
    rw [this]; exact h3
  · rintro ⟨k, rfl, h1, h2⟩
    exact ⟨by omega, by omega, (key k h1).mpr h2⟩
end
/-- wishes of one line -/
def Wi.isLine : Wi Str → Bool
  | .high _ => true
  | .low _ => true
  | .rise _ => true
  | .fall _ => true
  | .pulse _ _ _ _ => true
  | .edges _ _ _ _ => true
  | _ => false
def F_line_spans : PFs := fun ds R => ∃ ns lns T L w, LinesOk ns lns T ∧ Lets ns lns T L ∧ w.isLine = true ∧ w.good (· ∈ ns) ∧ ds = [linesD ns lns, encW w] ∧ ∀ zs, Canon zs → VW L T w zs → R (spD zs)
def U_line_spans (F : PFs) : Prop := ∀ ns lns T L w R, LinesOk ns lns T → Lets ns lns T L → w.isLine = true → w.good (· ∈ ns) → (∀ zs, Canon zs → VW L T w zs → R (spD zs)) → F [linesD ns lns, encW w] R
theorem u_line_spans : U_line_spans F_line_spans := fun ns lns T L w R h1 h2 h3 h4 q => ⟨ns, lns, T, L, w, h1, h2, h3, h4, rfl, q⟩
theorem com_len (lv : Int) (pl : List (Int × Nat × Nat)) : (comF lv pl).length ≤ pl.length := by unfold comF; rw [List.length_map]; exact List.length_filter_le _ _
theorem com_pos (lv : Int) (pl : List (Int × Nat × Nat)) : ∀ m ∈ comF lv pl, 0 ≤ m := fun m hm => by
  obtain ⟨q, _, rfl⟩ := List.mem_map.mp hm
  omega
theorem sp_line_spans {F1 F2 F3 F4 F5 F6 F7 F8 F9 : PFs} (hZ : ArOk Z) (hY : YOk Y) (U1 : U_rises F1) (U2 : U_falls F2) (U3 : U_counted F3) (U4 : U_pulse_ends F4) (U5 : U_points F5) (U6 : U_highs F6) (U7 : U_others F7) (U8 : U_moments_of F8) (U9 : U_line_in F9) :
    SpecP 2 7 (d_line_spans Z Y F1 F2 F3 F4 F5 F6 F7 F8 F9) F_line_spans := by
  rintro _ R _ ⟨ns, lns, T, L, w, ok, hL, hw, hg, rfl, q⟩
  have UM := fun R' => U8 ns lns T R' ok
  have UL := fun x hx R' => U9 ns lns T x R' ok hx
  have hfew := ok.few
  have hsh : ∀ x ∈ ns, (lineOf ns lns x).length ≤ 100 := fun x hx => by
    obtain ⟨lv, _, h2, h3⟩ := ok.ok _ (lineOf_mem ok hx)
    have := line_len h2
    omega
  obtain ⟨ld, hld⟩ : ∃ x, linesD ns lns = .tup x := ⟨_, rfl⟩
  obtain ⟨Ti, hTi⟩ : ∃ x : Int, ((T : Nat) : Int) = x := ⟨_, rfl⟩
  rw [hld] at UM UL ⊢
  rw [hTi] at UM
  -- the end
  have fin : ∀ zs, Canon zs → VW L T w zs → ∀ zd, zs.map pD = zd → R (.tup zd) := fun zs h1 h2 zd h3 => by rw [← h3]; exact q zs h1 h2
  cases w with
  | high x =>
    have hx : x ∈ ns := hg
    have UL := UL x hx
    have U6 := fun R' => U6 (lineOf ns lns x) R' (by have := hsh x hx; omega)
    obtain ⟨l1, hl1⟩ : ∃ y, lnD (lineOf ns lns x) = .tup y := ⟨_, rfl⟩
    rw [hl1] at UL U6
    have q := fin _ (highs_canon (lets_runs ok hL hx)) (vw_high ok hL hx) _ rfl
    generalize (highsF (plF 0 (lineOf ns lns x))).map pD = hd at U6 q
    cbv
    refine UL _ ?_
    cbv
    refine UM _ ?_
    cbv
    refine U6 _ ?_
    cbv
    exact ⟨_, rfl, rfl, q⟩
  | low x =>
    have hx : x ∈ ns := hg
    have UL := UL x hx
    have U6 := fun R' => U6 (lineOf ns lns x) R' (by have := hsh x hx; omega)
    have hhl : (highsF (plF 0 (lineOf ns lns x))).length ≤ 2000 := by
      unfold highsF
      rw [List.length_map]
      refine Nat.le_trans (List.length_filter_le _ _) ?_
      rw [plF_len]
      have := hsh x hx
      omega
    have U7 := fun R' => U7 (highsF (plF 0 (lineOf ns lns x))) T R' hhl
    obtain ⟨l1, hl1⟩ : ∃ y, lnD (lineOf ns lns x) = .tup y := ⟨_, rfl⟩
    rw [hl1] at UL U6
    obtain ⟨h1, h2⟩ := vw_low ok hL hx
    have q := fin _ h1 h2 _ rfl
    unfold spD at U7
    generalize (highsF (plF 0 (lineOf ns lns x))).map pD = hd at U6 U7
    generalize (othersF T 0 (highsF (plF 0 (lineOf ns lns x)))).map pD = od at U7 q
    rw [hTi] at U7
    cbv
    refine UL _ ?_
    cbv
    refine UM _ ?_
    cbv
    refine U6 _ ?_
    cbv
    refine U7 _ ?_
    cbv
    exact ⟨_, rfl, rfl, q⟩
  | rise x =>
    have hx : x ∈ ns := hg
    have UL := UL x hx
    have U1 := fun R' => U1 (lineOf ns lns x) R' (by have := hsh x hx; omega)
    obtain ⟨l1, hl1⟩ : ∃ y, lnD (lineOf ns lns x) = .tup y := ⟨_, rfl⟩
    rw [hl1] at UL U1
    have hcl := com_len 1 (plF 0 (lineOf ns lns x))
    rw [plF_len] at hcl
    have U5 := fun R' => U5.tup (comF 1 (plF 0 (lineOf ns lns x))) R' (by have := hsh x hx; omega)
    generalize (comF 1 (plF 0 (lineOf ns lns x))).map D.int = cd at U1 U5
    cbv
    refine UL _ ?_
    cbv
    refine UM _ ?_
    cbv
    refine U1 _ ?_
    cbv
    refine U5 _ fun zs hz hm => ?_
    have q := q zs hz (vw_rise ok hL hx hm)
    unfold spD at q ⊢
    generalize zs.map pD = zd at q ⊢
    cbv
    exact ⟨_, rfl, rfl, q⟩
  | fall x =>
    have hx : x ∈ ns := hg
    have UL := UL x hx
    have U2 := fun R' => U2 (lineOf ns lns x) R' (by have := hsh x hx; omega)
    obtain ⟨l1, hl1⟩ : ∃ y, lnD (lineOf ns lns x) = .tup y := ⟨_, rfl⟩
    rw [hl1] at UL U2
    have hcl := com_len 0 (plF 0 (lineOf ns lns x))
    rw [plF_len] at hcl
    have U5 := fun R' => U5.tup (comF 0 (plF 0 (lineOf ns lns x))) R' (by have := hsh x hx; omega)
    generalize (comF 0 (plF 0 (lineOf ns lns x))).map D.int = cd at U2 U5
    cbv
    refine UL _ ?_
    cbv
    refine UM _ ?_
    cbv
    refine U2 _ ?_
    cbv
    refine U5 _ fun zs hz hm => ?_
    have q := q zs hz (vw_fall ok hL hx hm)
    unfold spD at q ⊢
    generalize zs.map pD = zd at q ⊢
    cbv
    exact ⟨_, rfl, rfl, q⟩
  | pulse x lev lo hi =>
    have hx : x ∈ ns := hg.1
    have UL := UL x hx
    have U4 := fun R' => U4 (lineOf ns lns x) lev lo hi R' (by have := hsh x hx; omega)
    obtain ⟨l1, hl1⟩ : ∃ y, lnD (lineOf ns lns x) = .tup y := ⟨_, rfl⟩
    rw [hl1] at UL U4
    have hcl : (pulseF lev lo hi (plF 0 (lineOf ns lns x))).length ≤ 2000 := by
      unfold pulseF
      rw [List.length_map]
      refine Nat.le_trans (List.length_filter_le _ _) ?_
      rw [List.length_dropLast, plF_len]
      have := hsh x hx
      omega
    have U5 := fun R' => U5.lst (pulseF lev lo hi (plF 0 (lineOf ns lns x))) R' hcl
    generalize (pulseF lev lo hi (plF 0 (lineOf ns lns x))).map D.int = cd at U4 U5
    show d_line_spans Z Y F1 F2 F3 F4 F5 F6 F7 F8 F9 _ _ [some (.dat (.tup ld)), some (.dat (.tup [.str "pulse", .str x, .int lev, .int (lo : Nat), .int (hi : Nat)])), none, none, none, none, none] []
    generalize ((lo : Nat) : Int) = loi at U4 ⊢
    generalize ((hi : Nat) : Int) = hii at U4 ⊢
    have a0 : ∀ a b c : D, atI [a, b, c] 0 = some a := fun a b c => atI0 _ _
    have a1 : ∀ a b c : D, atI [a, b, c] 1 = some b := fun a b c => atI1 _ _ _
    have a2 : ∀ a b c : D, atI [a, b, c] 2 = some c := fun a b c => atI2 _ _ _ _
    cbv
    refine UL _ ?_
    cbv
    refine UM _ ?_
    cbv
    rw [hY.at_, a0]
    cbv
    rw [hY.at_, a1]
    cbv
    rw [hY.at_, a2]
    cbv
    refine U4 _ ?_
    cbv
    refine U5 _ fun zs hz hm => ?_
    have q := q zs hz (vw_pulse ok hL hx hm)
    unfold spD at q ⊢
    generalize zs.map pD = zd at q ⊢
    cbv
    exact ⟨_, rfl, rfl, q⟩
  | edges x n lo hi =>
    obtain ⟨hx, hn1, hn2, _⟩ := hg
    have UL := UL x hx
    have U1 := fun R' => U1 (lineOf ns lns x) R' (by have := hsh x hx; omega)
    have U2 := fun R' => U2 (lineOf ns lns x) R' (by have := hsh x hx; omega)
    obtain ⟨l1, hl1⟩ : ∃ y, lnD (lineOf ns lns x) = .tup y := ⟨_, rfl⟩
    rw [hl1] at UL U1 U2
    have hc1 := com_len 1 (plF 0 (lineOf ns lns x))
    have hc0 := com_len 0 (plF 0 (lineOf ns lns x))
    rw [plF_len] at hc1 hc0
    have hsx := hsh x hx
    have U3 := fun R' => U3 (comF 1 (plF 0 (lineOf ns lns x)) ++ comF 0 (plF 0 (lineOf ns lns x))) n lo hi T R' (by rw [List.length_append]; omega) (fun m hm => by
      rcases List.mem_append.mp hm with h | h
      · exact com_pos _ _ m h
      · exact com_pos _ _ m h) (by omega)
    have hvw := fun zs => vw_edges (n := n) (lo := lo) (hi := hi) ok hL hx (by omega) (zs := zs)
    rw [List.map_append] at U3
    have hl1 : ((comF 1 (plF 0 (lineOf ns lns x))).map D.int).length ≤ 100 := by rw [List.length_map]; omega
    have hl0 : ((comF 0 (plF 0 (lineOf ns lns x))).map D.int).length ≤ 100 := by rw [List.length_map]; omega
    generalize (comF 1 (plF 0 (lineOf ns lns x))).map D.int = cd at U1 U3 hl1
    generalize (comF 0 (plF 0 (lineOf ns lns x))).map D.int = dd at U2 U3 hl0
    show d_line_spans Z Y F1 F2 F3 F4 F5 F6 F7 F8 F9 _ _ [some (.dat (.tup ld)), some (.dat (.tup [.str "edges", .str x, .int (n : Nat), .int (lo : Nat), .int (hi : Nat)])), none, none, none, none, none] []
    generalize ((lo : Nat) : Int) = loi at U3 hvw ⊢
    generalize ((hi : Nat) : Int) = hii at U3 hvw ⊢
    generalize ((n : Nat) : Int) = ni at U3 hvw ⊢
    rw [hTi] at U3
    simp only [hTi] at hvw
    have a0 : ∀ a b c : D, atI [a, b, c] 0 = some a := fun a b c => atI0 _ _
    have a1 : ∀ a b c : D, atI [a, b, c] 1 = some b := fun a b c => atI1 _ _ _
    have a2 : ∀ a b c : D, atI [a, b, c] 2 = some c := fun a b c => atI2 _ _ _ _
    cbv
    refine UL _ ?_
    cbv
    refine UM _ ?_
    cbv
    refine U1 _ ?_
    cbv
    refine U2 _ ?_
    cbv
    rw [hY.fit2, hY.app]
    refine ⟨by rw [sizeLine_eq]; omega, ?_⟩
    generalize cd ++ dd = ed at U3 ⊢
    rw [hY.at_, a0]
    cbv
    rw [hY.at_, a1]
    cbv
    rw [hY.at_, a2]
    cbv
    refine U3 _ fun zs hz hm => ?_
    have q := q zs hz (hvw zs hm)
    unfold spD at q ⊢
    generalize zs.map pD = zd at q ⊢
    cbv
    exact ⟨_, rfl, rfl, q⟩
  | _ => cases hw
end AL
end
section
set_option Elab.async false
set_option linter.all false
set_option maxRecDepth 100000
set_option maxHeartbeats 4000000
/-! S19: since_spans, timed_spans. -/
namespace AL
open PySem PySem.Spec PyProof.Rows L2
variable {Z : Ar} {Y : LY}
def SinceS (xs ys : AL.Sp) (t : Int) : Prop := inS t ys ∨ ∃ p ∈ xs, p.1 ≤ t ∧ t < p.2 ∧ ∃ j, inS j ys ∧ p.1 - 1 ≤ j ∧ j ≤ t
def F_since_spans : PFs := fun ds R => ∃ xs ys : AL.Sp, Canon xs ∧ Canon ys ∧ xs.length ≤ 1000 ∧ ys.length ≤ 1000 ∧ (∀ p ∈ ys, 0 ≤ p.1) ∧ ds = [spD xs, spD ys] ∧ ∀ zs, Canon zs → (∀ t, inS t zs ↔ SinceS xs ys t) → R (spD zs)
def U_since_spans (F : PFs) : Prop := ∀ (xs ys : AL.Sp) R, Canon xs → Canon ys → xs.length ≤ 1000 → ys.length ≤ 1000 → (∀ p ∈ ys, 0 ≤ p.1) → (∀ zs, Canon zs → (∀ t, inS t zs ↔ SinceS xs ys t) → R (spD zs)) → F [spD xs, spD ys] R
theorem u_since_spans : U_since_spans F_since_spans := fun xs ys R h1 h2 h3 h4 h5 q => ⟨xs, ys, h1, h2, h3, h4, h5, rfl, q⟩
theorem sp_since_spans {F1 F2 F3 : PFs} (hZ : ArOk Z) (hY : YOk Y) (U1 : U_spans_of F1) (U2 : U_between F2) (U3 : U_first_of F3) : SpecP 2 6 (d_since_spans Z Y F1 F2 F3) F_since_spans := by
  rintro _ R _ ⟨xs, ys, cx, cy, lx, ly, hy0, rfl, q⟩
  have UB := fun a b R' => U2 ys a b R' cy (by omega)
  unfold spD at UB ⊢
  obtain ⟨xd, hxd⟩ : ∃ x, xs.map pD = x := ⟨_, rfl⟩
  obtain ⟨yd, hyd⟩ : ∃ x, ys.map pD = x := ⟨_, rfl⟩
  have hyl : yd.length = ys.length := by rw [← hyd, List.length_map]
  rw [hxd, hyd]
  rw [hyd] at UB
  cbv
  first | rw [hY.loop] | (refine ⟨by rw [sizeLine_eq]; omega, ?_⟩; rw [hY.loop])
  refine loop_of (fun i ρ h => ∃ (a b c : Option AV) (found : AL.Sp), ρ = [some (AV.dat (.tup xd)), some (AV.dat (.tup yd)), some (AV.ref 0), a, b, c] ∧ h = [AO.lst (found.map pD)] ∧ found.length ≤ ys.length + i ∧
    (∀ t, inS t found ↔ inS t ys ∨ ∃ p ∈ xs.take i, p.1 ≤ t ∧ t < p.2 ∧ ∃ j, inS j ys ∧ p.1 - 1 ≤ j ∧ j ≤ t)) ?step ?last _ _ ?init
  case init =>
    refine ⟨_, _, _, ys, rfl, by rw [hyd], Nat.le_refl _, fun t => ⟨.inl, ?_⟩⟩
    rintro (h | ⟨p, hp, _⟩)
    · exact h
    · cases hp
  case last =>
    rintro _ _ ⟨a, b, c, found, rfl, rfl, hl, hm⟩
    have hxl : xd.length = xs.length := by rw [← hxd, List.length_map]
    rw [hxl] at hl hm
    rw [List.take_of_length_le (Nat.le_refl _)] at hm
    have U1' := fun R' => U1.lst found R' (by omega)
    generalize found.map pD = fd at U1' ⊢
    cbv
    refine U1' _ fun zs hz hzm => ⟨zs, rfl, ?_⟩
    have q := q zs hz fun t => (hzm t).trans (hm t)
    unfold spD at q ⊢
    generalize zs.map pD = zd at q ⊢
    cbv
    exact ⟨_, rfl, rfl, q⟩
  case step =>
    rintro i dd K _ _ hd hK ⟨a, b, c, found, rfl, rfl, hl, hm⟩
    rw [← hxd, List.getElem?_map] at hd
    obtain ⟨p, hp1, rfl⟩ := Option.map_eq_some_iff.mp hd
    have hi := (List.getElem?_eq_some_iff.mp hp1).1
    have htk : xs.take (i + 1) = xs.take i ++ [p] := by rw [List.take_add_one, hp1]; rfl
    have hplt := cx.lt p (List.mem_of_getElem? hp1)
    have hnew : ∀ found' : AL.Sp, (∀ t, inS t found' ↔ inS t found ∨ (p.1 ≤ t ∧ t < p.2 ∧ ∃ j, inS j ys ∧ p.1 - 1 ≤ j ∧ j ≤ t)) → ∀ t, inS t found' ↔ inS t ys ∨ ∃ p ∈ xs.take (i + 1), p.1 ≤ t ∧ t < p.2 ∧ ∃ j, inS j ys ∧ p.1 - 1 ≤ j ∧ j ≤ t := fun found' h t => by
      rw [h, hm, htk]
      constructor
      · rintro ((h1 | ⟨r, h1, h2⟩) | h1)
        · exact .inl h1
        · exact .inr ⟨r, List.mem_append_left _ h1, h2⟩
        · exact .inr ⟨p, by simp, h1⟩
      · rintro (h1 | ⟨r, h1, h2⟩)
        · exact .inl (.inl h1)
        · rcases List.mem_append.mp h1 with h1 | h1
          · exact .inl (.inr ⟨r, h1, h2⟩)
          · rw [List.mem_singleton.mp h1] at h2
            exact .inr h2
    clear hd htk
    obtain ⟨lo, hi2⟩ := p
    simp only at hnew hplt
    obtain ⟨fd, hfd⟩ : ∃ x, found.map pD = x := ⟨_, rfl⟩
    have hfl : fd.length = found.length := by rw [← hfd, List.length_map]
    rw [hfd]
    cbv
    rw [hZ.mx, hZ.minus]
    obtain ⟨mm, hmm⟩ : ∃ x, max 0 (lo - 1) = x := ⟨_, rfl⟩
    rw [hmm]
    refine UB mm hi2 _ fun zs hz hzm => ?_
    have U3' := fun R' => U3 zs R'
    unfold spD at U3'
    generalize zs.map pD = zd at U3' ⊢
    cbv
    refine U3' _ (fun hnil => ?_) fun p ps hcons => ?_
    · cbv
      refine hK _ _ ⟨_, _, _, found, rfl, by rw [hfd], by omega, hnew found fun t => ⟨.inl, ?_⟩⟩
      rintro (h | ⟨h1, h2, j, h3, h4, h5⟩)
      · exact h
      · exfalso
        have hj : 0 ≤ j := by
          obtain ⟨r, hr, h6, h7⟩ := h3
          have := hy0 r hr
          omega
        have := (hzm j).mpr ⟨h3, by omega, by omega⟩
        rw [hnil] at this
        exact inS_nil this
    · obtain ⟨f0, hf0⟩ : ∃ x, p.1 = x := ⟨_, rfl⟩
      rw [hf0]
      cbv
      rw [hZ.mx, hY.fit, hY.app]
      have hf1 : inS f0 zs := by
        rw [hcons] at hz ⊢
        exact ⟨p, List.mem_cons_self, by omega, by have := hz.lt p List.mem_cons_self; omega⟩
      obtain ⟨g1, g2, g3⟩ := (hzm f0).mp hf1
      have hleast : ∀ j, inS j zs → f0 ≤ j := fun j hj => by
        rw [hcons] at hj hz
        rcases inS_cons.mp hj with h | h
        · omega
        · have := hz.past h
          have := hz.lt p List.mem_cons_self
          omega
      refine ⟨by rw [sizeLine_eq]; omega, hK _ _ ⟨_, _, _, found ++ [(max lo f0, hi2)], rfl, by rw [List.map_append, hfd]; rfl, by rw [List.length_append, List.length_singleton]; omega, hnew _ fun t => ?_⟩⟩
      rw [inS_append, inS_one]
      simp only
      constructor
      · rintro (h | ⟨h1, h2⟩)
        · exact .inl h
        · exact .inr ⟨by omega, h2, f0, g1, by omega, by omega⟩
      · rintro (h | ⟨h1, h2, j, h3, h4, h5⟩)
        · exact .inl h
        · have hj : 0 ≤ j := by
            obtain ⟨r, hr, h6, h7⟩ := h3
            have := hy0 r hr
            omega
          have := hleast j ((hzm j).mpr ⟨h3, by omega, by omega⟩)
          exact .inr ⟨by omega, h2⟩
/-! ### timed_spans -/
/-- the name of a timed wish, its span law -/
def TimedS (k : Wi Str) (xs : AL.Sp) (T : Int) (t : Int) : Prop := match k with
  | .ago n _ => inS (t - n) xs ∧ 0 ≤ t ∧ t < T
  | .within n _ => (∃ j, t - n ≤ j ∧ j ≤ t ∧ inS j xs) ∧ 0 ≤ t ∧ t < T
  | .held n _ => (∀ j, t - (n - 1) ≤ j → j ≤ t → inS j xs) ∧ 0 ≤ t ∧ t < T
  | .nth n _ => ∃ p, xs[n - 1]? = some p ∧ p.1 = t
  | _ => False
def timedD : Wi Str → List D
  | .ago n _ => [.str "ago", .int (n : Nat)]
  | .within n _ => [.str "within", .int (n : Nat)]
  | .held n _ => [.str "held", .int (n : Nat)]
  | .nth n _ => [.str "nth", .int (n : Nat)]
  | _ => []
def Wi.isTm : Wi Str → Bool
  | .ago _ _ => true
  | .within _ _ => true
  | .held n _ => decide (1 ≤ n)
  | .nth n _ => decide (1 ≤ n)
  | _ => false
def Wi.num : Wi Str → Nat
  | .ago n _ => n
  | .within n _ => n
  | .held n _ => n
  | .nth n _ => n
  | _ => 0
def F_timed_spans : PFs := fun ds R => ∃ (k : Wi Str) (xs : AL.Sp) (T : Nat), k.isTm = true ∧ k.num ≤ 2 ∧ Canon xs ∧ (∀ p ∈ xs, 0 ≤ p.1 ∧ p.2 ≤ T) ∧ T ≤ 100 ∧ ds = timedD k ++ [spD xs, .int (T : Nat)] ∧ ∀ zs, Canon zs → (∀ t, inS t zs ↔ TimedS k xs T t) → R (spD zs)
def U_timed_spans (F : PFs) : Prop := ∀ (k : Wi Str) (xs : AL.Sp) (T : Nat) R, k.isTm = true → k.num ≤ 2 → Canon xs → (∀ p ∈ xs, 0 ≤ p.1 ∧ p.2 ≤ T) → T ≤ 100 → (∀ zs, Canon zs → (∀ t, inS t zs ↔ TimedS k xs T t) → R (spD zs)) → F (timedD k ++ [spD xs, .int (T : Nat)]) R
theorem u_timed_spans : U_timed_spans F_timed_spans := fun k xs T R h1 h2 h3 h4 h5 q => ⟨k, xs, T, h1, h2, h3, h4, h5, rfl, q⟩
theorem sp_timed_spans {F1 F2 F3 F4 F5 : PFs} (hZ : ArOk Z) (hY : YOk Y) (U1 : U_between F1) (U2 : U_worn F2) (U3 : U_grown F3) (U4 : U_later F4) (U5 : U_points F5) : SpecP 4 6 (d_timed_spans Z Y F1 F2 F3 F4 F5) F_timed_spans := by
  rintro _ R _ ⟨k, xs, T, hk, hk2, cx, hb, hT, rfl, q⟩
  have hxl : xs.length ≤ 100 := by have := canon_len cx hb (by omega); omega
  obtain ⟨Ti, hTi⟩ : ∃ x : Int, ((T : Nat) : Int) = x := ⟨_, rfl⟩
  have btw : ∀ ys : AL.Sp, Canon ys → ys.length ≤ 2000 → ∀ yd, ys.map pD = yd → (∀ t, TimedS k xs T t ↔ inS t ys ∧ 0 ≤ t ∧ t < T) → F1 [.tup yd, .int 0, .int Ti] fun d => finA 0 (fun d _ => R d) (.dat d) [] := fun ys cy hl yd hyd hm => by
    rw [← hyd, ← hTi]
    refine U1 ys 0 T _ cy hl fun zs hz hzm => ?_
    have q := q zs hz fun t => by rw [hm]; exact hzm t
    unfold spD at q ⊢
    generalize zs.map pD = zd at q ⊢
    exact ⟨_, rfl, rfl, q⟩
  cases k with
  | ago n a =>
    have hc := later_canon (n : Int) cx
    have hm := later_mem (xs := xs) (n : Int)
    have U4' := fun R' => U4 xs n R' (by omega)
    have hlen : (xs.map fun p => (p.1 + (n : Int), p.2 + (n : Int))).length ≤ 2000 := by rw [List.length_map]; omega
    have btw := btw _ hc hlen _ rfl fun t => by rw [hm]; rfl
    show d_timed_spans Z Y F1 F2 F3 F4 F5 _ _ [some (.dat (.str "ago")), some (.dat (.int (n : Nat))), some (.dat (.tup (xs.map pD))), some (.dat (.int (T : Nat))), none, none] []
    unfold spD at U4'
    generalize (xs.map fun p => (p.1 + (n : Int), p.2 + (n : Int))).map pD = yd at U4' btw
    generalize ((n : Nat) : Int) = ni at U4' ⊢
    generalize xs.map pD = xd at U4' ⊢
    rw [hTi]
    cbv
    refine U4' _ ?_
    cbv
    exact btw
  | within n a =>
    have U3' := fun R' => U3 xs n R' (by omega)
    have hm := grown_mem (n : Int) (by omega) cx
    show d_timed_spans Z Y F1 F2 F3 F4 F5 _ _ [some (.dat (.str "within")), some (.dat (.int (n : Nat))), some (.dat (.tup (xs.map pD))), some (.dat (.int (T : Nat))), none, none] []
    unfold spD at U3'
    have U3' : ∀ R' : D → Prop, (∀ zs : AL.Sp, Canon zs → zs.length ≤ 2000 → (∀ t, TimedS (.within n a) xs T t ↔ inS t zs ∧ 0 ≤ t ∧ t < T) → R' (.tup (zs.map pD))) → F3 [.tup (xs.map pD), .int (n : Nat)] R' := fun R' h => U3' R' fun zs hz hzm => by
      refine h zs hz ?_ fun t => ?_
      · have hbd := canon_bounds hz (lo := 0) (hi := T + n) fun t ht => by
          obtain ⟨j, h1, h2, p, hp, h3, h4⟩ := (hm t).mp ((hzm t).mp ht)
          have := hb p hp
          omega
        have := canon_len hz hbd (by omega)
        have hn : n ≤ 2 := hk2
        omega
      · rw [hzm, hm]; rfl
    generalize ((n : Nat) : Int) = ni at U3' ⊢
    generalize xs.map pD = xd at U3' ⊢
    rw [hTi]
    cbv
    refine U3' _ fun zs hz hl hm => ?_
    have btw := btw zs hz hl _ rfl hm
    generalize zs.map pD = zd at btw ⊢
    cbv
    exact btw
  | held n a =>
    have hn : 1 ≤ n := of_decide_eq_true hk
    have e1 : ((n : Int) - 1) = ((n - 1 : Nat) : Int) := by omega
    have hc := worn_canon ((n : Int) - 1) (by omega) cx
    have hm := worn_mem ((n : Int) - 1) (by omega) cx
    have U2' := fun R' => U2 xs ((n : Int) - 1) R' (by omega)
    have hlen : ((xs.filter fun p => decide (p.1 + ((n : Int) - 1) < p.2)).map fun p => (p.1 + ((n : Int) - 1), p.2)).length ≤ 2000 := by rw [List.length_map]; exact Nat.le_trans (List.length_filter_le _ _) (by omega)
    have btw := btw _ hc hlen _ rfl fun t => by rw [hm]; rfl
    show d_timed_spans Z Y F1 F2 F3 F4 F5 _ _ [some (.dat (.str "held")), some (.dat (.int (n : Nat))), some (.dat (.tup (xs.map pD))), some (.dat (.int (T : Nat))), none, none] []
    unfold spD at U2'
    generalize ((xs.filter fun p => decide (p.1 + ((n : Int) - 1) < p.2)).map fun p => (p.1 + ((n : Int) - 1), p.2)).map pD = yd at U2' btw
    generalize ((n : Nat) : Int) = ni at U2' ⊢
    generalize xs.map pD = xd at U2' ⊢
    rw [hTi]
    cbv
    rw [hZ.minus]
    refine U2' _ ?_
    cbv
    exact btw
  | nth n a =>
    have hn : 1 ≤ n := of_decide_eq_true hk
    have hcut := cut_nth xs n hn
    show d_timed_spans Z Y F1 F2 F3 F4 F5 _ _ [some (.dat (.str "nth")), some (.dat (.int (n : Nat))), some (.dat (.tup (xs.map pD))), some (.dat (.int (T : Nat))), none, none] []
    have pts : ∀ ms : List Int, ms.length ≤ 2000 → (∀ t, TimedS (.nth n a) xs T t ↔ t ∈ ms) → F5 [.lst (ms.map .int)] fun d => finA 0 (fun d _ => R d) (.dat d) [] := fun ms hl hm => by
      refine U5.lst ms _ hl fun zs hz hzm => ?_
      have q := q zs hz fun t => by rw [hm]; exact hzm t
      unfold spD at q ⊢
      generalize zs.map pD = zd at q ⊢
      exact ⟨_, rfl, rfl, q⟩
    have hT2 : ∀ t, TimedS (.nth n a) xs T t ↔ ∃ p, xs[n - 1]? = some p ∧ p.1 = t := fun t => Iff.rfl
    generalize ((n : Nat) : Int) = ni at hcut ⊢
    generalize xs.map pD = xd at hcut ⊢
    rw [hTi]
    cbv
    rw [hY.cut, hZ.minus, hcut, hY.lc]
    cases hx : xs[n - 1]? with
    | none =>
      have pts := pts [] (by simp) fun t => by
        rw [hT2, hx]
        exact ⟨fun ⟨p, h, _⟩ => (by cases h), fun h => (by cases h)⟩
      cbv
      exact pts
    | some p =>
      have pts := pts [p.1] (by simp) fun t => by
        rw [hT2, hx, List.mem_singleton]
        exact ⟨fun ⟨p', h, e⟩ => (by cases h; exact e.symm), fun h => ⟨p, rfl, h.symm⟩⟩
      obtain ⟨u, v⟩ := p
      cbv
      exact pts
  | _ => cases hk
end AL
end
section
set_option Elab.async false
set_option linter.all false
set_option maxRecDepth 100000
set_option maxHeartbeats 4000000
/-! S20: when. -/
namespace AL
open PySem PySem.Spec PyProof.Rows L2
variable {Z : Ar} {Y : LY}
section
variable {L : Nat → Str → Int} {T : Nat} {a b : Wi Str} {xs ys zs : AL.Sp}
theorem vw_at (h : VW L T a xs) (n : Nat) : inS (n : Int) xs ↔ n < T ∧ val L a n = true := by
  rw [h]
  constructor
  · rintro ⟨m, e, h1, h2⟩
    have : m = n := by omega
    subst this
    exact ⟨h1, h2⟩
  · rintro ⟨h1, h2⟩; exact ⟨n, rfl, h1, h2⟩
theorem vw_pos (h : VW L T a xs) {t : Int} (ht : inS t xs) : 0 ≤ t ∧ t < T := by
  obtain ⟨m, e, h1, _⟩ := (h t).mp ht
  omega
theorem vw_bounds (h : VW L T a xs) (c : Canon xs) : ∀ p ∈ xs, 0 ≤ p.1 ∧ p.2 ≤ T := canon_bounds c fun t ht => vw_pos h ht
theorem vw_len (h : VW L T a xs) (c : Canon xs) (hT : T ≤ 100) : xs.length ≤ 100 := by
  have := canon_len c (vw_bounds h c) (by omega)
  omega
/-- a claim at every moment is enough -/
theorem vw_mk {w : Wi Str} (h0 : ∀ t, inS t zs → 0 ≤ t ∧ t < T) (h : ∀ n : Nat, n < T → (inS (n : Int) zs ↔ val L w n = true)) : VW L T w zs := fun t => by
  constructor
  · intro ht
    have h1 := h0 t ht
    have e : ((t.toNat : Nat) : Int) = t := by omega
    refine ⟨t.toNat, e.symm, by omega, (h t.toNat (by omega)).mp ?_⟩
    rw [e]; exact ht
  · rintro ⟨n, rfl, h1, h2⟩
    exact (h n h1).mpr h2
theorem vw_yes (h : ∀ t, inS t zs ↔ inS t [((0 : Int), (T : Int))]) : VW L T .yes zs := vw_mk (fun t ht => inS_one.mp ((h t).mp ht)) fun n hn => by
  rw [h, inS_one, val_yes]
  exact ⟨fun _ => rfl, fun _ => ⟨Int.natCast_nonneg n, Int.ofNat_lt.mpr hn⟩⟩
theorem vw_not (h : VW L T a xs) (c : Canon xs) : Canon (othersF T 0 xs) ∧ VW L T (.not a) (othersF T 0 xs) := by
  have hb := vw_bounds h c
  obtain ⟨h1, _, h3⟩ := othersF_from (T := T) (b := 0) c fun p hp => (hb p hp).1
  have h3 := h3 fun p hp => (hb p hp).2
  refine ⟨h1, vw_mk (fun t ht => ?_) fun n hn => ?_⟩
  · have := (h3 t).mp ht; omega
  · rw [h3, vw_at h, val_not]
    constructor
    · rintro ⟨_, _, h4⟩
      cases hv : val L a n
      · rfl
      · exact absurd ⟨hn, hv⟩ h4
    · intro h4
      refine ⟨by omega, by omega, fun ⟨_, h5⟩ => ?_⟩
      rw [h5] at h4; cases h4
theorem vw_both (h1 : VW L T a xs) (h2 : VW L T b ys) (h : ∀ t, inS t zs ↔ inS t xs ∧ inS t ys) : VW L T (.both a b) zs := vw_mk (fun t ht => vw_pos h1 ((h t).mp ht).1) fun n hn => by
  rw [h, vw_at h1, vw_at h2, val_both, Bool.and_eq_true]
  exact ⟨fun h => ⟨h.1.2, h.2.2⟩, fun h => ⟨⟨hn, h.1⟩, hn, h.2⟩⟩
theorem vw_either (h1 : VW L T a xs) (h2 : VW L T b ys) (h : ∀ t, inS t zs ↔ inS t xs ∨ inS t ys) : VW L T (.either a b) zs := vw_mk (fun t ht => ((h t).mp ht).elim (vw_pos h1) (vw_pos h2)) fun n hn => by
  rw [h, vw_at h1, vw_at h2, val_either, Bool.or_eq_true]
  exact ⟨fun h => h.imp (·.2) (·.2), fun h => h.imp (fun x => ⟨hn, x⟩) fun x => ⟨hn, x⟩⟩
theorem vw_since (c : Canon xs) (h1 : VW L T a xs) (h2 : VW L T b ys) (h : ∀ t, inS t zs ↔ SinceS xs ys t) : VW L T (.since a b) zs := by
  have hs : ∀ t, inS t zs ↔ ∃ j, j ≤ t ∧ inS j ys ∧ ∀ i, j < i → i ≤ t → inS i xs := fun t => (h t).trans (since_mem c t).symm
  refine vw_mk (fun t ht => ?_) fun n hn => ?_
  · obtain ⟨j, h3, h4, h5⟩ := (hs t).mp ht
    have h6 := vw_pos h2 h4
    rcases Int.lt_or_le j t with h7 | h7
    · exact vw_pos h1 (h5 t h7 (by omega))
    · have : j = t := by omega
      rw [← this]; exact h6
  · rw [hs, val_since]
    constructor
    · rintro ⟨j, h3, h4, h5⟩
      have h6 := vw_pos h2 h4
      have e : ((j.toNat : Nat) : Int) = j := by omega
      refine ⟨j.toNat, by omega, ((vw_at h2 j.toNat).mp (by rw [e]; exact h4)).2, fun i h7 h8 => ((vw_at h1 i).mp (h5 i (by omega) (by omega))).2⟩
    · rintro ⟨j, h3, h4, h5⟩
      refine ⟨j, by omega, (vw_at h2 j).mpr ⟨by omega, h4⟩, fun i h7 h8 => ?_⟩
      have e : ((i.toNat : Nat) : Int) = i := by omega
      have := (vw_at h1 i.toNat).mpr ⟨by omega, h5 i.toNat (by omega) (by omega)⟩
      rwa [e] at this
theorem vw_ago {n : Nat} (h1 : VW L T a xs) (h : ∀ t, inS t zs ↔ TimedS (.ago n a) xs T t) : VW L T (.ago n a) zs := vw_mk (fun t ht => ((h t).mp ht).2) fun m hm => by
  rw [h, val_ago]
  show (inS ((m : Int) - n) xs ∧ 0 ≤ (m : Int) ∧ (m : Int) < T) ↔ _
  constructor
  · rintro ⟨h2, _⟩
    have h3 := vw_pos h1 h2
    have e : (m : Int) - n = ((m - n : Nat) : Int) := by omega
    rw [e] at h2
    exact ⟨by omega, ((vw_at h1 _).mp h2).2⟩
  · rintro ⟨h2, h3⟩
    have e : (m : Int) - n = ((m - n : Nat) : Int) := by omega
    rw [e]
    exact ⟨(vw_at h1 _).mpr ⟨by omega, h3⟩, by omega, by omega⟩
theorem vw_within {n : Nat} (h1 : VW L T a xs) (h : ∀ t, inS t zs ↔ TimedS (.within n a) xs T t) : VW L T (.within n a) zs := vw_mk (fun t ht => ((h t).mp ht).2) fun m hm => by
  rw [h, val_within]
  show ((∃ j : Int, (m : Int) - n ≤ j ∧ j ≤ m ∧ inS j xs) ∧ 0 ≤ (m : Int) ∧ (m : Int) < T) ↔ _
  constructor
  · rintro ⟨⟨j, h2, h3, h4⟩, _⟩
    have h5 := vw_pos h1 h4
    have e : ((j.toNat : Nat) : Int) = j := by omega
    exact ⟨j.toNat, by omega, by omega, ((vw_at h1 j.toNat).mp (by rw [e]; exact h4)).2⟩
  · rintro ⟨j, h2, h3, h4⟩
    exact ⟨⟨j, by omega, by omega, (vw_at h1 j).mpr ⟨by omega, h4⟩⟩, by omega, by omega⟩
theorem vw_held {n : Nat} (hn : 1 ≤ n) (h1 : VW L T a xs) (h : ∀ t, inS t zs ↔ TimedS (.held n a) xs T t) : VW L T (.held n a) zs := vw_mk (fun t ht => ((h t).mp ht).2) fun m hm => by
  rw [h, val_held n a hn]
  show ((∀ j : Int, (m : Int) - (n - 1) ≤ j → j ≤ m → inS j xs) ∧ 0 ≤ (m : Int) ∧ (m : Int) < T) ↔ _
  constructor
  · rintro ⟨h2, _⟩
    have h3 := vw_pos h1 (h2 ((m : Int) - (n - 1)) (by omega) (by omega))
    exact ⟨by omega, fun j h4 h5 => ((vw_at h1 j).mp (h2 j (by omega) (by omega))).2⟩
  · rintro ⟨h2, h3⟩
    refine ⟨fun j h4 h5 => ?_, by omega, by omega⟩
    have e : ((j.toNat : Nat) : Int) = j := by omega
    have := (vw_at h1 j.toNat).mpr ⟨by omega, h3 j.toNat (by omega) (by omega)⟩
    rwa [e] at this
theorem vw_nth {n : Nat} (hn : 1 ≤ n) (c : Canon xs) (h1 : VW L T a xs) (h : ∀ t, inS t zs ↔ TimedS (.nth n a) xs T t) : VW L T (.nth n a) zs := by
  have hT : ∀ t, inS t zs ↔ ∃ p, xs[n - 1]? = some p ∧ p.1 = t := fun t => h t
  refine vw_mk (fun t ht => ?_) fun m hm => ?_
  · obtain ⟨p, h2, rfl⟩ := (hT t).mp ht
    have hp := List.mem_of_getElem? h2
    have h3 := vw_bounds h1 c p hp
    have h4 := c.lt p hp
    omega
  · rw [hT, val_nth n a hn]
    exact (nth_span c h1 hn hm).symm
end
def F_when (n : Nat) : PFs := fun ds R => ∃ ns lns T L w, LinesOk ns lns T ∧ Lets ns lns T L ∧ w.size ≤ n ∧ w.good (· ∈ ns) ∧ ds = [linesD ns lns, encW w] ∧ ∀ zs, Canon zs → VW L T w zs → R (spD zs)
def U_when (n : Nat) (F : PFs) : Prop := ∀ ns lns T L w R, LinesOk ns lns T → Lets ns lns T L → w.size ≤ n → w.good (· ∈ ns) → (∀ zs, Canon zs → VW L T w zs → R (spD zs)) → F [linesD ns lns, encW w] R
theorem u_when (n : Nat) : U_when n (F_when n) := fun ns lns T L w R h1 h2 h3 h4 q => ⟨ns, lns, T, L, w, h1, h2, h3, h4, rfl, q⟩
theorem sp_when {n : Nat} {F1 F2 F3 F4 F5 F6 F7 F8 F9 : PFs} (hZ : ArOk Z) (hY : YOk Y) (U1 : U_line_spans F1) (U2 : U_when n F2) (U3 : U_timed_spans F3) (U4 : U_since_spans F4) (U5 : U_either_of F5) (U6 : U_both_of F6) (U7 : U_others F7) (U8 : U_spans_of F8) (U9 : U_moments_of F9) :
    SpecP 2 7 (d_when Z Y F1 F2 F3 F4 F5 F6 F7 F8 F9) (F_when (n + 1)) := by
  rintro _ R _ ⟨ns, lns, T, L, w, ok, hL, hsz, hg, rfl, q⟩
  have UM := fun R' => U9 ns lns T R' ok
  have hfew := ok.few
  have UW : ∀ a : Wi Str, a.size ≤ n → a.good (· ∈ ns) → ∀ R', (∀ zs, Canon zs → VW L T a zs → R' (spD zs)) → F2 [linesD ns lns, encW a] R' := fun a h1 h2 R' h => U2 ns lns T L a R' ok hL h1 h2 h
  have ULn : w.isLine = true → F1 [linesD ns lns, encW w] fun d => finA 0 (fun d _ => R d) (.dat d) [] := fun h => U1 ns lns T L w _ ok hL h hg fun zs hz hv => by
    have q := q zs hz hv
    unfold spD at q ⊢
    generalize zs.map pD = zd at q ⊢
    exact ⟨_, rfl, rfl, q⟩
  obtain ⟨ld, hld⟩ : ∃ x, linesD ns lns = .tup x := ⟨_, rfl⟩
  obtain ⟨Ti, hTi⟩ : ∃ x : Int, ((T : Nat) : Int) = x := ⟨_, rfl⟩
  rw [hld] at UM UW ULn ⊢
  rw [hTi] at UM
  have fin : ∀ zs, Canon zs → VW L T w zs → ∀ zd, zs.map pD = zd → R (.tup zd) := fun zs h1 h2 zd h3 => by rw [← h3]; exact q zs h1 h2
  cases w with
  | yes =>
    have U8' := fun R' => U8.lst [((0 : Int), (T : Int))] R' (by simp)
    have e : [((0 : Int), (T : Int))].map pD = [.tup [.int 0, .int Ti]] := by rw [← hTi]; rfl
    rw [e] at U8'
    cbv
    refine UM _ ?_
    cbv
    refine U8' _ fun zs hz hm => ?_
    have q := fin zs hz (vw_yes hm) _ rfl
    unfold spD
    generalize zs.map pD = zd at q ⊢
    cbv
    exact ⟨_, rfl, rfl, q⟩
  | not a =>
    have UA := UW a (by simp only [Wi.size] at hsz; omega) hg
    show d_when Z Y F1 F2 F3 F4 F5 F6 F7 F8 F9 _ _ [some (.dat (.tup ld)), some (.dat (.tup [.str "not", encW a])), none, none, none, none, none] []
    generalize encW a = ea at UA ⊢
    cbv
    refine UM _ ?_
    cbv
    rw [hY.at_, atI0]
    cbv
    refine UA _ fun xs cx hx => ?_
    obtain ⟨h1, h2⟩ := vw_not hx cx
    have q := fin _ h1 h2 _ rfl
    obtain ⟨od, hod⟩ : ∃ x, (othersF T 0 xs).map pD = x := ⟨_, rfl⟩
    rw [hod] at q
    obtain ⟨xd, hxd⟩ : ∃ x, spD xs = .tup x := ⟨_, rfl⟩
    have U7' : ∀ R' : D → Prop, R' (.tup od) → F7 [.tup xd, .int Ti] R' := fun R' h => by
      rw [← hTi, ← hxd]
      refine U7 xs T R' (by have := vw_len hx cx hfew; omega) ?_
      rw [← hod] at h
      exact h
    rw [hxd]
    cbv
    refine U7' _ ?_
    cbv
    exact ⟨_, rfl, rfl, q⟩
  | both a b =>
    simp only [Wi.size] at hsz
    have UA := UW a (by omega) hg.1
    have UB := UW b (by omega) hg.2
    show d_when Z Y F1 F2 F3 F4 F5 F6 F7 F8 F9 _ _ [some (.dat (.tup ld)), some (.dat (.tup [.str "both", encW a, encW b])), none, none, none, none, none] []
    generalize encW a = ea at UA ⊢
    generalize encW b = eb at UB ⊢
    have a1 : atI [ea, eb] 1 = some eb := atI1 _ _ _
    cbv
    refine UM _ ?_
    cbv
    rw [hY.at_, atI0]
    cbv
    refine UA _ fun xs cx hx => ?_
    obtain ⟨xd, hxd⟩ : ∃ x, spD xs = .tup x := ⟨_, rfl⟩
    rw [hxd]
    cbv
    rw [hY.at_, a1]
    cbv
    refine UB _ fun ys cy hy => ?_
    have U6' := fun R' => U6 xs ys R' cx cy (by have := vw_len hx cx hfew; omega) (by have := vw_len hy cy hfew; omega)
    obtain ⟨yd, hyd⟩ : ∃ x, spD ys = .tup x := ⟨_, rfl⟩
    rw [hxd, hyd] at U6'
    rw [hyd]
    cbv
    refine U6' _ fun zs hz hm => ?_
    have q := fin zs hz (vw_both hx hy hm) _ rfl
    unfold spD
    generalize zs.map pD = zd at q ⊢
    cbv
    exact ⟨_, rfl, rfl, q⟩
  | either a b =>
    simp only [Wi.size] at hsz
    have UA := UW a (by omega) hg.1
    have UB := UW b (by omega) hg.2
    show d_when Z Y F1 F2 F3 F4 F5 F6 F7 F8 F9 _ _ [some (.dat (.tup ld)), some (.dat (.tup [.str "either", encW a, encW b])), none, none, none, none, none] []
    generalize encW a = ea at UA ⊢
    generalize encW b = eb at UB ⊢
    have a1 : atI [ea, eb] 1 = some eb := atI1 _ _ _
    cbv
    refine UM _ ?_
    cbv
    rw [hY.at_, atI0]
    cbv
    refine UA _ fun xs cx hx => ?_
    obtain ⟨xd, hxd⟩ : ∃ x, spD xs = .tup x := ⟨_, rfl⟩
    rw [hxd]
    cbv
    rw [hY.at_, a1]
    cbv
    refine UB _ fun ys cy hy => ?_
    have U5' := fun R' => U5 xs ys R' (by have := vw_len hx cx hfew; omega) (by have := vw_len hy cy hfew; omega)
    obtain ⟨yd, hyd⟩ : ∃ x, spD ys = .tup x := ⟨_, rfl⟩
    rw [hxd, hyd] at U5'
    rw [hyd]
    cbv
    refine U5' _ fun zs hz hm => ?_
    have q := fin zs hz (vw_either hx hy hm) _ rfl
    unfold spD
    generalize zs.map pD = zd at q ⊢
    cbv
    exact ⟨_, rfl, rfl, q⟩
  | since a b =>
    simp only [Wi.size] at hsz
    have UA := UW a (by omega) hg.1
    have UB := UW b (by omega) hg.2
    show d_when Z Y F1 F2 F3 F4 F5 F6 F7 F8 F9 _ _ [some (.dat (.tup ld)), some (.dat (.tup [.str "since", encW a, encW b])), none, none, none, none, none] []
    generalize encW a = ea at UA ⊢
    generalize encW b = eb at UB ⊢
    have a1 : atI [ea, eb] 1 = some eb := atI1 _ _ _
    cbv
    refine UM _ ?_
    cbv
    rw [hY.at_, atI0]
    cbv
    refine UA _ fun xs cx hx => ?_
    obtain ⟨xd, hxd⟩ : ∃ x, spD xs = .tup x := ⟨_, rfl⟩
    rw [hxd]
    cbv
    rw [hY.at_, a1]
    cbv
    refine UB _ fun ys cy hy => ?_
    have U4' := fun R' => U4 xs ys R' cx cy (by have := vw_len hx cx hfew; omega) (by have := vw_len hy cy hfew; omega) fun p hp => (vw_bounds hy cy p hp).1
    obtain ⟨yd, hyd⟩ : ∃ x, spD ys = .tup x := ⟨_, rfl⟩
    rw [hxd, hyd] at U4'
    rw [hyd]
    cbv
    refine U4' _ fun zs hz hm => ?_
    have q := fin zs hz (vw_since cx hx hy hm) _ rfl
    unfold spD
    generalize zs.map pD = zd at q ⊢
    cbv
    exact ⟨_, rfl, rfl, q⟩
  | ago m a =>
    simp only [Wi.size] at hsz
    have UA := UW a (by omega) hg.2
    have UT := fun xs R' cx hx => U3 (.ago m a) xs T R' rfl hg.1 cx hx hfew
    show d_when Z Y F1 F2 F3 F4 F5 F6 F7 F8 F9 _ _ [some (.dat (.tup ld)), some (.dat (.tup [.str "ago", .int (m : Nat), encW a])), none, none, none, none, none] []
    have UT : ∀ (xs : AL.Sp) (R' : D → Prop), Canon xs → (∀ p ∈ xs, 0 ≤ p.1 ∧ p.2 ≤ T) → (∀ zs, Canon zs → (∀ t, inS t zs ↔ TimedS (.ago m a) xs T t) → R' (spD zs)) → F3 [.str "ago", .int (m : Nat), spD xs, .int Ti] R' := fun xs R' cx hx h => by
      rw [← hTi]
      exact UT xs R' cx hx h
    generalize encW a = ea at UA ⊢
    generalize ((m : Nat) : Int) = mi at UT ⊢
    have a1 : atI [.int mi, ea] 1 = some ea := atI1 _ _ _
    cbv
    refine UM _ ?_
    cbv
    rw [hY.at_, atI0]
    cbv
    rw [hY.at_, a1]
    cbv
    refine UA _ fun xs cx hx => ?_
    have UT := fun R' => UT xs R' cx (vw_bounds hx cx)
    obtain ⟨xd, hxd⟩ : ∃ x, spD xs = .tup x := ⟨_, rfl⟩
    rw [hxd] at UT ⊢
    cbv
    refine UT _ fun zs hz hm => ?_
    have q := fin zs hz (vw_ago hx hm) _ rfl
    unfold spD
    generalize zs.map pD = zd at q ⊢
    cbv
    exact ⟨_, rfl, rfl, q⟩
  | within m a =>
    simp only [Wi.size] at hsz
    have UA := UW a (by omega) hg.2
    have UT := fun xs R' cx hx => U3 (.within m a) xs T R' rfl hg.1 cx hx hfew
    show d_when Z Y F1 F2 F3 F4 F5 F6 F7 F8 F9 _ _ [some (.dat (.tup ld)), some (.dat (.tup [.str "within", .int (m : Nat), encW a])), none, none, none, none, none] []
    have UT : ∀ (xs : AL.Sp) (R' : D → Prop), Canon xs → (∀ p ∈ xs, 0 ≤ p.1 ∧ p.2 ≤ T) → (∀ zs, Canon zs → (∀ t, inS t zs ↔ TimedS (.within m a) xs T t) → R' (spD zs)) → F3 [.str "within", .int (m : Nat), spD xs, .int Ti] R' := fun xs R' cx hx h => by
      rw [← hTi]
      exact UT xs R' cx hx h
    generalize encW a = ea at UA ⊢
    generalize ((m : Nat) : Int) = mi at UT ⊢
    have a1 : atI [.int mi, ea] 1 = some ea := atI1 _ _ _
    cbv
    refine UM _ ?_
    cbv
    rw [hY.at_, atI0]
    cbv
    rw [hY.at_, a1]
    cbv
    refine UA _ fun xs cx hx => ?_
    have UT := fun R' => UT xs R' cx (vw_bounds hx cx)
    obtain ⟨xd, hxd⟩ : ∃ x, spD xs = .tup x := ⟨_, rfl⟩
    rw [hxd] at UT ⊢
    cbv
    refine UT _ fun zs hz hm => ?_
    have q := fin zs hz (vw_within hx hm) _ rfl
    unfold spD
    generalize zs.map pD = zd at q ⊢
    cbv
    exact ⟨_, rfl, rfl, q⟩
  | held m a =>
    simp only [Wi.size] at hsz
    have UA := UW a (by omega) hg.2.2
    have UT := fun xs R' cx hx => U3 (.held m a) xs T R' (decide_eq_true hg.1) hg.2.1 cx hx hfew
    show d_when Z Y F1 F2 F3 F4 F5 F6 F7 F8 F9 _ _ [some (.dat (.tup ld)), some (.dat (.tup [.str "held", .int (m : Nat), encW a])), none, none, none, none, none] []
    have UT : ∀ (xs : AL.Sp) (R' : D → Prop), Canon xs → (∀ p ∈ xs, 0 ≤ p.1 ∧ p.2 ≤ T) → (∀ zs, Canon zs → (∀ t, inS t zs ↔ TimedS (.held m a) xs T t) → R' (spD zs)) → F3 [.str "held", .int (m : Nat), spD xs, .int Ti] R' := fun xs R' cx hx h => by
      rw [← hTi]
      exact UT xs R' cx hx h
    generalize encW a = ea at UA ⊢
    generalize ((m : Nat) : Int) = mi at UT ⊢
    have a1 : atI [.int mi, ea] 1 = some ea := atI1 _ _ _
    cbv
    refine UM _ ?_
    cbv
    rw [hY.at_, atI0]
    cbv
    rw [hY.at_, a1]
    cbv
    refine UA _ fun xs cx hx => ?_
    have UT := fun R' => UT xs R' cx (vw_bounds hx cx)
    obtain ⟨xd, hxd⟩ : ∃ x, spD xs = .tup x := ⟨_, rfl⟩
    rw [hxd] at UT ⊢
    cbv
    refine UT _ fun zs hz hm => ?_
    have q := fin zs hz (vw_held hg.1 hx hm) _ rfl
    unfold spD
    generalize zs.map pD = zd at q ⊢
    cbv
    exact ⟨_, rfl, rfl, q⟩
  | nth m a =>
    simp only [Wi.size] at hsz
    have UA := UW a (by omega) hg.2.2
    have UT := fun xs R' cx hx => U3 (.nth m a) xs T R' (decide_eq_true hg.1) hg.2.1 cx hx hfew
    show d_when Z Y F1 F2 F3 F4 F5 F6 F7 F8 F9 _ _ [some (.dat (.tup ld)), some (.dat (.tup [.str "nth", .int (m : Nat), encW a])), none, none, none, none, none] []
    have UT : ∀ (xs : AL.Sp) (R' : D → Prop), Canon xs → (∀ p ∈ xs, 0 ≤ p.1 ∧ p.2 ≤ T) → (∀ zs, Canon zs → (∀ t, inS t zs ↔ TimedS (.nth m a) xs T t) → R' (spD zs)) → F3 [.str "nth", .int (m : Nat), spD xs, .int Ti] R' := fun xs R' cx hx h => by
      rw [← hTi]
      exact UT xs R' cx hx h
    generalize encW a = ea at UA ⊢
    generalize ((m : Nat) : Int) = mi at UT ⊢
    have a1 : atI [.int mi, ea] 1 = some ea := atI1 _ _ _
    cbv
    refine UM _ ?_
    cbv
    rw [hY.at_, atI0]
    cbv
    rw [hY.at_, a1]
    cbv
    refine UA _ fun xs cx hx => ?_
    have UT := fun R' => UT xs R' cx (vw_bounds hx cx)
    obtain ⟨xd, hxd⟩ : ∃ x, spD xs = .tup x := ⟨_, rfl⟩
    rw [hxd] at UT ⊢
    cbv
    refine UT _ fun zs hz hm => ?_
    have q := fin zs hz (vw_nth hg.1 cx hx hm) _ rfl
    unfold spD
    generalize zs.map pD = zd at q ⊢
    cbv
    exact ⟨_, rfl, rfl, q⟩
  | high x =>
    have UX := ULn rfl
    cbv
    refine UM _ ?_
    cbv
    exact UX
  | low x =>
    have UX := ULn rfl
    cbv
    refine UM _ ?_
    cbv
    exact UX
  | rise x =>
    have UX := ULn rfl
    cbv
    refine UM _ ?_
    cbv
    exact UX
  | fall x =>
    have UX := ULn rfl
    cbv
    refine UM _ ?_
    cbv
    exact UX
  | pulse x lev lo hi =>
    have UX : F1 [.tup ld, .tup [.str "pulse", .str x, .int lev, .int (lo : Nat), .int (hi : Nat)]] fun d => finA 0 (fun d _ => R d) (.dat d) [] := ULn rfl
    show d_when Z Y F1 F2 F3 F4 F5 F6 F7 F8 F9 _ _ [some (.dat (.tup ld)), some (.dat (.tup [.str "pulse", .str x, .int lev, .int (lo : Nat), .int (hi : Nat)])), none, none, none, none, none] []
    generalize ((lo : Nat) : Int) = loi at UX ⊢
    generalize ((hi : Nat) : Int) = hii at UX ⊢
    cbv
    refine UM _ ?_
    cbv
    exact UX
  | edges x n lo hi =>
    have UX : F1 [.tup ld, .tup [.str "edges", .str x, .int (n : Nat), .int (lo : Nat), .int (hi : Nat)]] fun d => finA 0 (fun d _ => R d) (.dat d) [] := ULn rfl
    show d_when Z Y F1 F2 F3 F4 F5 F6 F7 F8 F9 _ _ [some (.dat (.tup ld)), some (.dat (.tup [.str "edges", .str x, .int (n : Nat), .int (lo : Nat), .int (hi : Nat)])), none, none, none, none, none] []
    generalize ((lo : Nat) : Int) = loi at UX ⊢
    generalize ((hi : Nat) : Int) = hii at UX ⊢
    generalize ((n : Nat) : Int) = ni at UX ⊢
    cbv
    refine UM _ ?_
    cbv
    exact UX
/-- wishes that are alike are so at the same moments -/
theorem vw_alike {L : Nat → Str → Int} {T : Nat} {w v : Wi Str} {xs ys : AL.Sp} (cx : Canon xs) (cy : Canon ys) (hx : VW L T w xs) (hy : VW L T v ys) (h : ∀ n, n < T → val L w n = val L v n) : xs = ys := canon_uniq cx cy fun t => by
  rw [hx, hy]
  constructor
  · rintro ⟨n, e, h1, h2⟩; exact ⟨n, e, h1, by rw [← h n h1]; exact h2⟩
  · rintro ⟨n, e, h1, h2⟩; exact ⟨n, e, h1, by rw [h n h1]; exact h2⟩
/-- the letters of lines as rows -/
def rowOf (lns : List Ln) (t : Nat) : List Int := lns.map fun ln => lvAt ln t
def histR (lns : List Ln) : Nat → List (List Int)
  | 0 => []
  | n + 1 => rowOf lns n :: histR lns n
theorem hist_rows (ns : List Str) (lns : List Ln) : ∀ n, hist (fun t => lvF ns (rowOf lns t)) n = wdOf ns (histR lns n)
  | 0 => rfl
  | n + 1 => by
    unfold hist histR wdOf
    rw [hist_rows ns lns n]
    rfl
theorem lvF_row {x : Str} {t : Nat} : ∀ {ns : List Str} {lns : List Ln}, x ∈ ns → lns.length = ns.length → lvF ns (rowOf lns t) x = lvAt (lineOf ns lns x) t
  | [], _, h, _ => by cases h
  | n :: ns, [], _, h => by simp at h
  | n :: ns, l :: lns, h, hl => by
    unfold lvF lineOf rowOf
    rw [List.map_cons, List.zip_cons_cons, List.zip_cons_cons, List.find?_cons, List.find?_cons]
    by_cases e : n = x
    · subst e; simp
    · simp only [decide_eq_false e]
      exact lvF_row (t := t) ((List.mem_cons.mp h).resolve_left fun z => e z.symm) (by simpa using hl)
theorem lets_rows {ns : List Str} {lns : List Ln} {T : Nat} (ok : LinesOk ns lns T) : Lets ns lns T fun t => lvF ns (rowOf lns t) := fun t _ x hx => lvF_row hx ok.len
theorem row_in {ns : List Str} {lns : List Ln} {T : Nat} (ok : LinesOk ns lns T) (t : Nat) : rowOf lns t ∈ lvRows ns.length := by
  have hb : ∀ ln ∈ lns, lvAt ln t = 0 ∨ lvAt ln t = 1 := fun ln hl => by
    obtain ⟨lv, hb, h1, _⟩ := ok.ok ln hl
    exact lvAt_bit h1 hb
  have hl := ok.len
  rcases ok.two with h2 | h2
  · rw [h2] at hl ⊢
    match lns, hl, hb with
    | [a], _, hb =>
      unfold rowOf
      rcases hb a (by simp) with h | h <;> simp [h, lvRows]
  · rw [h2] at hl ⊢
    match lns, hl, hb with
    | [a, b], _, hb =>
      unfold rowOf
      rcases hb a (by simp) with h | h <;> rcases hb b (by simp) with h3 | h3 <;> simp [h, h3, lvRows]
theorem histR_in {ns : List Str} {lns : List Ln} {T : Nat} (ok : LinesOk ns lns T) : ∀ n, ∀ r ∈ histR lns n, r ∈ lvRows ns.length
  | 0, r, h => by cases h
  | n + 1, r, h => by
    rcases List.mem_cons.mp h with rfl | h
    · exact row_in ok n
    · exact histR_in ok n r h
theorem when_alike {ns : List Str} {lns : List Ln} {T : Nat} {w v : Wi Str} (ok : LinesOk ns lns T) (h : Least ns [w, v] none) (n : Nat) : val (fun t => lvF ns (rowOf lns t)) w n = val (fun t => lvF ns (rowOf lns t)) v n := by
  unfold val
  rw [hist_rows]
  exact least_same h (histR lns n) (histR_in ok n) _ (row_in ok n)
end AL
end
section
set_option Elab.async false
set_option linter.all false
set_option maxRecDepth 100000
set_option maxHeartbeats 4000000
/-! S21: the law's take, box. -/
namespace AL
open PySem PySem.Spec PyProof.Rows L2
variable {Z : Ar} {Y : LY}
/-- a def handed one list that changes, first, and trees -/
def SpecB (n m : Nat) (t : AS) (F : BFs) : Prop := ∀ ds bs (R : D → AH → Prop), ds.length + 1 = n → F ds bs (fun d b => R d [.lst b]) → t (fun _ h => finA 1 R (.dat .non) h) (finA 1 R) (some (.ref 0) :: ds.map (fun d => some (AV.dat d)) ++ List.replicate (m - n) none) [.lst bs]
theorem SpecB.to {n m : Nat} {t : AS} {F : BFs} (s : SpecB n m t F) (N : List Str) (hN : N.length = m) : ∀ as hs (R : D → AH → Prop), as.length = n → bF F as hs R → t (fun _ h => finA hs.length R (.dat .non) h) (finA hs.length R) (startA N as) hs := by
  intro as hs R hl h
  unfold bF at h
  split at h
  · rename_i r bs
    split at h
    · rename_i ds hd
      have e := datL_eq hd
      subst e
      have hl' : ds.length + 1 = n := by simpa using hl
      have q := s ds bs R hl' h
      have e1 : startA N (.ref 0 :: ds.map .dat) = some (.ref 0) :: ds.map (fun d => some (AV.dat d)) ++ List.replicate (m - n) none := by
        unfold startA
        rw [List.length_cons, List.length_map, hN, hl', List.map_cons, List.map_map]; rfl
      rw [e1]
      exact q
    · cases h
  · cases h
def boxL (a b c : Int) : List D := [.int a, .int b, .int c]
def F_take : BFs := fun ds bs R => ∃ many a b c : Int, 0 < many ∧ many < 1000 ∧ ds = [.int many] ∧ bs = boxL a b c ∧ ∀ r a' b' c', 0 ≤ r → r < many → R (.int r) (boxL a' b' c')
def U_take (F : BFs) : Prop := ∀ (many a b c : Int) R, 0 < many → many < 1000 → (∀ r a' b' c', 0 ≤ r → r < many → R (.int r) (boxL a' b' c')) → F [.int many] (boxL a b c) R
theorem u_take : U_take F_take := fun many a b c R h1 h2 q => ⟨many, a, b, c, h1, h2, rfl, rfl, q⟩
theorem cm_r {i j : Int} (h1 : -(2 ^ 64) < j := by decide) (h2 : j < 2 ^ 64 := by decide) : CMul i j := .inr ⟨h1, h2⟩
theorem cm_l {i j : Int} (h1 : -(2 ^ 64) < i := by decide) (h2 : i < 2 ^ 64 := by decide) : CMul i j := .inl ⟨h1, h2⟩
theorem fm_lo {a m : Int} (h : 0 < m) : 0 ≤ a.fmod m := Int.fmod_nonneg_of_pos a h
theorem fm_hi {a m : Int} (h : 0 < m) : a.fmod m < m := Int.fmod_lt_of_pos a h
theorem set0 {α : Type} (a b c x : α) : (ixN [a, b, c].length 0).map (fun j => [a, b, c].set j x) = some [x, b, c] := rfl
theorem set1 {α : Type} (a b c x : α) : (ixN [a, b, c].length 1).map (fun j => [a, b, c].set j x) = some [a, x, c] := rfl
theorem set2 {α : Type} (a b c x : α) : (ixN [a, b, c].length 2).map (fun j => [a, b, c].set j x) = some [a, b, x] := rfl
theorem sp_take (hZ : ArOk Z) (hY : YOk Y) : SpecB 2 4 (d_lw_take Z Y) F_take := by
  rintro _ _ R _ ⟨many, a, b, c, hm, hm2, rfl, rfl, q⟩
  have a0 : ∀ a b c : D, atI [a, b, c] 0 = some a := fun a b c => atI0 _ _
  have a1 : ∀ a b c : D, atI [a, b, c] 1 = some b := fun a b c => atI1 _ _ _
  have a2 : ∀ a b c : D, atI [a, b, c] 2 = some c := fun a b c => atI2 _ _ _ _
  have s0 : ∀ a b c x : D, Y .set_ [a, b, c] 0 x = some [x, b, c] := fun a b c x => by rw [hY.set_]; exact set0 a b c x
  have s1 : ∀ a b c x : D, Y .set_ [a, b, c] 1 x = some [a, x, c] := fun a b c x => by rw [hY.set_]; exact set1 a b c x
  have s2 : ∀ a b c x : D, Y .set_ [a, b, c] 2 x = some [a, b, x] := fun a b c x => by rw [hY.set_]; exact set2 a b c x
  unfold boxL at q ⊢
  cbv
  rw [hY.at_, a0]
  cbv
  rw [hZ.lt]
  by_cases h : 0 < a
  · rw [decide_eq_true h]
    cbv
    rw [hY.at_, a0]
    cbv
    rw [hZ.nz, hZ.fm]
    refine ⟨by omega, ?_⟩
    rw [hY.at_, a0]
    have q := q (a.fmod many) (a.fdiv many) b c (fm_lo hm) (fm_hi hm)
    generalize a.fmod many = r at q ⊢
    cbv
    rw [hZ.cd, hZ.fd]
    refine ⟨⟨by omega, by omega⟩, ?_⟩
    generalize a.fdiv many = a' at q ⊢
    rw [s0]
    cbv
    exact ⟨_, rfl, rfl, q⟩
  · rw [decide_eq_false h]
    cbv
    rw [hY.at_, a2]
    cbv
    rw [s2]
    cbv
    rw [hY.at_, a1]
    cbv
    rw [hY.at_, a2]
    cbv
    rw [hZ.cm]
    refine ⟨cm_l, ?_⟩
    rw [hZ.cm]
    refine ⟨cm_r, ?_⟩
    rw [hZ.nz]
    refine ⟨by decide, ?_⟩
    rw [hZ.cm]
    refine ⟨cm_r, ?_⟩
    rw [hZ.nz]
    refine ⟨by decide, ?_⟩
    rw [s1]
    cbv
    rw [hZ.cm]
    refine ⟨cm_r, ?_⟩
    rw [hY.at_, a1]
    cbv
    rw [hZ.cd]
    refine ⟨⟨by decide, by decide⟩, ?_⟩
    rw [hZ.nz]
    refine ⟨by omega, ?_⟩
    rw [hZ.fm _ many]
    refine ⟨_, rfl, rfl, q _ _ _ _ (fm_lo hm) (fm_hi hm)⟩
end AL
end
section
set_option Elab.async false
set_option linter.all false
set_option maxRecDepth 100000
set_option maxHeartbeats 4000000
/-! S22: the law's box, inner, size, same. -/
namespace AL
open PySem PySem.Spec PyProof.Rows L2
variable {Z : Ar} {Y : LY}
def F_box : PFs := fun ds R => ∃ (sc : List Int) (k : Nat), k ≤ 4 ∧ ds = [.lst (sc.map .int), .int (k : Nat)] ∧ ∀ a b c, R (.lst (boxL a b c))
def U_box (F : PFs) : Prop := ∀ (sc : List Int) (k : Nat) R, k ≤ 4 → (∀ a b c, R (.lst (boxL a b c))) → F [.lst (sc.map .int), .int (k : Nat)] R
theorem u_box : U_box F_box := fun sc k R h q => ⟨sc, k, h, rfl, q⟩
/-- a def that makes a list for its caller -/
def SpecN (n m : Nat) (t : AS) (F : PFs) : Prop := ∀ ds (R : D → Prop), ds.length = n → F ds R → t (fun _ _ => False) (finN R) (ds.map (fun d => some (AV.dat d)) ++ List.replicate (m - n) none) []
theorem SpecN.to {n m : Nat} {t : AS} {F : PFs} (s : SpecN n m t F) (N : List Str) (hN : N.length = m) : ∀ ds (R : D → Prop), ds.length = n → F ds R → t (fun _ _ => False) (finN R) (startA N (ds.map .dat)) [] := fun ds R hl h => by
  have q := s ds R hl h
  have e1 : startA N (ds.map .dat) = ds.map (fun d => some (AV.dat d)) ++ List.replicate (m - n) none := by
    unfold startA
    rw [List.length_map, hN, hl, List.map_map]; rfl
  rw [e1]
  exact q
theorem sp_box (hZ : ArOk Z) (hY : YOk Y) : SpecN 2 4 (d_lw_box Z Y) F_box := by
  rintro _ R _ ⟨sc, k, hk, rfl, q⟩
  unfold boxL at q
  have b0 : ∀ d e : D, atI [d, e] 0 = some d := fun d e => atI0 _ _
  have b1 : ∀ d e : D, atI [d, e] 1 = some e := fun d e => atI1 _ _ _
  have hat : ∀ j : Int, 0 ≤ j → j < ((sc.length : Nat) : Int) → ∃ v, atI (sc.map D.int) j = some (.int v) := fun j h0 hj => by
    have hj2 : j.toNat < sc.length := by omega
    have e : ((j.toNat : Nat) : Int) = j := Int.toNat_of_nonneg h0
    refine ⟨sc[j.toNat], ?_⟩
    have := atI_nat (xs := sc.map D.int) (j := j.toNat) (v := .int sc[j.toNat]) (by rw [List.getElem?_map, List.getElem?_eq_getElem hj2]; rfl)
    rwa [e] at this
  have hsl : (sc.map D.int).length = sc.length := List.length_map _
  obtain ⟨sd, hsd⟩ : ∃ x, sc.map D.int = x := ⟨_, rfl⟩
  rw [hsd] at hat hsl ⊢
  obtain ⟨ki, hki⟩ : ∃ x : Int, ((k : Nat) : Int) = x := ⟨_, rfl⟩
  have hk4 : 0 ≤ ki ∧ ki ≤ 4 := by omega
  rw [hki]
  -- behind the choice of the cell
  have tail : ∀ (cell : Int) (u : Option AV), (sSeq (sAsg (eOp (rAddY Z Y) (eOp (rModZ Z) (eOp (rAddY Z Y) (eOp (rMulZ Z) (eOp (rModZ Z) (eCall rInt (aCons (eV 2) aNil)) (eC (.int 2147483629))) (eC (.int 48271))) (eOp (rMulZ Z) (eC (.int 40692)) (eV 1))) (eC (.int 2147483629))) (eC (.int 1))) (gN 3))
      (sRet (eLstM (aCons (eOp (rIxY Y) (eLst (aCons (eC (.int 0)) (aCons (eV 2) aNil))) (eCall rInt (aCons (eOp (rGeZ Z) (eV 2) (eOp rPow (eC (.int 10)) (eC (.int 18)))) aNil))) (aCons (eV 3) (aCons (eC (.int 0)) aNil))))))
      (fun _ _ => False) (finN R) [some (.dat (.lst sd)), some (.dat (.int ki)), some (.dat (.int cell)), u] [] := by
    intro cell u
    cbv
    rw [hZ.nz]
    refine ⟨by decide, ?_⟩
    rw [hZ.cm]
    refine ⟨cm_r, ?_⟩
    rw [hZ.cm]
    refine ⟨cm_l, ?_⟩
    rw [hZ.nz]
    refine ⟨by decide, ?_⟩
    cases Z .le 1000000000000000000 cell with
    | true =>
      rw [if_pos rfl, hY.at_, b1]
      cbv
      exact ⟨0, _, rfl, rfl, q _ _ _⟩
    | false =>
      rw [if_neg Bool.false_ne_true, hY.at_, b0]
      cbv
      exact ⟨0, _, rfl, rfl, q _ _ _⟩
  unfold d_lw_box
  revert tail
  generalize sSeq (sAsg (eOp (rAddY Z Y) (eOp (rModZ Z) (eOp (rAddY Z Y) (eOp (rMulZ Z) (eOp (rModZ Z) (eCall rInt (aCons (eV 2) aNil)) (eC (.int 2147483629))) (eC (.int 48271))) (eOp (rMulZ Z) (eC (.int 40692)) (eV 1))) (eC (.int 2147483629))) (eC (.int 1))) (gN 3)) _ = TL
  intro tail
  cbv
  rw [hZ.cm]
  refine ⟨cm_l, ?_⟩
  generalize Z .plus (Z .times 7919 ki) 11 = c0
  rw [hZ.lt, hY.len]
  by_cases h1 : ki < (sd.length : Int)
  · obtain ⟨v, hv⟩ := hat ki hk4.1 (by
      have h6 := h1
      rw [hsl] at h6
      exact h6)
    rw [decide_eq_true h1]
    cbv
    rw [hY.at_, hv]
    cbv
    exact tail _ _
  · rw [decide_eq_false h1]
    cbv
    rw [hZ.lt, hY.len]
    by_cases h2 : 0 < (sd.length : Int)
    · have hslp : (0 : Int) < ((sc.length : Nat) : Int) := by
        have h6 := h2
        rw [hsl] at h6
        exact h6
      have h3 := fm_lo (a := ki) hslp
      have h4 := fm_hi (a := ki) hslp
      have hne : ((sc.length : Nat) : Int) ≠ 0 := by omega
      obtain ⟨v, hv2⟩ := hat _ h3 h4
      rw [decide_eq_true h2]
      cbv
      rw [hZ.nz, hZ.fm, hY.len, hsl]
      refine ⟨hne, ?_⟩
      rw [hY.at_]
      generalize ki.fmod _ = kk at hv2 ⊢
      rw [hv2]
      cbv
      rw [hZ.nz]
      refine ⟨by decide, ?_⟩
      rw [hZ.cm]
      refine ⟨cm_r, ?_⟩
      exact tail _ _
    · rw [decide_eq_false h2]
      cbv
      exact tail _ _
def F_inner : PFs := fun ds R => ∃ w : Wi Str, ds = [encW w] ∧ R (.lst (w.parts.map encW))
def U_inner (F : PFs) : Prop := ∀ (w : Wi Str) R, R (.lst (w.parts.map encW)) → F [encW w] R
theorem u_inner : U_inner F_inner := fun w R q => ⟨w, rfl, q⟩
theorem encW_tup (w : Wi Str) : ∃ x, encW w = .tup x := by cases w <;> exact ⟨_, rfl⟩
theorem sp_inner (hZ : ArOk Z) (hY : YOk Y) : SpecP 1 2 (d_lw_inner Z Y) F_inner := by
  rintro _ R _ ⟨w, rfl, q⟩
  have b0 : ∀ (d : D) (ds : List D), atI (d :: ds) 0 = some d := fun d ds => atI0 _ _
  cases w with
  | both a b =>
    obtain ⟨ta, hta⟩ := encW_tup a
    obtain ⟨tb, htb⟩ := encW_tup b
    show d_lw_inner Z Y _ _ [some (.dat (.tup [.str "both", encW a, encW b])), none] []
    have q : R (.lst [encW a, encW b]) := q
    rw [hta, htb] at q ⊢
    cbv
    rw [hY.cut]
    cbv
    rw [hY.lc]
    cbv
    repeat (rw [hY.at_, b0]; cbv)
    exact ⟨_, rfl, rfl, q⟩
  | either a b =>
    obtain ⟨ta, hta⟩ := encW_tup a
    obtain ⟨tb, htb⟩ := encW_tup b
    show d_lw_inner Z Y _ _ [some (.dat (.tup [.str "either", encW a, encW b])), none] []
    have q : R (.lst [encW a, encW b]) := q
    rw [hta, htb] at q ⊢
    cbv
    rw [hY.cut]
    cbv
    rw [hY.lc]
    cbv
    repeat (rw [hY.at_, b0]; cbv)
    exact ⟨_, rfl, rfl, q⟩
  | since a b =>
    obtain ⟨ta, hta⟩ := encW_tup a
    obtain ⟨tb, htb⟩ := encW_tup b
    show d_lw_inner Z Y _ _ [some (.dat (.tup [.str "since", encW a, encW b])), none] []
    have q : R (.lst [encW a, encW b]) := q
    rw [hta, htb] at q ⊢
    cbv
    rw [hY.cut]
    cbv
    rw [hY.lc]
    cbv
    repeat (rw [hY.at_, b0]; cbv)
    exact ⟨_, rfl, rfl, q⟩
  | not a =>
    obtain ⟨ta, hta⟩ := encW_tup a
    show d_lw_inner Z Y _ _ [some (.dat (.tup [.str "not", encW a])), none] []
    have q : R (.lst [encW a]) := q
    rw [hta] at q ⊢
    cbv
    rw [hY.cut]
    cbv
    rw [hY.lc]
    cbv
    repeat (rw [hY.at_, b0]; cbv)
    exact ⟨_, rfl, rfl, q⟩
  | ago n a =>
    obtain ⟨ta, hta⟩ := encW_tup a
    show d_lw_inner Z Y _ _ [some (.dat (.tup [.str "ago", .int (n : Nat), encW a])), none] []
    have q : R (.lst [encW a]) := q
    rw [hta] at q ⊢
    generalize ((n : Nat) : Int) = ni
    cbv
    rw [hY.cut]
    cbv
    rw [hY.lc]
    cbv
    repeat (rw [hY.at_, b0]; cbv)
    exact ⟨_, rfl, rfl, q⟩
  | within n a =>
    obtain ⟨ta, hta⟩ := encW_tup a
    show d_lw_inner Z Y _ _ [some (.dat (.tup [.str "within", .int (n : Nat), encW a])), none] []
    have q : R (.lst [encW a]) := q
    rw [hta] at q ⊢
    generalize ((n : Nat) : Int) = ni
    cbv
    rw [hY.cut]
    cbv
    rw [hY.lc]
    cbv
    repeat (rw [hY.at_, b0]; cbv)
    exact ⟨_, rfl, rfl, q⟩
  | held n a =>
    obtain ⟨ta, hta⟩ := encW_tup a
    show d_lw_inner Z Y _ _ [some (.dat (.tup [.str "held", .int (n : Nat), encW a])), none] []
    have q : R (.lst [encW a]) := q
    rw [hta] at q ⊢
    generalize ((n : Nat) : Int) = ni
    cbv
    rw [hY.cut]
    cbv
    rw [hY.lc]
    cbv
    repeat (rw [hY.at_, b0]; cbv)
    exact ⟨_, rfl, rfl, q⟩
  | nth n a =>
    obtain ⟨ta, hta⟩ := encW_tup a
    show d_lw_inner Z Y _ _ [some (.dat (.tup [.str "nth", .int (n : Nat), encW a])), none] []
    have q : R (.lst [encW a]) := q
    rw [hta] at q ⊢
    generalize ((n : Nat) : Int) = ni
    cbv
    rw [hY.cut]
    cbv
    rw [hY.lc]
    cbv
    repeat (rw [hY.at_, b0]; cbv)
    exact ⟨_, rfl, rfl, q⟩
  | yes =>
    cbv
    rw [hY.cut]
    cbv
    rw [hY.lc]
    cbv
    exact ⟨_, rfl, rfl, q⟩
  | high x =>
    cbv
    rw [hY.cut]
    cbv
    rw [hY.lc]
    cbv
    exact ⟨_, rfl, rfl, q⟩
  | low x =>
    cbv
    rw [hY.cut]
    cbv
    rw [hY.lc]
    cbv
    exact ⟨_, rfl, rfl, q⟩
  | rise x =>
    cbv
    rw [hY.cut]
    cbv
    rw [hY.lc]
    cbv
    exact ⟨_, rfl, rfl, q⟩
  | fall x =>
    cbv
    rw [hY.cut]
    cbv
    rw [hY.lc]
    cbv
    exact ⟨_, rfl, rfl, q⟩
  | pulse x lev lo hi =>
    show d_lw_inner Z Y _ _ [some (.dat (.tup [.str "pulse", .str x, .int lev, .int (lo : Nat), .int (hi : Nat)])), none] []
    generalize ((lo : Nat) : Int) = loi
    generalize ((hi : Nat) : Int) = hii
    cbv
    rw [hY.cut]
    cbv
    rw [hY.lc]
    cbv
    exact ⟨_, rfl, rfl, q⟩
  | edges x n lo hi =>
    show d_lw_inner Z Y _ _ [some (.dat (.tup [.str "edges", .str x, .int (n : Nat), .int (lo : Nat), .int (hi : Nat)])), none] []
    generalize ((n : Nat) : Int) = ni
    generalize ((lo : Nat) : Int) = loi
    generalize ((hi : Nat) : Int) = hii
    cbv
    rw [hY.cut]
    cbv
    rw [hY.lc]
    cbv
    exact ⟨_, rfl, rfl, q⟩
/-! ### size -/
def F_size (n : Nat) : PFs := fun ds R => ∃ w : Wi Str, w.size ≤ n ∧ ds = [encW w] ∧ R (.int (w.size : Nat))
def U_size (n : Nat) (F : PFs) : Prop := ∀ (w : Wi Str) R, w.size ≤ n → R (.int (w.size : Nat)) → F [encW w] R
theorem u_size (n : Nat) : U_size n (F_size n) := fun w R h q => ⟨w, h, rfl, q⟩
theorem size_pt (w : Wi Str) : (w.size : Int) = 1 + ((w.parts.map fun p => ((p.size : Nat) : Int)).sum) ∧ (∀ p ∈ w.parts, p.size < w.size) ∧ w.parts.length ≤ 2 := by
  cases w <;> simp [Wi.parts, Wi.size] <;> omega
theorem sp_size {n : Nat} {F F2 : PFs} (hZ : ArOk Z) (hY : YOk Y) (U : U_inner F) (U2 : U_size n F2) : SpecP 1 2 (d_lw_size Z Y F F2) (F_size (n + 1)) := by
  rintro _ R _ ⟨w, hw, rfl, q⟩
  obtain ⟨h1, h2, h3⟩ := size_pt w
  rw [h1] at q
  have U' := fun R' => U w R'
  obtain ⟨ew, hew⟩ := encW_tup w
  have hI : ∀ xs : List Int, intL (xs.map .int) = some xs := fun xs => by
    induction xs with
    | nil => rfl
    | cons x xs ih => rw [List.map_cons, intL_cons, ih]; rfl
  obtain ⟨ps, hps⟩ : ∃ x, w.parts = x := ⟨_, rfl⟩
  rw [hps] at U' h2 h3 q
  rw [hew] at U' ⊢
  have hsz : ∀ p ∈ ps, p.size ≤ n := fun p hp => by have := h2 p hp; omega
  clear hps h1 h2 hew
  have fin : ∀ xs : List Int, R (.int (1 + xs.sum)) → (fun (il : List D) => (match Y .iL il with | some ns => finA 0 (fun d _ => R d) (.dat (.int (Z .plus 1 (Y .sum ns)))) [] | none => False)) (xs.map .int) := fun xs hx => by
    simp only
    rw [hY.iL, hI]
    simp only
    rw [hY.sum, hZ.plus]
    exact ⟨_, rfl, rfl, hx⟩
  match ps, U', h3, q, hsz with
  | [], U', h3, q, hsz =>
    have fin := fin [] q
    cbv
    refine U' _ ?_
    show Y .lc _ _ _ _ [] _ _ _
    rw [hY.lc]
    cbv
    exact fin
  | [a], U', h3, q, hsz =>
    have fin := fin [(a.size : Nat)] q
    have Ua := fun R' => U2 a R' (hsz a (by simp))
    rw [List.map_cons, List.map_nil] at U' fin
    generalize encW a = ea at U' Ua
    generalize ((a.size : Nat) : Int) = sa at fin Ua
    cbv
    refine U' _ ?_
    cbv
    rw [hY.lc]
    cbv
    refine Ua _ ?_
    cbv
    exact fin
  | [a, b], U', h3, q, hsz =>
    have fin := fin [((a.size : Nat) : Int), ((b.size : Nat) : Int)] q
    have Ua := fun R' => U2 a R' (hsz a (by simp))
    have Ub := fun R' => U2 b R' (hsz b (by simp))
    rw [List.map_cons, List.map_cons, List.map_nil] at U' fin
    generalize encW a = ea at U' Ua
    generalize encW b = eb at U' Ub
    generalize ((a.size : Nat) : Int) = sa at fin Ua
    generalize ((b.size : Nat) : Int) = sb at fin Ub
    cbv
    refine U' _ ?_
    cbv
    rw [hY.lc]
    cbv
    refine Ua _ ?_
    cbv
    refine Ub _ ?_
    cbv
    exact fin
  | _ :: _ :: _ :: _, _, h3, _, _ => simp at h3
/-! ### same -/
def F_same : PFs := fun ds R => ∃ L : Option Nat, ds = [OD L, OD L] ∧ R (.bl true)
def U_same (F : PFs) : Prop := ∀ (L : Option Nat) R, R (.bl true) → F [OD L, OD L] R
theorem u_same : U_same F_same := fun L R q => ⟨L, rfl, q⟩
end AL
end
section
set_option Elab.async false
set_option linter.all false
set_option maxRecDepth 100000
set_option maxHeartbeats 4000000
/-! S23: the law's same, small_leaf, small. -/
namespace AL
open PySem PySem.Spec PyProof.Rows L2
variable {Z : Ar} {Y : LY}
theorem eqn_nn {neg : Bool} {EQ : AR2} (hE : rEqN neg = EQ) {h : AH} {R : AV → AH → Prop} (q : R (.dat (.bl neg)) h) : EQ (.dat .non) (.dat .non) h R → True := fun _ => trivial
theorem okD_non : okD .non := okD_of (n := 0) (okN_non 0)
theorem sp_same (hZ : ArOk Z) (hY : YOk Y) : SpecP 2 5 (d_lw_same Z Y) F_same := by
  rintro _ R _ ⟨L, rfl, q⟩
  have step : ∀ d : D, (d = .non ∨ ∃ i, d = .int i) → d_lw_same Z Y (fun _ _ => R .non) (finA 0 fun d _ => R d) [some (.dat d), some (.dat d), none, none, none] [] := by
    intro d hd
    unfold d_lw_same
    obtain ⟨NE, hNE⟩ : ∃ x, rEqN true = x := ⟨_, rfl⟩
    have neBl : ∀ (b : Bool) h (K : AV → AH → Prop), K (.dat (.bl (!decide (b = b)))) h → NE (.dat (.bl b)) (.dat (.bl b)) h K := fun b h K k => by rw [← hNE]; exact k
    have neIn : ∀ (b : Int) h (K : AV → AH → Prop), K (.dat (.bl (!decide (b = b)))) h → NE (.dat (.int b)) (.dat (.int b)) h K := fun b h K k => by rw [← hNE]; exact k
    have neNo : ∀ h (K : AV → AH → Prop), K (.dat (.bl false)) h → NE (.dat .non) (.dat .non) h K := fun h K k => by
      rw [← hNE]
      refine ⟨okD_non, okD_non, ?_⟩
      rw [if_pos rfl, eqD_non]
      exact k
    rw [hNE]
    cbv
    rw [hY.whl]
    refine ⟨2, ?_⟩
    unfold itW
    cbv
    rw [hZ.lt, hY.len]
    rcases hd with rfl | ⟨i, rfl⟩
    · cbv
      rw [hY.last, hY.init]
      cbv
      refine neBl _ _ _ ?_
      cbv
      refine neBl _ _ _ ?_
      cbv
      refine neNo _ _ ?_
      cbv
      rw [hZ.lt, hY.len]
      cbv
      exact ⟨_, rfl, rfl, q⟩
    · cbv
      rw [hY.last, hY.init]
      cbv
      refine neBl _ _ _ ?_
      cbv
      refine neBl _ _ _ ?_
      cbv
      refine neIn _ _ _ ?_
      rw [decide_eq_true rfl]
      cbv
      rw [hZ.lt, hY.len]
      cbv
      exact ⟨_, rfl, rfl, q⟩
  cases L with
  | none => exact step _ (.inl rfl)
  | some k => exact step _ (.inr ⟨_, rfl⟩)
/-! ### small_leaf -/
structure NamesOk (ns : List Str) : Prop where
  nd : ns.Nodup
  two : ns.length = 1 ∨ ns.length = 2
  sok : ∀ x ∈ ns, PyData.strOk x = true
def F_leaf : BFs := fun ds bs R => ∃ ns a b c, NamesOk ns ∧ ds = [.lst (ns.map .str)] ∧ bs = boxL a b c ∧ ∀ (w : Wi Str) a' b' c', w.good (· ∈ ns) → w.size = 1 → R (encW w) (boxL a' b' c')
def U_leaf (F : BFs) : Prop := ∀ ns a b c R, NamesOk ns → (∀ (w : Wi Str) a' b' c', w.good (· ∈ ns) → w.size = 1 → R (encW w) (boxL a' b' c')) → F [.lst (ns.map .str)] (boxL a b c) R
theorem u_leaf : U_leaf F_leaf := fun ns a b c R h q => ⟨ns, a, b, c, h, rfl, rfl, q⟩
theorem enc_pulse (x : Str) (lev : Int) {lo hi : Int} (h1 : 0 ≤ lo) (h2 : 0 ≤ hi) : encW (.pulse x lev lo.toNat hi.toNat) = .tup [.str "pulse", .str x, .int lev, .int lo, .int hi] := by
  unfold encW
  rw [Int.toNat_of_nonneg h1, Int.toNat_of_nonneg h2]
theorem enc_edges (x : Str) {n lo hi : Int} (h0 : 0 ≤ n) (h1 : 0 ≤ lo) (h2 : 0 ≤ hi) : encW (.edges x n.toNat lo.toNat hi.toNat) = .tup [.str "edges", .str x, .int n, .int lo, .int hi] := by
  unfold encW
  rw [Int.toNat_of_nonneg h0, Int.toNat_of_nonneg h1, Int.toNat_of_nonneg h2]
theorem sp_leaf {F : BFs} (hZ : ArOk Z) (hY : YOk Y) (U : U_take F) : SpecB 2 6 (d_lw_small_leaf Z Y F) F_leaf := by
  rintro _ _ R _ ⟨ns, a, b, c, ok, rfl, rfl, q⟩
  have hat : ∀ j : Int, 0 ≤ j → j < ((ns.length : Nat) : Int) → ∃ x, atI (ns.map D.str) j = some (.str x) ∧ x ∈ ns := fun j h0 hj => by
    have hj2 : j.toNat < ns.length := by omega
    have e : ((j.toNat : Nat) : Int) = j := Int.toNat_of_nonneg h0
    refine ⟨ns[j.toNat], ?_, List.getElem_mem _⟩
    have := atI_nat (xs := ns.map D.str) (j := j.toNat) (v := .str ns[j.toNat]) (by rw [List.getElem?_map, List.getElem?_eq_getElem hj2]; rfl)
    rwa [e] at this
  have hl : (ns.map D.str).length = ns.length := List.length_map _
  have h2 := ok.two
  have hnl : (0 : Int) < ((ns.length : Nat) : Int) ∧ ((ns.length : Nat) : Int) < 1000 := by omega
  obtain ⟨nd, hnd⟩ : ∃ x, ns.map D.str = x := ⟨_, rfl⟩
  obtain ⟨nl, hnl2⟩ : ∃ x : Int, ((ns.length : Nat) : Int) = x := ⟨_, rfl⟩
  rw [hnd] at hat hl ⊢
  have hlen : Y .len nd = nl := by rw [hY.len, hl]; exact hnl2
  have U := fun (many : Int) h1 h2 a b c R h3 => U many a b c R h1 h2 h3
  unfold boxL at U q ⊢
  rw [hnl2] at hnl hat
  have lst4 : ∀ j : Int, 0 ≤ j → j < 4 → ∀ x ∈ ns, ∃ (k : Str) (w : Wi Str), atI [D.str "high", D.str "low", D.str "rise", D.str "fall"] j = some (.str k) ∧ w.good (· ∈ ns) ∧ w.size = 1 ∧ encW w = .tup [.str k, .str x] := fun j h0 h4 x hx => by
    have : j = 0 ∨ j = 1 ∨ j = 2 ∨ j = 3 := by omega
    rcases this with rfl | rfl | rfl | rfl
    · exact ⟨_, .high x, rfl, hx, rfl, rfl⟩
    · exact ⟨_, .low x, rfl, hx, rfl, rfl⟩
    · exact ⟨_, .rise x, rfl, hx, rfl, rfl⟩
    · exact ⟨_, .fall x, rfl, hx, rfl, rfl⟩
  cbv
  rw [hlen]
  refine U _ hnl.1 hnl.2 _ _ _ _ fun r a b c hr1 hr2 => ?_
  obtain ⟨x, hx, hxm⟩ := hat r hr1 hr2
  cbv
  rw [hY.at_, hx]
  cbv
  refine U 8 (by decide) (by decide) _ _ _ _ fun form a b c hf1 hf2 => ?_
  cbv
  refine U 3 (by decide) (by decide) _ _ _ _ fun low a b c hl1 hl2 => ?_
  have q1 := fun a b c => q .yes a b c trivial rfl
  have qp := fun lev hi h1 h2 a b c => q (.pulse x lev low.toNat hi) a b c ⟨hxm, h1, by omega, h2⟩ rfl
  have qe := fun (n hi : Nat) h1 h2 h3 a b c => q (.edges x n low.toNat hi) a b c ⟨hxm, h1, h2, by omega, h3⟩ rfl
  have hlow : ((low.toNat : Nat) : Int) = low := Int.toNat_of_nonneg hl1
  have hsub : (0 : Int) < 3 - low ∧ 3 - low < 1000 := by omega
  cbv
  rw [hZ.minus]
  refine U _ hsub.1 hsub.2 _ _ _ _ fun add a b c ha1 ha2 => ?_
  have hhi : (low + add).toNat ≤ 2 := by omega
  have hhi2 : (((low + add).toNat : Nat) : Int) = low + add := Int.toNat_of_nonneg (by omega)
  have qp := fun lev h1 a b c => qp lev (low + add).toNat h1 hhi a b c
  have qe := fun n h1 h2 a b c => qe n (low + add).toNat h1 h2 hhi a b c
  have qp : ∀ lev : Int, (lev = 0 ∨ lev = 1) → ∀ a b c, R (.tup [.str "pulse", .str x, .int lev, .int low, .int (low + add)]) [.lst [.int a, .int b, .int c]] := fun lev h1 a b c => by
    have h6 := qp lev h1 a b c
    rw [enc_pulse x lev hl1 (by omega)] at h6
    exact h6
  have qe : ∀ n : Int, 1 ≤ n → n ≤ 2 → ∀ a b c, R (.tup [.str "edges", .str x, .int n, .int low, .int (low + add)]) [.lst [.int a, .int b, .int c]] := fun n h1 h2 a b c => by
    have h6 := qe n.toNat (by omega) (by omega) a b c
    rw [enc_edges x (by omega) hl1 (by omega)] at h6
    exact h6
  have bit : ∀ i : Int, 0 ≤ i → i < 2 → i = 0 ∨ i = 1 := fun i h1 h2 => by omega
  have pl1 : ∀ i : Int, 0 ≤ i → i < 2 → 1 ≤ 1 + i ∧ 1 + i ≤ 2 := fun i h1 h2 => by omega
  have hadd : Z .plus low add = low + add := hZ.plus _ _
  generalize low + add = high at hadd qp qe
  have hm1 := fm_lo (a := form) (m := 4) (by decide)
  have hm2 := fm_hi (a := form) (m := 4) (by decide)
  obtain ⟨k4, w4, hk4, hg4, hs4, he4⟩ := lst4 _ hm1 hm2 x hxm
  have q4 := fun a b c => q w4 a b c hg4 hs4
  rw [he4] at q4
  clear hm1 hm2 lst4 q
  have d0 : ∀ j : Int, ∃ b, decide (form = j) = b := fun j => ⟨_, rfl⟩
  cbv
  by_cases h0 : form = 0
  · rw [decide_eq_true h0]
    cbv
    exact ⟨_, rfl, rfl, q1 _ _ _⟩
  · rw [decide_eq_false h0]
    cbv
    by_cases h5 : form = 5
    · rw [decide_eq_true h5]
      cbv
      refine U 2 (by decide) (by decide) _ _ _ _ fun lev a b c hv1 hv2 => ?_
      have q := qp lev (bit _ hv1 hv2) a b c
      rw [hadd]
      cbv
      exact ⟨_, rfl, rfl, q⟩
    · rw [decide_eq_false h5]
      cbv
      by_cases h6 : form = 6
      · rw [decide_eq_true h6]
        cbv
        refine U 2 (by decide) (by decide) _ _ _ _ fun n a b c hv1 hv2 => ?_
        have h7 := pl1 _ hv1 hv2
        have q := qe (1 + n) h7.1 h7.2 a b c
        have hp : Z .plus 1 n = 1 + n := hZ.plus _ _
        generalize 1 + n = n1 at q hp
        rw [hadd]
        cbv
        rw [hp]
        exact ⟨_, rfl, rfl, q⟩
      · rw [decide_eq_false h6]
        cbv
        rw [hZ.nz, hZ.fm]
        refine ⟨by decide, ?_⟩
        rw [hY.at_]
        generalize form.fmod 4 = m4 at hk4 ⊢
        erw [hk4]
        cbv
        exact ⟨_, rfl, rfl, q4 _ _ _⟩
end AL
end
section
set_option Elab.async false
set_option linter.all false
set_option maxRecDepth 100000
set_option maxHeartbeats 4000000
/-! S24: the law's small, line. -/
namespace AL
open PySem PySem.Spec PyProof.Rows L2
variable {Z : Ar} {Y : LY}
def F_small (n : Nat) : BFs := fun ds bs R => ∃ (ns : List Str) (room a b c : Int), NamesOk ns ∧ 1 ≤ room ∧ room ≤ n ∧ room ≤ 3 ∧ ds = [.lst (ns.map .str), .int room] ∧ bs = boxL a b c ∧ ∀ (w : Wi Str) a' b' c', w.good (· ∈ ns) → (w.size : Int) ≤ room → R (encW w) (boxL a' b' c')
def U_small (n : Nat) (F : BFs) : Prop := ∀ (ns : List Str) (room a b c : Int) R, NamesOk ns → 1 ≤ room → room ≤ n → room ≤ 3 → (∀ (w : Wi Str) a' b' c', w.good (· ∈ ns) → (w.size : Int) ≤ room → R (encW w) (boxL a' b' c')) → F [.lst (ns.map .str), .int room] (boxL a b c) R
theorem u_small (n : Nat) : U_small n (F_small n) := fun ns room a b c R h1 h2 h3 h4 q => ⟨ns, room, a, b, c, h1, h2, h3, h4, rfl, rfl, q⟩
theorem enc_ago (w : Wi Str) {n : Int} (h : 0 ≤ n) : encW (.ago n.toNat w) = .tup [.str "ago", .int n, encW w] := by
  show D.tup [.str "ago", .int (n.toNat : Nat), encW w] = _
  rw [Int.toNat_of_nonneg h]
theorem enc_within (w : Wi Str) {n : Int} (h : 0 ≤ n) : encW (.within n.toNat w) = .tup [.str "within", .int n, encW w] := by
  show D.tup [.str "within", .int (n.toNat : Nat), encW w] = _
  rw [Int.toNat_of_nonneg h]
theorem enc_held (w : Wi Str) {n : Int} (h : 0 ≤ n) : encW (.held n.toNat w) = .tup [.str "held", .int n, encW w] := by
  show D.tup [.str "held", .int (n.toNat : Nat), encW w] = _
  rw [Int.toNat_of_nonneg h]
theorem enc_nth (w : Wi Str) {n : Int} (h : 0 ≤ n) : encW (.nth n.toNat w) = .tup [.str "nth", .int n, encW w] := by
  show D.tup [.str "nth", .int (n.toNat : Nat), encW w] = _
  rw [Int.toNat_of_nonneg h]
theorem sp_small {n : Nat} {F1 F2 F3 : BFs} (hZ : ArOk Z) (hY : YOk Y) (U1 : U_small n F1) (U2 : U_take F2) (U3 : U_leaf F3) : SpecB 3 10 (d_lw_small Z Y F1 F2 F3) (F_small (n + 1)) := by
  rintro _ _ R _ ⟨ns, room, a, b, c, ok, h1, hn, h3, rfl, rfl, q⟩
  have UT := fun (many : Int) h1 h2 a b c R h3 => U2 many a b c R h1 h2 h3
  have UL := fun a b c R h => U3 ns a b c R ok h
  have US := fun room' h1 h2 h3 a b c R h => U1 ns room' a b c R ok h1 h2 h3 h
  obtain ⟨nd, hnd⟩ : ∃ x, ns.map D.str = x := ⟨_, rfl⟩
  unfold boxL at UT UL US q ⊢
  rw [hnd] at UL US ⊢
  -- what is told of parts
  have q1 : ∀ (w : Wi Str) a b c, w.good (· ∈ ns) → w.size = 1 → R (encW w) [.lst [.int a, .int b, .int c]] := fun w a b c h4 h5 => q w a b c h4 (by omega)
  have e2 : 2 ≤ room → room - 1 = Z .minus room 1 ∧ 1 ≤ room - 1 ∧ room - 1 ≤ n ∧ room - 1 ≤ 3 := fun h => ⟨(hZ.minus _ _).symm, by omega, by omega, by omega⟩
  have qn : ∀ (w : Wi Str) a b c, w.good (· ∈ ns) → (w.size : Int) ≤ room - 1 → R (.tup [.str "not", encW w]) [.lst [.int a, .int b, .int c]] := fun w a b c h4 h5 => q (.not w) a b c h4 (by simp only [Wi.size]; omega)
  have qa : ∀ (w : Wi Str) (i : Int) a b c, w.good (· ∈ ns) → (w.size : Int) ≤ room - 1 → 0 ≤ i → i ≤ 2 → R (.tup [.str "ago", .int i, encW w]) [.lst [.int a, .int b, .int c]] := fun w i a b c h4 h5 h6 h7 => by
    rw [← enc_ago w h6]
    exact q (.ago i.toNat w) a b c ⟨by omega, h4⟩ (by simp only [Wi.size]; omega)
  have qw : ∀ (w : Wi Str) (i : Int) a b c, w.good (· ∈ ns) → (w.size : Int) ≤ room - 1 → 0 ≤ i → i ≤ 2 → R (.tup [.str "within", .int i, encW w]) [.lst [.int a, .int b, .int c]] := fun w i a b c h4 h5 h6 h7 => by
    rw [← enc_within w h6]
    exact q (.within i.toNat w) a b c ⟨by omega, h4⟩ (by simp only [Wi.size]; omega)
  have qh : ∀ (w : Wi Str) (i : Int) a b c, w.good (· ∈ ns) → (w.size : Int) ≤ room - 1 → 1 ≤ i → i ≤ 2 → R (.tup [.str "held", .int i, encW w]) [.lst [.int a, .int b, .int c]] := fun w i a b c h4 h5 h6 h7 => by
    rw [← enc_held w (by omega)]
    exact q (.held i.toNat w) a b c ⟨by omega, by omega, h4⟩ (by simp only [Wi.size]; omega)
  have qt : ∀ (w : Wi Str) (i : Int) a b c, w.good (· ∈ ns) → (w.size : Int) ≤ room - 1 → 1 ≤ i → i ≤ 2 → R (.tup [.str "nth", .int i, encW w]) [.lst [.int a, .int b, .int c]] := fun w i a b c h4 h5 h6 h7 => by
    rw [← enc_nth w (by omega)]
    exact q (.nth i.toNat w) a b c ⟨by omega, by omega, h4⟩ (by simp only [Wi.size]; omega)
  have r3 : ¬ room < 3 → room = 3 := fun h => by omega
  have hn3 : ¬ room < 3 → (1 : Int) ≤ n := fun h => by omega
  have qb : room = 3 → ∀ (w v : Wi Str) a b c, w.good (· ∈ ns) → v.good (· ∈ ns) → (w.size : Int) ≤ 1 → (v.size : Int) ≤ 1 → R (.tup [.str "both", encW w, encW v]) [.lst [.int a, .int b, .int c]] ∧ R (.tup [.str "either", encW w, encW v]) [.lst [.int a, .int b, .int c]] ∧ R (.tup [.str "since", encW w, encW v]) [.lst [.int a, .int b, .int c]] := fun hr w v a b c h4 h5 h6 h7 =>
    ⟨q (.both w v) a b c ⟨h4, h5⟩ (by simp only [Wi.size]; omega), q (.either w v) a b c ⟨h4, h5⟩ (by simp only [Wi.size]; omega), q (.since w v) a b c ⟨h4, h5⟩ (by simp only [Wi.size]; omega)⟩
  have b2 : ∀ i : Int, 0 ≤ i → i < 2 → 1 ≤ 1 + i ∧ 1 + i ≤ 2 := fun i h h' => by omega
  have b3 : ∀ i : Int, i < 3 → i ≤ 2 := fun i h => by omega
  have m5 : ∀ i : Int, i.fmod 5 = 0 ∨ i.fmod 5 = 1 ∨ i.fmod 5 = 2 ∨ i.fmod 5 = 3 ∨ i.fmod 5 = 4 := fun i => by
    have := fm_lo (a := i) (m := 5) (by decide)
    have := fm_hi (a := i) (m := 5) (by decide)
    omega
  have m3 : ∀ i : Int, i.fmod 3 = 0 ∨ i.fmod 3 = 1 ∨ i.fmod 3 = 2 := fun i => by
    have := fm_lo (a := i) (m := 3) (by decide)
    have := fm_hi (a := i) (m := 3) (by decide)
    omega
  have z1 : ∀ i : Int, 0 ≤ i → i < 1 → i = 0 := fun i h h' => by omega
  clear q
  -- the leaf
  have leaf : ∀ a b c, F3 [.lst nd] [.int a, .int b, .int c] fun d bs' => finA 1 R (.dat d) [.lst bs'] := fun a b c => UL _ _ _ _ fun w a b c hg hs => ⟨_, rfl, rfl, q1 w a b c hg hs⟩
  -- one part
  have unary : ∀ (NX : En → AH → Prop) (form a b c : Int), 2 ≤ room → (sSeq (sAsg (eOp (rIxY Y) (eLst (aCons (eC (.str "not")) (aCons (eC (.str "ago")) (aCons (eC (.str "within")) (aCons (eC (.str "held")) (aCons (eC (.str "nth")) aNil)))))) (eOp (rModZ Z) (eCall rInt (aCons (eV 3) aNil)) (eC (.int 5)))) (gN 4))
    (sSeq (sAsg (eCallB 3 F1 (aCons (eV 0) (aCons (eV 1) (aCons (eOp (rSubZ Z) (eV 2) (eC (.int 1))) aNil)))) (gN 5))
    (sSeq (sAsg (eOp (rIxY Y) (eLst (aCons (eCallB 2 F2 (aCons (eV 0) (aCons (eC (.int 3)) aNil))) (aCons (eOp (rAddY Z Y) (eC (.int 1)) (eCallB 2 F2 (aCons (eV 0) (aCons (eC (.int 2)) aNil)))) aNil))) (eCall rInt (aCons (eOp (rInS false) (eV 4) (eTup (aCons (eC (.str "held")) (aCons (eC (.str "nth")) aNil)))) aNil))) (gN 6))
    (sRet (eOp (rIxY Y) (eLst (aCons (eTup (aCons (eV 4) (aCons (eV 6) (aCons (eV 5) aNil)))) (aCons (eTup (aCons (eC (.str "not")) (aCons (eV 5) aNil))) aNil))) (eCall rInt (aCons (eOp (rEqN false) (eV 4) (eC (.str "not"))) aNil)))))))
      NX (finA 1 R) [some (.ref 0), some (.dat (.lst nd)), some (.dat (.int room)), some (.dat (.int form)), none, none, none, none, none, none] [.lst [.int a, .int b, .int c]] := by
    intro NX form a b c hr
    obtain ⟨e3, e4, e5, e6⟩ := e2 hr
    rw [e3] at e4 e5 e6 qn qa qw qh qt
    cbv
    rw [hZ.nz, hZ.fm, hY.at_]
    refine ⟨by decide, ?_⟩
    rcases m5 form with h | h | h | h | h
    all_goals
      rw [h]
      cbv
      refine US _ e4 e5 e6 _ _ _ _ fun w a b c hg hs => ?_
      have hqn := fun a b c => qn w a b c hg hs
      have hqa := fun i a b c => qa w i a b c hg hs
      have hqw := fun i a b c => qw w i a b c hg hs
      have hqh := fun i a b c => qh w i a b c hg hs
      have hqt := fun i a b c => qt w i a b c hg hs
      generalize encW w = ew at hqn hqa hqw hqh hqt ⊢
      cbv
      refine UT 3 (by decide) (by decide) _ _ _ _ fun i3 a b c hi1 hi2 => ?_
      have hi3 := b3 _ hi2
      cbv
      refine UT 2 (by decide) (by decide) _ _ _ _ fun i2 a b c hj1 hj2 => ?_
      have hj3 := b2 _ hj1 hj2
      rw [← hZ.plus] at hj3
      cbv
      rw [hY.at_]
      cbv
      rw [hY.at_]
      cbv
      first
        | exact ⟨_, rfl, rfl, hqn _ _ _⟩
        | exact ⟨_, rfl, rfl, hqa _ _ _ _ hi1 hi3⟩
        | exact ⟨_, rfl, rfl, hqw _ _ _ _ hi1 hi3⟩
        | exact ⟨_, rfl, rfl, hqh _ _ _ _ hj3.1 hj3.2⟩
        | exact ⟨_, rfl, rfl, hqt _ _ _ _ hj3.1 hj3.2⟩
  -- two parts
  have binary : ∀ (form a b c : Int), room = 3 → (1 : Int) ≤ n → (sSeq (sAsg (eOp (rAddY Z Y) (eC (.int 1)) (eCallB 2 F2 (aCons (eV 0) (aCons (eOp (rSubZ Z) (eV 2) (eC (.int 2))) aNil)))) (gN 7))
    (sSeq (sPar 8 9 (aCons (eCallB 3 F1 (aCons (eV 0) (aCons (eV 1) (aCons (eV 7) aNil)))) (aCons (eCallB 3 F1 (aCons (eV 0) (aCons (eV 1) (aCons (eOp (rSubZ Z) (eOp (rSubZ Z) (eV 2) (eC (.int 1))) (eV 7)) aNil)))) aNil)))
    (sRet (eTup (aCons (eOp (rIxY Y) (eLst (aCons (eC (.str "both")) (aCons (eC (.str "either")) (aCons (eC (.str "since")) aNil)))) (eOp (rModZ Z) (eCall rInt (aCons (eV 3) aNil)) (eC (.int 3)))) (aCons (eV 8) (aCons (eV 9) aNil)))))))
      (fun _ h => finA 1 R (.dat .non) h) (finA 1 R) [some (.ref 0), some (.dat (.lst nd)), some (.dat (.int room)), some (.dat (.int form)), none, none, none, none, none, none] [.lst [.int a, .int b, .int c]] := by
    intro form a b c hr hn1
    have qb3 := qb hr
    clear qb
    subst hr
    have hs1 : Z .minus 3 2 = 1 := hZ.minus _ _
    have hs2 : Z .minus 3 1 = 2 := hZ.minus _ _
    have hs3 : Z .minus 2 1 = 1 := hZ.minus _ _
    have hp1 : Z .plus 1 0 = 1 := hZ.plus _ _
    cbv
    rw [hs1]
    refine UT 1 (by decide) (by decide) _ _ _ _ fun i a b c hi1 hi2 => ?_
    rw [z1 i hi1 hi2]
    cbv
    rw [hp1]
    refine US 1 (by decide) hn1 (by decide) _ _ _ _ fun w a b c hg hs => ?_
    have qb4 := fun v a b c h1 h2 => qb3 w v a b c hg h1 hs h2
    generalize encW w = ew at qb4 ⊢
    cbv
    rw [hs2, hs3]
    refine US 1 (by decide) hn1 (by decide) _ _ _ _ fun v a b c hg2 hs' => ?_
    have qb5 := fun a b c => qb4 v a b c hg2 hs'
    generalize encW v = ev' at qb5 ⊢
    cbv
    rw [hZ.nz, hZ.fm, hY.at_]
    refine ⟨by decide, ?_⟩
    rcases m3 form with h | h | h
    all_goals
      rw [h]
      cbv
      first
        | exact ⟨_, rfl, rfl, (qb5 _ _ _).1⟩
        | exact ⟨_, rfl, rfl, (qb5 _ _ _).2.1⟩
        | exact ⟨_, rfl, rfl, (qb5 _ _ _).2.2⟩
  unfold d_lw_small
  revert unary binary
  generalize sSeq (sAsg (eOp (rIxY Y) (eLst (aCons (eC (.str "not")) _)) _) (gN 4)) _ = UN
  generalize sSeq (sAsg (eOp (rAddY Z Y) (eC (.int 1)) _) (gN 7)) _ = BI
  intro unary binary
  cbv
  refine UT 9 (by decide) (by decide) _ _ _ _ fun form a b c hf1 hf2 => ?_
  cbv
  rw [hZ.lt]
  by_cases h2 : room < 2
  · rw [decide_eq_true h2]
    cbv
    exact leaf _ _ _
  · have h2' : 2 ≤ room := by omega
    rw [decide_eq_false h2]
    cbv
    by_cases h8 : form = 8
    · rw [decide_eq_true h8]
      cbv
      exact leaf _ _ _
    · rw [decide_eq_false h8]
      cbv
      rw [hZ.lt]
      by_cases h5 : form < 5
      · rw [decide_eq_true h5]
        cbv
        exact unary _ _ _ _ _ h2'
      · rw [decide_eq_false h5]
        cbv
        rw [hZ.lt]
        by_cases h6 : room < 3
        · rw [decide_eq_true h6]
          cbv
          exact unary _ _ _ _ _ h2'
        · have h7 := r3 h6
          have h8 := hn3 h6
          rw [decide_eq_false h6]
          cbv
          exact binary _ _ _ _ h7 h8
end AL
end
section
set_option Elab.async false
set_option linter.all false
set_option maxRecDepth 100000
set_option maxHeartbeats 4000000
/-! S25: the law's line. -/
namespace AL
open PySem PySem.Spec PyProof.Rows L2
variable {Z : Ar} {Y : LY}
def lvEnd : Int → Ln → Int
  | lv, [] => lv
  | lv, _ :: r => lvEnd (1 - lv) r
theorem line_snoc {n : Nat} (hn : 0 < n) : ∀ {ln : Ln} {lv : Int}, LineOk lv ln → LineOk lv (ln ++ [(lvEnd lv ln, n)])
  | [], lv, _ => ⟨rfl, hn, trivial⟩
  | p :: r, lv, ok => ⟨ok.1, ok.2.1, line_snoc hn ok.2.2⟩
theorem lvEnd_snoc (q : Int × Nat) : ∀ (ln : Ln) (lv : Int), lvEnd lv (ln ++ [q]) = 1 - lvEnd lv ln
  | [], _ => rfl
  | _ :: r, lv => lvEnd_snoc q r (1 - lv)
def F_line : BFs := fun ds bs R => ∃ T a b c : Int, 0 ≤ T ∧ T ≤ 100 ∧ ds = [.int T] ∧ bs = boxL a b c ∧ ∀ (ln : Ln) (lv : Int) a' b' c', (lv = 0 ∨ lv = 1) → LineOk lv ln → ((total ln : Nat) : Int) = T → R (lnD ln) (boxL a' b' c')
def U_line (F : BFs) : Prop := ∀ (T a b c : Int) R, 0 ≤ T → T ≤ 100 → (∀ (ln : Ln) (lv : Int) a' b' c', (lv = 0 ∨ lv = 1) → LineOk lv ln → ((total ln : Nat) : Int) = T → R (lnD ln) (boxL a' b' c')) → F [.int T] (boxL a b c) R
theorem u_line : U_line F_line := fun T a b c R h1 h2 q => ⟨T, a, b, c, h1, h2, rfl, rfl, q⟩
structure LnI (T lv0 : Int) (lv left : Int) (ln : Ln) : Prop where
  ok : LineOk lv0 ln
  e : lvEnd lv0 ln = lv
  s : ((total ln : Nat) : Int) + left = T
  p : 0 ≤ left
theorem LnI.step {T lv0 lv left : Int} {ln : Ln} (i : LnI T lv0 lv left ln) {long : Int} (h1 : 1 ≤ long) (h2 : long ≤ left) : LnI T lv0 (1 - lv) (left - long) (ln ++ [(lv, long.toNat)]) := by
  obtain ⟨a, b, c, d⟩ := i
  subst b
  have h := line_snoc (n := long.toNat) (by omega) a
  refine ⟨h, lvEnd_snoc _ _ _, ?_, by omega⟩
  rw [total_app]
  simp only [total]
  omega
theorem lnP_snoc (ln : Ln) (lv : Int) {long : Int} (h : 0 ≤ long) : (lnP (ln ++ [(lv, long.toNat)])).map pD = (lnP ln).map pD ++ [.tup [.int lv, .int long]] := by
  unfold lnP
  rw [List.map_append, List.map_append]
  simp only [List.map_cons, List.map_nil, pD, Int.toNat_of_nonneg h]
theorem sp_line {F : BFs} (hZ : ArOk Z) (hY : YOk Y) (U : U_take F) : SpecB 2 6 (d_lw_line Z Y F) F_line := by
  rintro _ _ R _ ⟨T, a, b, c, h0, hT, rfl, rfl, q⟩
  have UT := fun (many : Int) h1 h2 a b c R h3 => U many a b c R h1 h2 h3
  unfold boxL at UT q ⊢
  have bit : ∀ i : Int, 0 ≤ i → i < 2 → i = 0 ∨ i = 1 := fun i h1 h2 => by omega
  have z4 : ∀ i : Int, 0 ≤ i → i < 4 → i = 0 ∨ i = 1 ∨ i = 2 ∨ i = 3 := fun i h1 h2 => by omega
  have q : ∀ (ln : Ln) (lv0 lv left : Int) a b c, (lv0 = 0 ∨ lv0 = 1) → LnI T lv0 lv left ln → left ≤ 0 → R (.tup ((lnP ln).map pD)) [.lst [.int a, .int b, .int c]] := fun ln lv0 lv left a b c h1 h2 h3 => q ln lv0 a b c h1 h2.ok (by have := h2.s; have := h2.p; omega)
  have i0 : ∀ lv0, LnI T lv0 lv0 T [] := fun lv0 => ⟨trivial, rfl, by simp [total], h0⟩
  have fits : ∀ {lv0 lv left ln}, LnI T lv0 lv left ln → ((lnP ln).map pD).length < 1000 := fun {lv0 lv left ln} i => by
    have h1 := line_len i.ok
    have h2 := i.s
    have h3 := i.p
    rw [List.length_map]
    unfold lnP
    rw [List.length_map]
    omega
  have mz : T.toNat < T.toNat + 1 := Nat.lt_succ_self _
  cbv
  refine UT 2 (by decide) (by decide) _ _ _ _ fun lv0 a b c hl1 hl2 => ?_
  have hlv0 := bit _ hl1 hl2
  have i0 := i0 lv0
  cbv
  rw [hY.whl]
  refine while_of (fun m ρ h => ∃ (u : Option AV) (a b c lv left : Int) (ln : Ln), ρ = [some (AV.ref 0), some (AV.dat (.int T)), some (AV.dat (.int lv)), some (AV.ref 1), some (AV.dat (.int left)), u] ∧ h = [AO.lst [.int a, .int b, .int c], AO.lst ((lnP ln).map pD)] ∧ LnI T lv0 lv left ln ∧ left.toNat < m) ?step ?zero (T.toNat + 1) _ _ ?init
  case init => exact ⟨_, _, _, _, _, _, [], rfl, rfl, i0, mz⟩
  case zero =>
    rintro ρ h ⟨u, a, b, c, lv, left, ln, _, _, _, h⟩
    omega
  case step =>
    rintro m K _ _ hK ⟨u, a, b, c, lv, left, ln, rfl, rfl, hi, hm⟩
    have hp := hi.p
    have hfit := fits hi
    have hq := q ln lv0 lv left a b c hlv0 hi
    have next : 0 < left → ∀ (n : Int), 1 ≤ n → ∀ u a b c, K [some (AV.ref 0), some (AV.dat (.int T)), some (AV.dat (.int (Z .minus 1 lv))), some (AV.ref 1), some (AV.dat (.int (Z .minus left (min left n)))), u] [AO.lst [.int a, .int b, .int c], AO.lst ((lnP ln).map pD ++ [.tup [.int lv, .int (min left n)]])] := fun h n hn u a b c => by
      have hmin : 1 ≤ min left n ∧ min left n ≤ left := by omega
      refine hK _ _ ⟨u, a, b, c, 1 - lv, left - min left n, ln ++ [(lv, (min left n).toNat)], by rw [hZ.minus, hZ.minus], by rw [lnP_snoc ln lv (by omega)], hi.step hmin.1 hmin.2, by omega⟩
    obtain ⟨fd, hfd⟩ : ∃ x, (lnP ln).map pD = x := ⟨_, rfl⟩
    rw [hfd] at hfit hq next ⊢
    have p1 : ∀ i : Int, 0 ≤ i → 1 ≤ 1 + i := fun i h => by omega
    cbv
    rw [hZ.lt]
    by_cases h : 0 < left
    · have next := next h
      rw [decide_eq_true h]
      cbv
      refine UT 4 (by decide) (by decide) _ _ _ _ fun i a b c hi1 hi2 => ?_
      cbv
      rw [hY.at_]
      rcases z4 i hi1 hi2 with rfl | rfl | rfl | rfl
      all_goals
        cbv
        refine UT _ (by decide) (by decide) _ _ _ _ fun n a b c hn1 hn2 => ?_
        have next := next (1 + n) (p1 n hn1)
        have hpl : Z .plus 1 n = 1 + n := hZ.plus _ _
        have hmn : Z .mn left (1 + n) = min left (1 + n) := hZ.mn _ _
        generalize 1 + n = n1 at next hpl hmn
        generalize min left n1 = long at next hmn
        cbv
        rw [hpl, hmn, hY.fit, hY.app]
        refine ⟨by rw [sizeLine_eq]; omega, ?_⟩
        exact next _ _ _ _
    · have hq := hq (by omega)
      rw [decide_eq_false h]
      cbv
      exact ⟨_, rfl, rfl, hq⟩
end AL
end
section
set_option Elab.async false
set_option linter.all false
set_option maxRecDepth 100000
set_option maxHeartbeats 4000000
/-! S26: the law's names. -/
namespace AL
open PySem PySem.Spec PyProof.Rows L2
variable {Z : Ar} {Y : LY}
def Low (x : Str) : Prop := ∀ c ∈ x.cps.toList, 97 ≤ c ∧ c < 123
def NmOk (x : Str) : Prop := Low x ∧ 0 < x.cps.toList.length ∧ x.cps.toList.length ≤ 20
theorem str_len (x : Str) : x.length = x.cps.toList.length := by
  show x.cps.size = _
  simp
theorem low_app {x y : Str} (h1 : Low x) (h2 : Low y) : Low (x ++ y) := fun c hc => by
  have e : (x ++ y).cps.toList = x.cps.toList ++ y.cps.toList := TL.tl_append x y
  rw [e] at hc
  rcases List.mem_append.mp hc with h | h
  · exact h1 c h
  · exact h2 c h
theorem len_app (x y : Str) : (x ++ y).cps.toList.length = x.cps.toList.length + y.cps.toList.length := by
  have e : (x ++ y).cps.toList = x.cps.toList ++ y.cps.toList := TL.tl_append x y
  rw [e, List.length_append]
theorem joinL_mem : ∀ (ps : List (List Nat)) (c : Nat), c ∈ TL.joinL [] ps → ∃ p ∈ ps, c ∈ p
  | [], c, h => by cases h
  | [p], c, h => ⟨p, by simp, h⟩
  | p :: q :: r, c, h => by
    have h : c ∈ p ++ ([] ++ TL.joinL [] (q :: r)) := h
    rw [List.nil_append] at h
    rcases List.mem_append.mp h with h | h
    · exact ⟨p, by simp, h⟩
    · obtain ⟨z, h1, h2⟩ := joinL_mem (q :: r) c h
      exact ⟨z, List.mem_cons_of_mem _ h1, h2⟩
theorem joinL_len : ∀ (ps : List (List Nat)), (TL.joinL [] ps).length = (ps.map List.length).sum
  | [] => rfl
  | [p] => by simp [TL.joinL]
  | p :: q :: r => by
    show (p ++ ([] ++ TL.joinL [] (q :: r))).length = _
    rw [List.nil_append, List.length_append, joinL_len (q :: r)]
    simp
theorem tl_jn (ys : List Str) : (Txt.join (Str.ofString "") ys).cps.toList = TL.joinL [] (ys.map fun y => y.cps.toList) := by
  show (Builtin.Str.glued (Str.ofString "") ys).cps.toList = _
  rw [StrLaws.glued_eq_join]
  exact TL.tl_join _ ys
theorem low_join {ys : List Str} (h : ∀ y ∈ ys, Low y) : Low (Txt.join (Str.ofString "") ys) := fun c hc => by
  rw [tl_jn] at hc
  obtain ⟨p, h1, h2⟩ := joinL_mem _ _ hc
  obtain ⟨y, hy, rfl⟩ := List.mem_map.mp h1
  exact h y hy c h2
theorem len_join {ys : List Str} (h : ∀ y ∈ ys, y.cps.toList.length = 1) : (Txt.join (Str.ofString "") ys).cps.toList.length = ys.length := by
  rw [tl_jn, joinL_len, List.map_map]
  induction ys with
  | nil => rfl
  | cons y ys ih =>
    rw [List.map_cons, List.sum_cons, List.length_cons, ih fun z hz => h z (List.mem_cons_of_mem _ hz)]
    have := h y List.mem_cons_self
    show y.cps.toList.length + ys.length = _
    omega
theorem low_cut {x : Str} (h : Low x) (lo hi : Option Int) : Low (cutS x lo hi) := fun c hc => h c (List.mem_of_mem_drop (List.mem_of_mem_take hc))
theorem len_cut (x : Str) (lo hi : Option Int) : (cutS x lo hi).cps.toList.length ≤ x.cps.toList.length := by
  show ((x.cps.toList.drop _).take _).length ≤ _
  rw [List.length_take, List.length_drop]
  omega
def ch (c : Nat) : Str := ⟨#[c]⟩
theorem low_ch {c : Nat} (h : 97 ≤ c ∧ c < 123) : Low (ch c) := fun d hd => by
  have : d = c := by simpa [ch] using hd
  rw [this]; exact h
theorem len_ch (c : Nat) : (ch c).cps.toList.length = 1 := rfl
theorem low_sok {x : Str} (h : Low x) : PyData.strOk x = true := strOk_of fun c hc => by have := h c hc; omega
def lett : Str := Str.ofString "abcdefghijklmnopqrstuvwxyz"
theorem lett_idx : ∀ i : Fin 26, Txt.index0 (Str.ofString "abcdefghijklmnopqrstuvwxyz") ⟨#[97 + i.val]⟩ = some i.val := by decide +kernel
theorem lett_at (hY : YOk Y) (j : Int) (h0 : 0 ≤ j) (h1 : j < 26) : Y .atS lett j = some (ch (97 + j.toNat)) ∧ 97 ≤ 97 + j.toNat ∧ 97 + j.toNat < 123 := by
  refine ⟨?_, by omega, by omega⟩
  rw [hY.atS]
  have e : lett.cps.toList = (List.range 26).map (97 + ·) := by decide
  have hj : j.toNat < 26 := by omega
  have h2 := atI_nat (xs := lett.cps.toList) (j := j.toNat) (v := 97 + j.toNat) (by rw [e, List.getElem?_map, List.getElem?_range hj]; rfl)
  rw [Int.toNat_of_nonneg h0] at h2
  rw [h2]; rfl
theorem lett_in {c : Nat} (h : 97 ≤ c ∧ c < 123) : Txt.index0 lett (ch c) = some (c - 97) := by
  have := lett_idx ⟨c - 97, by omega⟩
  have e : 97 + (c - 97) = c := by omega
  simp only [e] at this
  exact this
theorem head_at (hY : YOk Y) {x : Str} (h : NmOk x) : ∃ c, Y .atS x 0 = some (ch c) ∧ 97 ≤ c ∧ c < 123 ∧ ∃ r, x.cps.toList = c :: r := by
  obtain ⟨h1, h2, _⟩ := h
  cases hx : x.cps.toList with
  | nil => rw [hx] at h2; simp at h2
  | cons c r =>
    have h3 := h1 c (by rw [hx]; exact List.mem_cons_self)
    refine ⟨c, ?_, h3.1, h3.2, r, rfl⟩
    rw [hY.atS, hx, atI0]; rfl
theorem cut1_len {x : Str} (h : 0 < x.cps.toList.length) : (cutS x (some 1) none).cps.toList.length + 1 = x.cps.toList.length := by
  show ((x.cps.toList.drop (HT.sIx x.length 0 (some 1))).take (HT.sIx x.length x.length none - HT.sIx x.length 0 (some 1))).length + 1 = _
  have e1 : HT.sIx x.length 0 (some 1) = min 1 x.length := HT.sIx_nat x.length 0 1
  rw [e1, HT.sIx_none, List.length_take, List.length_drop, str_len]
  omega
/-- the name behind a name that is taken -/
theorem nm_next {x : Str} {c : Nat} (h : NmOk x) (hc : 97 ≤ c ∧ c < 123) : NmOk (ch c ++ cutS x (some 1) none) ∧ ∀ c0 r, x.cps.toList = c0 :: r → c ≠ c0 → ch c ++ cutS x (some 1) none ≠ x := by
  obtain ⟨h1, h2, h3⟩ := h
  have hl := cut1_len h2
  refine ⟨⟨low_app (low_ch hc) (low_cut h1 _ _), ?_, ?_⟩, fun c0 r hx hne e => ?_⟩
  · rw [len_app, len_ch]; omega
  · rw [len_app, len_ch]; omega
  · have e1 : (ch c ++ cutS x (some 1) none).cps.toList = [c] ++ (cutS x (some 1) none).cps.toList := TL.tl_append _ _
    rw [e, hx] at e1
    injection e1 with e1 _
    exact hne e1.symm
theorem sL_map : ∀ xs : List Str, strL (xs.map .str) = some xs
  | [] => rfl
  | x :: xs => by rw [List.map_cons, strL_cons, sL_map xs]; rfl
theorem lc_of {t : Tgt} {te : AT} {ρ : En} {R : AV → AH → Prop} (Inv : List D → AH → Prop) : ∀ (ds acc : List D) (h : AH), Inv acc h →
    (∀ d ∈ ds, ∃ ρ2, t.bd d (wip ρ t.vs) = some ρ2 ∧ ∀ acc h K, Inv acc h → (∀ v h', Inv (acc ++ [v]) h' → K (.dat v) h') → te ρ2 h K) → acc.length + ds.length ≤ sizeLine →
    (∀ acc' h', acc'.length = acc.length + ds.length → Inv acc' h' → R (.dat (.lst acc')) h') → lcA t tYes te ρ ds acc h R
  | [], acc, h, i, _, _, q => q acc h (by simp) i
  | d :: ds, acc, h, i, hd, hz, q => by
    obtain ⟨ρ2, e1, e2⟩ := hd d List.mem_cons_self
    unfold lcA
    rw [e1]
    rw [List.length_cons] at hz q
    show te ρ2 h fun y h4 => (match y with | .dat y => acc.length < sizeLine ∧ lcA t tYes te ρ ds (acc ++ [y]) h4 R | _ => False)
    refine e2 acc h _ i fun v h' i' => ⟨by omega, lc_of Inv ds (acc ++ [v]) h' i' (fun x hx => hd x (List.mem_cons_of_mem _ hx)) (by simp; omega) fun acc' h'' hl i'' => q acc' h'' (by simp at hl; omega) i''⟩
def F_names : BFs := fun ds bs R => ∃ many a b c : Int, (many = 1 ∨ many = 2) ∧ ds = [.int many] ∧ bs = boxL a b c ∧ ∀ (ns : List Str) a' b' c', NamesOk ns → (ns.length : Int) = many → R (.lst (ns.map .str)) (boxL a' b' c')
def U_names (F : BFs) : Prop := ∀ (many a b c : Int) R, (many = 1 ∨ many = 2) → (∀ (ns : List Str) a' b' c', NamesOk ns → (ns.length : Int) = many → R (.lst (ns.map .str)) (boxL a' b' c')) → F [.int many] (boxL a b c) R
theorem u_names : U_names F_names := fun many a b c R h q => ⟨many, a, b, c, h, rfl, rfl, q⟩
/-- the turn of the loop that looks for a free name -/
theorem name_while (hZ : ArOk Z) (hY : YOk Y) {s0 s1 s3 s4 s5 s6 s8 : Option AV} {bx : AO} {fs : List Str} {nx : En → AH → Prop} {rt : AV → AH → Prop} {nm : Str} (hl : fs.length ≤ 1) (hnm : NmOk nm)
    (q : ∀ nm', NmOk nm' → nm' ∉ fs → nx [s0, s1, some (.dat (.str lett)), s3, s4, s5, s6, some (.ref 1), s8, some (.dat (.str nm'))] [bx, .lst (fs.map .str)]) :
    sWhile (tst (eOp (rInSY Y false) (eV 9) (eV 7))) (sAsg (eOp (rAddY Z Y) (eOp (rIxY Y) (eV 2) (eOp (rModZ Z) (eOp (rAddY Z Y) (eIndex (eV 2) (aCons (eOp (rIxY Y) (eV 9) (eC (.int 0))) aNil)) (eC (.int 1))) (eC (.int 26)))) (eSlY Y (eV 9) (oSome (eC (.int 1))) oNone)) (gN 9))
      nx rt [s0, s1, some (.dat (.str lett)), s3, s4, s5, s6, some (.ref 1), s8, some (.dat (.str nm))] [bx, .lst (fs.map .str)] := by
  have cond : ∀ (x : Str) (K : Bool → AH → Prop), K (decide (x ∈ fs)) [bx, .lst (fs.map .str)] → tst (eOp (rInSY Y false) (eV 9) (eV 7)) [s0, s1, some (.dat (.str lett)), s3, s4, s5, s6, some (.ref 1), s8, some (.dat (.str x))] [bx, .lst (fs.map .str)] K := fun x K k => by
    show (match Y .sL (fs.map .str) with | some ss => _ | none => False)
    rw [hY.sL, sL_map]
    exact k
  by_cases h : nm ∈ fs
  · refine ⟨2, ?_⟩
    unfold itW
    refine cond nm _ ?_
    rw [decide_eq_true h, if_pos rfl]
    obtain ⟨c, hc1, hc2, hc3, r, hx⟩ := head_at hY hnm
    have hfl : lett.length ≤ sizeLine := by rw [sizeLine_eq]; decide
    have hfn : nm.length ≤ sizeLine := by rw [sizeLine_eq, str_len]; have := hnm.2.2; omega
    have hidx := lett_in (c := c) ⟨hc2, hc3⟩
    have hm1 := fm_lo (a := ((c - 97 : Nat) : Int) + 1) (m := 26) (by decide)
    have hm2 := fm_hi (a := ((c - 97 : Nat) : Int) + 1) (m := 26) (by decide)
    obtain ⟨ha, hc'⟩ := lett_at hY _ hm1 hm2
    have hne : 97 + ((((c - 97 : Nat) : Int) + 1).fmod 26).toNat ≠ c := by
      have : (((c - 97 : Nat) : Int) + 1).fmod 26 = (((c - 97 : Nat) : Int) + 1) % 26 := Int.fmod_eq_emod_of_nonneg _ (by decide)
      rw [this]
      omega
    obtain ⟨hn1, hn2⟩ := nm_next hnm hc'
    have hn3 := hn2 c r hx hne
    generalize 97 + ((((c - 97 : Nat) : Int) + 1).fmod 26).toNat = c' at ha hn1 hn3 hc'
    have hit : itW (tst (eOp (rInSY Y false) (eV 9) (eV 7))) (sAsg (eOp (rAddY Z Y) (eOp (rIxY Y) (eV 2) (eOp (rModZ Z) (eOp (rAddY Z Y) (eIndex (eV 2) (aCons (eOp (rIxY Y) (eV 9) (eC (.int 0))) aNil)) (eC (.int 1))) (eC (.int 26)))) (eSlY Y (eV 9) (oSome (eC (.int 1))) oNone)) (gN 9))
        nx rt 1 [s0, s1, some (.dat (.str lett)), s3, s4, s5, s6, some (.ref 1), s8, some (.dat (.str (ch c' ++ cutS nm (some 1) none)))] [bx, .lst (fs.map .str)] := by
      unfold itW
      have hni : ch c' ++ cutS nm (some 1) none ∉ fs := fun hin => by
        match fs, hl, h, hin with
        | [y], _, h, hin => exact hn3 ((List.mem_singleton.mp hin).trans (List.mem_singleton.mp h).symm)
      refine cond _ _ ?_
      rw [decide_eq_false hni, if_neg Bool.false_ne_true]
      exact q _ hn1 hni
    have hEI : ∀ K : AV → AH → Prop, K (.dat (.int ((c - 97 : Nat) : Int))) [bx, .lst (fs.map .str)] → eIndex (eV 2) (aCons (eOp (rIxY Y) (eV 9) (eC (.int 0))) aNil) [s0, s1, some (.dat (.str lett)), s3, s4, s5, s6, some (.ref 1), s8, some (.dat (.str nm))] [bx, .lst (fs.map .str)] K := fun K k => by
      show Y .fitS nm ∧ (match Y .atS nm 0 with | some c => (match Txt.index0 lett c with | some i => K (.dat (.int (i : Nat))) _ | none => False) | none => False)
      rw [hc1, hY.fitS]
      simp only
      rw [hidx]
      exact ⟨hfn, k⟩
    have hpl : Z .plus ((c - 97 : Nat) : Int) 1 = ((c - 97 : Nat) : Int) + 1 := hZ.plus _ _
    have hfm : Z .fm (((c - 97 : Nat) : Int) + 1) 26 = (((c - 97 : Nat) : Int) + 1).fmod 26 := hZ.fm _ _
    have hsum : (ch c').length + (cutS nm (some 1) none).length ≤ sizeLine := by
      rw [sizeLine_eq, str_len, str_len, len_ch]
      have := len_cut nm (some 1) none
      have := hnm.2.2
      omega
    have happ : Y .appS (ch c') (Y .cutS nm (some 1) none) = ch c' ++ cutS nm (some 1) none := by rw [hY.cutS, hY.appS]
    have hcut : Y .cutS nm (some 1) none = cutS nm (some 1) none := hY.cutS _ _ _
    obtain ⟨nm', hnm'⟩ : ∃ x, ch c' ++ cutS nm (some 1) none = x := ⟨_, rfl⟩
    obtain ⟨ct, hct⟩ : ∃ x, cutS nm (some 1) none = x := ⟨_, rfl⟩
    rw [hct] at hcut hsum
    rw [hnm'] at happ hit
    rw [hcut] at happ
    generalize ((c - 97 : Nat) : Int) = ci at hEI hpl hfm ha
    generalize ci + 1 = cj at hpl hfm ha
    generalize cj.fmod 26 = ck at hfm ha
    generalize ch c' = chc at ha happ hsum
    generalize itW _ _ nx rt 1 = IT at hit ⊢
    generalize eIndex _ _ = EI at hEI ⊢
    have hfl2 : Y .fitS lett := by rw [hY.fitS]; exact hfl
    have hfn2 : Y .fitS nm := by rw [hY.fitS]; exact hfn
    have hfs2 : Y .fitS2 chc ct := by rw [hY.fitS2]; exact hsum
    generalize lett = lt at *
    generalize fs.map D.str = fd at *
    cbv
    refine hEI _ ?_
    cbv
    rw [hpl, hfm, hZ.nz]
    refine ⟨by decide, hfl2, ?_⟩
    rw [ha]
    cbv
    refine ⟨hfn2, ?_⟩
    rw [hcut]
    refine ⟨hfs2, ?_⟩
    rw [happ]
    exact hit
  · refine ⟨1, ?_⟩
    unfold itW
    refine cond nm _ ?_
    rw [decide_eq_false h, if_neg Bool.false_ne_true]
    exact q nm hnm h
end AL
end
section
set_option Elab.async false
set_option linter.all false
set_option maxRecDepth 100000
set_option maxHeartbeats 4000000
/-! S27: the law's names. -/
namespace AL
open PySem PySem.Spec PyProof.Rows L2
variable {Z : Ar} {Y : LY}
def wordsD : List D := [.str "yes", .str "high", .str "rise", .str "read", .str "both", .str "ago", .str "nth", .str "held", .str "since", .str "framed", .str "even", .str "none"]
theorem words_at (j : Int) (h0 : 0 ≤ j) (h1 : j < 12) : ∃ x, atI wordsD j = some (.str x) ∧ NmOk x := by
  have : j = 0 ∨ j = 1 ∨ j = 2 ∨ j = 3 ∨ j = 4 ∨ j = 5 ∨ j = 6 ∨ j = 7 ∨ j = 8 ∨ j = 9 ∨ j = 10 ∨ j = 11 := by omega
  rcases this with rfl | rfl | rfl | rfl | rfl | rfl | rfl | rfl | rfl | rfl | rfl | rfl <;> exact ⟨_, rfl, by unfold NmOk Low; decide⟩
theorem sum_ones : ∀ {ys : List Str}, (∀ y ∈ ys, Low y ∧ y.cps.toList.length = 1) → (ys.map (·.length)).sum = ys.length
  | [], _ => rfl
  | y :: ys, h => by
    rw [List.map_cons, List.sum_cons, sum_ones fun z hz => h z (List.mem_cons_of_mem _ hz), List.length_cons, str_len, (h y List.mem_cons_self).2]; omega
theorem sp_names {F : BFs} (hZ : ArOk Z) (hY : YOk Y) (U : U_take F) : SpecB 2 10 (d_lw_names Z Y F) F_names := by
  rintro _ _ R _ ⟨many, a, b, c, hmany, rfl, rfl, q⟩
  have UT := fun (many : Int) h1 h2 a b c R h3 => U many a b c R h1 h2 h3
  unfold boxL at UT q ⊢
  have hLat : ∀ j : Int, 0 ≤ j → j < 26 → ∃ c, Y .atS lett j = some (ch c) ∧ 97 ≤ c ∧ c < 123 := fun j h0 h1 => ⟨_, (lett_at hY j h0 h1).1, (lett_at hY j h0 h1).2⟩
  have hLfit : Y .fitS lett := by rw [hY.fitS, sizeLine_eq]; decide
  have whl := fun s0 s1 s3 s4 s5 s6 s8 bx fs nx rt nm h1 h2 => name_while (Z := Z) hZ hY (s0 := s0) (s1 := s1) (s3 := s3) (s4 := s4) (s5 := s5) (s6 := s6) (s8 := s8) (bx := bx) (fs := fs) (nx := nx) (rt := rt) (nm := nm) h1 h2
  have main : ∀ (wd : List D) (a b c : Int), (∀ j : Int, 0 ≤ j → j < 12 → ∃ x, atI wd j = some (.str x) ∧ NmOk x) →
    (sSeq (sAsg (eJoin (eC (.str "")) (eLcY Y (iRg1Y Y (aCons (eCallB 2 F (aCons (eV 0) (aCons (eC (.int 6)) aNil))) aNil)) (.nm 8) tYes (eOp (rIxY Y) (eV 2) (eCallB 2 F (aCons (eV 0) (aCons (eC (.int 26)) aNil)))))) (gN 4))
    (sSeq (sPar 5 6 (aCons (eCallB 2 F (aCons (eV 0) (aCons (eOp (rAddY Z Y) (eCall (rLenY Y) (aCons (eV 4) aNil)) (eC (.int 1))) aNil))) (aCons (eCallB 2 F (aCons (eV 0) (aCons (eC (.int 26)) aNil))) aNil)))
    (sSeq (sAsg (eLstM aNil) (gN 7))
    (sSeq (sForY Y (iRg1Y Y (aCons (eV 1) aNil)) (gN 8) (sSeq (sAsg (eOp (rAddY Z Y) (eOp (rAddY Z Y) (eSlY Y (eV 4) oNone (oSome (eV 5))) (eOp (rIxY Y) (eV 2) (eOp (rModZ Z) (eOp (rAddY Z Y) (eV 6) (eOp (rMulZ Z) (eC (.int 7)) (eV 8))) (eC (.int 26))))) (eSlY Y (eV 4) (oSome (eV 5)) oNone)) (gN 9))
    (sSeq (sIf (tst (eOp (rEqN false) (eCallB 2 F (aCons (eV 0) (aCons (eC (.int 6)) aNil))) (eC (.int 0)))) (sAsg (eOp (rIxY Y) (eV 3) (eCallB 2 F (aCons (eV 0) (aCons (eC (.int 12)) aNil)))) (gN 9)) sNext)
    (sSeq (sWhileY Y (tst (eOp (rInSY Y false) (eV 9) (eV 7))) (sAsg (eOp (rAddY Z Y) (eOp (rIxY Y) (eV 2) (eOp (rModZ Z) (eOp (rAddY Z Y) (eIndex (eV 2) (aCons (eOp (rIxY Y) (eV 9) (eC (.int 0))) aNil)) (eC (.int 1))) (eC (.int 26)))) (eSlY Y (eV 9) (oSome (eC (.int 1))) oNone)) (gN 9)))
    (sExpr (eAppendY Y (eV 7) (aCons (eV 9) aNil)))))))
    (sRet (eV 7))))))
      (fun _ h => finA 1 R (.dat .non) h) (finA 1 R) [some (.ref 0), some (.dat (.int many)), some (.dat (.str lett)), some (.dat (.lst wd)), none, none, none, none, none, none] [.lst [.int a, .int b, .int c]] := by
    intro wd a b c hwd
    -- one turn
    have turn : ∀ (stem : Str) (at_ tn k : Int) (fs : List Str) (u8 u9 : Option AV) (a b c : Int) (K : En → AH → Prop) (rt : AV → AH → Prop), Low stem → stem.cps.toList.length ≤ 6 → fs.length ≤ 1 →
        (∀ nm a b c, NmOk nm → nm ∉ fs → K [some (.ref 0), some (.dat (.int many)), some (.dat (.str lett)), some (.dat (.lst wd)), some (.dat (.str stem)), some (.dat (.int at_)), some (.dat (.int tn)), some (.ref 1), some (.dat (.int k)), some (.dat (.str nm))] [.lst [.int a, .int b, .int c], .lst ((fs ++ [nm]).map .str)]) →
        (sSeq (sAsg (eOp (rAddY Z Y) (eOp (rAddY Z Y) (eSlY Y (eV 4) oNone (oSome (eV 5))) (eOp (rIxY Y) (eV 2) (eOp (rModZ Z) (eOp (rAddY Z Y) (eV 6) (eOp (rMulZ Z) (eC (.int 7)) (eV 8))) (eC (.int 26))))) (eSlY Y (eV 4) (oSome (eV 5)) oNone)) (gN 9))
    (sSeq (sIf (tst (eOp (rEqN false) (eCallB 2 F (aCons (eV 0) (aCons (eC (.int 6)) aNil))) (eC (.int 0)))) (sAsg (eOp (rIxY Y) (eV 3) (eCallB 2 F (aCons (eV 0) (aCons (eC (.int 12)) aNil)))) (gN 9)) sNext)
    (sSeq (sWhileY Y (tst (eOp (rInSY Y false) (eV 9) (eV 7))) (sAsg (eOp (rAddY Z Y) (eOp (rIxY Y) (eV 2) (eOp (rModZ Z) (eOp (rAddY Z Y) (eIndex (eV 2) (aCons (eOp (rIxY Y) (eV 9) (eC (.int 0))) aNil)) (eC (.int 1))) (eC (.int 26)))) (eSlY Y (eV 9) (oSome (eC (.int 1))) oNone)) (gN 9)))
    (sExpr (eAppendY Y (eV 7) (aCons (eV 9) aNil)))))) K rt [some (.ref 0), some (.dat (.int many)), some (.dat (.str lett)), some (.dat (.lst wd)), some (.dat (.str stem)), some (.dat (.int at_)), some (.dat (.int tn)), some (.ref 1), some (.dat (.int k)), u9] [.lst [.int a, .int b, .int c], .lst (fs.map .str)] := by
      intro stem at_ tn k fs u8 u9 a b c K rt hst hsl hfs hK
      -- the while and behind it
      have wh : ∀ (nm : Str) (a b c : Int), NmOk nm → (sSeq (sWhileY Y (tst (eOp (rInSY Y false) (eV 9) (eV 7))) (sAsg (eOp (rAddY Z Y) (eOp (rIxY Y) (eV 2) (eOp (rModZ Z) (eOp (rAddY Z Y) (eIndex (eV 2) (aCons (eOp (rIxY Y) (eV 9) (eC (.int 0))) aNil)) (eC (.int 1))) (eC (.int 26)))) (eSlY Y (eV 9) (oSome (eC (.int 1))) oNone)) (gN 9)))
    (sExpr (eAppendY Y (eV 7) (aCons (eV 9) aNil)))) K rt [some (.ref 0), some (.dat (.int many)), some (.dat (.str lett)), some (.dat (.lst wd)), some (.dat (.str stem)), some (.dat (.int at_)), some (.dat (.int tn)), some (.ref 1), some (.dat (.int k)), some (.dat (.str nm))] [.lst [.int a, .int b, .int c], .lst (fs.map .str)] := by
        intro nm a b c hnm
        show Y .whl _ _ _ _ _ _
        rw [hY.whl]
        refine whl _ _ _ _ _ _ _ _ _ _ _ _ hfs hnm fun nm' h1 h2 => ?_
        have hK := hK nm' a b c h1 h2
        have hfl : (fs.map D.str).length < sizeLine := by rw [sizeLine_eq, List.length_map]; omega
        rw [List.map_append] at hK
        have e : [nm'].map D.str = [.str nm'] := rfl
        rw [e] at hK
        generalize lett = lt at hK ⊢
        generalize fs.map D.str = fd at hK hfl ⊢
        cbv
        rw [hY.fit, hY.app]
        exact ⟨hfl, hK⟩
      generalize sSeq (sWhileY Y _ _) (sExpr _) = WH at wh ⊢
      have hx : ∀ x : Int, ∃ c, Y .atS lett (x.fmod 26) = some (ch c) ∧ 97 ≤ c ∧ c < 123 := fun x => hLat _ (fm_lo (by decide)) (fm_hi (by decide))
      obtain ⟨cc, hc1, hc2⟩ := hx (Z .plus tn (Z .times 7 k))
      obtain ⟨c1, hc1'⟩ : ∃ x, cutS stem none (some at_) = x := ⟨_, rfl⟩
      obtain ⟨c2, hc2'⟩ : ∃ x, cutS stem (some at_) none = x := ⟨_, rfl⟩
      have l1 : Low c1 ∧ c1.cps.toList.length ≤ 6 := by rw [← hc1']; exact ⟨low_cut hst _ _, Nat.le_trans (len_cut _ _ _) hsl⟩
      have l2 : Low c2 ∧ c2.cps.toList.length ≤ 6 := by rw [← hc2']; exact ⟨low_cut hst _ _, Nat.le_trans (len_cut _ _ _) hsl⟩
      have hnm : NmOk (c1 ++ ch cc ++ c2) := ⟨low_app (low_app l1.1 (low_ch hc2)) l2.1, by rw [len_app, len_app, len_ch]; omega, by rw [len_app, len_app, len_ch]; have := l1.2; have := l2.2; omega⟩
      have wn := fun a b c => wh _ a b c hnm
      have f1 : Y .fitS stem := by rw [hY.fitS, sizeLine_eq, str_len]; omega
      have f2 : Y .fitS2 c1 (ch cc) := by rw [hY.fitS2, sizeLine_eq, str_len, str_len, len_ch]; have := l1.2; omega
      have f3 : Y .fitS2 (c1 ++ ch cc) c2 := by rw [hY.fitS2, sizeLine_eq, str_len, str_len, len_app, len_ch]; have := l1.2; have := l2.2; omega
      have g1 : Y .cutS stem none (some at_) = c1 := by rw [hY.cutS]; exact hc1'
      have g2 : Y .cutS stem (some at_) none = c2 := by rw [hY.cutS]; exact hc2'
      have g3 : Y .appS c1 (ch cc) = c1 ++ ch cc := hY.appS _ _
      have g4 : Y .appS (c1 ++ ch cc) c2 = c1 ++ ch cc ++ c2 := hY.appS _ _
      have hfm : Z .fm (Z .plus tn (Z .times 7 k)) 26 = (Z .plus tn (Z .times 7 k)).fmod 26 := hZ.fm _ _
      generalize (Z .plus tn (Z .times 7 k)).fmod 26 = fmx at hfm hc1
      generalize c1 ++ ch cc ++ c2 = nm at wn g4
      generalize c1 ++ ch cc = n1 at f3 g3 g4
      generalize ch cc = chc at f2 g3 hc1
      generalize hlt : lett = lt at *
      generalize fs.map D.str = fd at wh wn ⊢
      cbv
      refine ⟨f1, ?_⟩
      rw [g1]
      rw [hZ.cm]
      refine ⟨cm_l, ?_⟩
      rw [hZ.nz]
      refine ⟨by decide, hLfit, ?_⟩
      rw [hfm, hc1]
      cbv
      refine ⟨f2, ?_⟩
      rw [g3]
      refine ⟨f1, ?_⟩
      rw [g2]
      refine ⟨f3, ?_⟩
      rw [g4]
      refine UT 6 (by decide) (by decide) _ _ _ _ fun i a b c hi1 hi2 => ?_
      cbv
      by_cases h0 : i = 0
      · rw [decide_eq_true h0]
        cbv
        refine UT 12 (by decide) (by decide) _ _ _ _ fun j a b c hj1 hj2 => ?_
        obtain ⟨x, hx1, hx2⟩ := hwd j hj1 hj2
        have wn2 := wh x a b c hx2
        cbv
        rw [hY.at_, hx1]
        cbv
        exact wn2
      · rw [decide_eq_false h0]
        cbv
        exact wn _ _ _
    -- the loop
    have loop : ∀ (stem : Str) (at_ tn a b c : Int) (fin : En → AH → Prop) (rt : AV → AH → Prop), Low stem → stem.cps.toList.length ≤ 6 →
        (∀ (ns : List Str) (u8 u9 : Option AV) (a b c : Int), NamesOk ns → (ns.length : Int) = many → fin [some (.ref 0), some (.dat (.int many)), some (.dat (.str lett)), some (.dat (.lst wd)), some (.dat (.str stem)), some (.dat (.int at_)), some (.dat (.int tn)), some (.ref 1), u8, u9] [.lst [.int a, .int b, .int c], .lst (ns.map .str)]) →
        loopA (gN 8) (sSeq (sAsg (eOp (rAddY Z Y) (eOp (rAddY Z Y) (eSlY Y (eV 4) oNone (oSome (eV 5))) (eOp (rIxY Y) (eV 2) (eOp (rModZ Z) (eOp (rAddY Z Y) (eV 6) (eOp (rMulZ Z) (eC (.int 7)) (eV 8))) (eC (.int 26))))) (eSlY Y (eV 4) (oSome (eV 5)) oNone)) (gN 9))
    (sSeq (sIf (tst (eOp (rEqN false) (eCallB 2 F (aCons (eV 0) (aCons (eC (.int 6)) aNil))) (eC (.int 0)))) (sAsg (eOp (rIxY Y) (eV 3) (eCallB 2 F (aCons (eV 0) (aCons (eC (.int 12)) aNil)))) (gN 9)) sNext)
    (sSeq (sWhileY Y (tst (eOp (rInSY Y false) (eV 9) (eV 7))) (sAsg (eOp (rAddY Z Y) (eOp (rIxY Y) (eV 2) (eOp (rModZ Z) (eOp (rAddY Z Y) (eIndex (eV 2) (aCons (eOp (rIxY Y) (eV 9) (eC (.int 0))) aNil)) (eC (.int 1))) (eC (.int 26)))) (eSlY Y (eV 9) (oSome (eC (.int 1))) oNone)) (gN 9)))
    (sExpr (eAppendY Y (eV 7) (aCons (eV 9) aNil)))))) fin rt (rgD 0 1 many.toNat) [some (.ref 0), some (.dat (.int many)), some (.dat (.str lett)), some (.dat (.lst wd)), some (.dat (.str stem)), some (.dat (.int at_)), some (.dat (.int tn)), some (.ref 1), none, none] [.lst [.int a, .int b, .int c], .lst []] := by
      intro stem at_ tn a b c fin rt hst hsl hfin
      refine loop_of (fun i ρ h => ∃ (u8 u9 : Option AV) (a b c : Int) (fs : List Str), ρ = [some (.ref 0), some (.dat (.int many)), some (.dat (.str lett)), some (.dat (.lst wd)), some (.dat (.str stem)), some (.dat (.int at_)), some (.dat (.int tn)), some (.ref 1), u8, u9] ∧ h = [.lst [.int a, .int b, .int c], .lst (fs.map .str)] ∧ fs.length = i ∧ fs.Nodup ∧ ∀ x ∈ fs, NmOk x) ?step ?last _ _ ?init
      case init => exact ⟨_, _, _, _, _, [], rfl, rfl, rfl, List.nodup_nil, fun x h => by cases h⟩
      case last =>
        rintro _ _ ⟨u8, u9, a, b, c, fs, rfl, rfl, hl, hnd, hok⟩
        rw [rgD_length] at hl
        exact hfin fs u8 u9 a b c ⟨hnd, by omega, fun x hx => low_sok (hok x hx).1⟩ (by omega)
      case step =>
        rintro i dd K _ _ hd hK ⟨u8, u9, a, b, c, fs, rfl, rfl, hl, hnd, hok⟩
        obtain ⟨hi, rfl⟩ := rgD_get hd
        refine turn stem at_ tn _ fs u8 u9 a b c K rt hst hsl (by omega) fun nm a b c h1 h2 => ?_
        refine hK _ _ ⟨_, _, a, b, c, fs ++ [nm], rfl, rfl, by simp [hl], ?_, fun x hx => ?_⟩
        · exact List.nodup_append.mpr ⟨hnd, by simp, fun x hx y hy => by rw [List.mem_singleton.mp hy]; exact fun e => h2 (e ▸ hx)⟩
        · rcases List.mem_append.mp hx with hx | hx
          · exact hok x hx
          · rw [List.mem_singleton.mp hx]; exact h1
    clear turn
    revert loop
    generalize sSeq (sAsg (eOp (rAddY Z Y) (eOp (rAddY Z Y) (eSlY Y (eV 4) oNone (oSome (eV 5))) _) _) (gN 9)) _ = BODY
    intro loop
    have hmz : many.toNat ≤ 2 ∧ -(2 ^ 62) ≤ many ∧ many < 2 ^ 62 := by omega
    have r6 : ∀ n : Int, 0 ≤ n → n < 6 → (-(2 ^ 62) ≤ n ∧ n < 2 ^ 62) ∧ n.toNat ≤ 6 := fun n h1 h2 => by omega
    have lnk : ∀ n : Nat, n ≤ 6 → (0 : Int) < ((n : Nat) : Int) + 1 ∧ ((n : Nat) : Int) + 1 < 1000 := fun n h => by omega
    clear whl
    generalize lett = lt at loop hLat hLfit ⊢
    cbv
    refine UT 6 (by decide) (by decide) _ _ _ _ fun n a b c hn1 hn2 => ?_
    obtain ⟨h6, h6'⟩ := r6 n hn1 hn2
    cbv
    rw [hY.rok, hY.rng, hY.lc]
    refine ⟨h6, ?_⟩
    refine lc_of (fun acc h => ∃ (ys : List Str) (a b c : Int), acc = ys.map .str ∧ h = [.lst [.int a, .int b, .int c]] ∧ ∀ y ∈ ys, Low y ∧ y.cps.toList.length = 1) _ _ _ ⟨[], _, _, _, rfl, rfl, fun y h => by cases h⟩ (fun d hd => ⟨_, rfl, fun acc h K hi hk => ?_⟩) (by rw [sizeLine_eq, rgD_length]; simp; omega) fun acc' h' hl hi => ?_
    · obtain ⟨ys, a, b, c, rfl, rfl, hys⟩ := hi
      obtain ⟨yd, hyd⟩ : ∃ x, ys.map D.str = x := ⟨_, rfl⟩
      have hLf := hLfit
      have hLa := hLat
      have hk : ∀ (c0 : Nat), (97 ≤ c0 ∧ c0 < 123) → ∀ a b c, K (.dat (.str (ch c0))) [.lst [.int a, .int b, .int c]] := fun c0 hc a b c => hk _ _ ⟨ys ++ [ch c0], a, b, c, by rw [List.map_append]; rfl, rfl, fun y hy => by
        rcases List.mem_append.mp hy with hy | hy
        · exact hys y hy
        · rw [List.mem_singleton.mp hy]; exact ⟨low_ch hc, rfl⟩⟩
      cbv
      refine UT 26 (by decide) (by decide) _ _ _ _ fun j a b c hj1 hj2 => ?_
      obtain ⟨c0, h1, h2⟩ := hLa j hj1 hj2
      have hk := hk c0 h2
      generalize ch c0 = chc at h1 hk
      cbv
      refine ⟨hLf, ?_⟩
      rw [h1]
      exact hk _ _ _
    · obtain ⟨ys, a, b, c, rfl, rfl, hys⟩ := hi
      rw [rgD_length, List.length_map] at hl
      have hyl : ys.length ≤ 6 := by rw [hl]; simpa using h6'
      show (match strL (ys.map .str) with | some zs => (zs.map (·.length)).sum + zs.length * (Str.ofString "").length ≤ 16777216 ∧ _ | none => False)
      rw [sL_map]
      have hs1 : Low (Txt.join (Str.ofString "") ys) := low_join fun y hy => (hys y hy).1
      have hs2 : (Txt.join (Str.ofString "") ys).cps.toList.length ≤ 6 := by rw [len_join fun y hy => (hys y hy).2]; exact hyl
      refine ⟨by rw [sum_ones hys]; have : (Str.ofString "").length = 0 := by decide
                 rw [this]; omega, ?_⟩
      generalize hstm : Txt.join _ ys = stem
      have hst2 : Txt.join (Str.ofString "") ys = stem := hstm
      rw [hst2] at hs1 hs2
      clear hstm hst2
      have hfs : Y .fitS stem := by rw [hY.fitS, sizeLine_eq, str_len]; omega
      obtain ⟨hk1, hk2⟩ := lnk _ hs2
      have hpl : Z .plus (Y .lenS stem) 1 = ((stem.cps.toList.length : Nat) : Int) + 1 := by rw [hZ.plus, hY.lenS, str_len]
      have loop := fun at_ tn a b c fin rt => loop stem at_ tn a b c fin rt hs1 hs2
      generalize ((stem.cps.toList.length : Nat) : Int) + 1 = sl at hk1 hk2 hpl
      cbv
      refine ⟨hfs, ?_⟩
      rw [hpl]
      refine UT sl hk1 hk2 _ _ _ _ fun at_ a b c _ _ => ?_
      cbv
      refine UT 26 (by decide) (by decide) _ _ _ _ fun tn a b c _ _ => ?_
      cbv
      rw [hY.rok, hY.rng, hY.loop]
      refine ⟨hmz.2, ?_⟩
      refine loop at_ tn a b c _ _ fun ns u8 u9 a b c hn hl => ?_
      have q := q ns a b c hn hl
      generalize ns.map D.str = nd at q ⊢
      cbv
      exact ⟨_, rfl, rfl, q⟩
  unfold d_lw_names
  revert main
  generalize sSeq (sAsg (eJoin _ _) (gN 4)) _ = REST
  intro main
  have main := main wordsD a b c words_at
  exact ⟨by rw [sizeLine_eq]; decide, main⟩
end AL
end
section
set_option Elab.async false
set_option linter.all false
set_option maxRecDepth 100000
set_option maxHeartbeats 4000000
/-! S28: the law. -/
namespace AL
open PySem PySem.Spec PyProof.Rows L2
variable {Z : Ar} {Y : LY}
structure PairOk (ns : List Str) (w v : Wi Str) : Prop where
  ok : NamesOk ns
  gw : w.good (· ∈ ns)
  gv : v.good (· ∈ ns)
  cost : w.cost + v.cost ≤ 4
  cw : w.cost ≤ 2
  sw : w.size ≤ 3
  sv : v.size ≤ 3
theorem eqD_pairs : ∀ xs : AL.Sp, eqDs (xs.map pD) (xs.map pD) = true
  | [] => eqDs_nil
  | p :: xs => by
    rw [List.map_cons, eqDs_cons, eqD_pairs xs]
    unfold pD
    rw [eqD_tup, eqDs_cons, eqDs_cons, eqDs_nil, eqD_int, eqD_int]
    simp
theorem okD_sp (xs : AL.Sp) : okD (.tup (xs.map pD)) := okD_of (okN_pairs 0 xs)
theorem law_turn {F1 : PFs} {F2 F3 : BFs} (hZ : ArOk Z) (hY : YOk Y) (U1 : U_when 9 F1) (U2 : U_line F2) (U3 : U_take F3) {ns : List Str} {w v : Wi Str} (hp : PairOk ns w v) {L : Option Nat} (hL : Least ns [w, v] L) {hs : List AO} (hh : hs.length ≤ 3)
    {s0 s1 u6 u9 u10 u11 : Option AV} {k a b c : Int} {K : En → AH → Prop} {R : D → Prop}
    (hK : ∀ u9 u10 (a b c : Int), K [s0, s1, some (.ref hs.length), some (.dat (.lst (ns.map .str))), some (.dat (encW w)), some (.dat (encW v)), u6, some (.dat (OD L)), some (.dat (.int k)), u9, u10, u11] (hs ++ [.lst (boxL a b c)])) :
    (sSeq (sAsg (eCallB 2 F3 (aCons (eV 2) (aCons (eC (.int 41)) aNil))) (gN 9))
    (sSeq (sAsg (eCall rTuple (aCons (eLcY Y (iSeq (eV 3)) (.nm 11) tYes (eTup (aCons (eV 11) (aCons (eCallB 2 F2 (aCons (eV 2) (aCons (eV 9) aNil))) aNil)))) aNil)) (gN 10))
    (sIf (tAnd (tst (eOp (rIsN false) (eV 7) (eC .non))) (tst (eOp (rEqN true) (eCallF 2 F1 (aCons (eV 10) (aCons (eV 4) aNil))) (eCallF 2 F1 (aCons (eV 10) (aCons (eV 5) aNil)))))) (sRet (eC (.bl false))) sNext)))
      K (finA 0 fun d _ => R d) [s0, s1, some (.ref hs.length), some (.dat (.lst (ns.map .str))), some (.dat (encW w)), some (.dat (encW v)), u6, some (.dat (OD L)), some (.dat (.int k)), u9, u10, u11] (hs ++ [.lst (boxL a b c)]) := by
  obtain ⟨NE, hNE⟩ : ∃ x, rEqN true = x := ⟨_, rfl⟩
  rw [hNE]
  have UT := fun (many : Int) h1 h2 a b c R h3 => U3 many a b c R h1 h2 h3
  have UL := fun (T : Int) h1 h2 a b c R h3 => U2 T a b c R h1 h2 h3
  have neq : ∀ (xs : AL.Sp) (zd : List D), xs.map pD = zd → ∀ h (K : AV → AH → Prop), K (.dat (.bl false)) h → NE (.dat (.tup zd)) (.dat (.tup zd)) h K := fun xs zd hz h K k => by
    subst hz
    refine eqn_tt hNE (okD_sp xs) (okD_sp xs) ?_
    rw [if_pos rfl, eqD_tup, eqD_pairs]
    exact k
  have WW : L = none → ∀ (T : Int) (lns : List Ln), 0 ≤ T → T ≤ 100 → lns.length = ns.length → (∀ ln ∈ lns, ∃ lv : Int, (lv = 0 ∨ lv = 1) ∧ LineOk lv ln ∧ ((total ln : Nat) : Int) = T) → ∀ (R' : D → Prop), (∀ xs : AL.Sp, (∀ R3 : D → Prop, R3 (spD xs) → F1 [linesD ns lns, encW v] R3) → R' (spD xs)) → F1 [linesD ns lns, encW w] R' := fun hn T lns h1 h2 h3 h4 R' h5 => by
    have ok : LinesOk ns lns T.toNat := ⟨h3, hp.ok.two, hp.ok.nd, fun ln hl => by
      obtain ⟨lv, a, b, c⟩ := h4 ln hl
      exact ⟨lv, a, b, by omega⟩, by omega⟩
    have hs1 := hp.sw
    have hs2 := hp.sv
    subst hn
    refine U1 ns lns T.toNat _ w R' ok (lets_rows ok) (by omega) hp.gw fun xs cx hx => h5 _ fun R3 h6 => ?_
    refine U1 ns lns T.toNat _ v _ ok (lets_rows ok) (by omega) hp.gv fun ys cy hy => ?_
    have e := vw_alike cx cy hx hy fun n _ => when_alike ok hL n
    subst e
    exact h6
  have bnd : ∀ T : Int, 0 ≤ T → T < 41 → T ≤ 100 := fun T _ h => by omega
  have hnt := hp.ok.two
  have hov : L = none ∨ ∃ k : Nat, L = some k := by cases L with
    | none => exact .inl rfl
    | some k => exact .inr ⟨k, rfl⟩
  obtain ⟨ev', hev⟩ : ∃ x, encW v = x := ⟨_, rfl⟩
  obtain ⟨ew, hew⟩ : ∃ x, encW w = x := ⟨_, rfl⟩
  rw [hev, hew] at WW hK ⊢
  unfold boxL at UT UL hK ⊢
  clear hL hp U1 U2 U3 hev hew
  have hov2 : (OD L = .non ∧ L = none) ∨ ∃ k : Int, OD L = .int k := by
    rcases hov with rfl | ⟨k, rfl⟩
    · exact .inl ⟨rfl, rfl⟩
    · exact .inr ⟨_, rfl⟩
  generalize OD L = due at hK hov2 ⊢
  rcases (show (∃ x, ns = [x]) ∨ ∃ x y, ns = [x, y] by
    match ns, hnt with
    | [x], _ => exact .inl ⟨x, rfl⟩
    | [x, y], _ => exact .inr ⟨x, y, rfl⟩
    | [], h => simp at h
    | _ :: _ :: _ :: _, h => simp at h) with ⟨x, rfl⟩ | ⟨x, y, rfl⟩
  · rcases (show hs = [] ∨ (∃ A, hs = [A]) ∨ (∃ A B, hs = [A, B]) ∨ ∃ A B C, hs = [A, B, C] by
      match hs, hh with
      | [], _ => exact .inl rfl
      | [A], _ => exact .inr (.inl ⟨A, rfl⟩)
      | [A, B], _ => exact .inr (.inr (.inl ⟨A, B, rfl⟩))
      | [A, B, C], _ => exact .inr (.inr (.inr ⟨A, B, C, rfl⟩))
      | _ :: _ :: _ :: _ :: _, h => simp at h) with rfl | ⟨A, rfl⟩ | ⟨A, B, rfl⟩ | ⟨A, B, C, rfl⟩
    all_goals
      cbv
      refine UT 41 (by decide) (by decide) _ _ _ _ fun T a b c hT1 hT2 => ?_
      have hT3 := bnd T hT1 hT2
      cbv
      rw [hY.lc]
      cbv
      refine UL T hT1 hT3 _ _ _ _ fun ln lv a b c h1 h2 h3 => ?_
      obtain ⟨l1, hl1⟩ : ∃ z, lnD ln = .tup z := ⟨_, rfl⟩
      have e : linesD [x] [ln] = .tup [.tup [.str x, .tup l1]] := by
        show D.tup [.tup [.str x, lnD ln]] = _
        rw [hl1]
      have WW := fun hn R' => WW hn T [ln] hT1 hT3 rfl (fun z hz => by rw [List.mem_singleton.mp hz]; exact ⟨lv, h1, h2, h3⟩) R'
      rw [e] at WW
      rw [hl1]
      cbv
      rcases hov2 with ⟨rfl, hn⟩ | ⟨k, rfl⟩
      · cbv
        refine WW hn _ fun xs U5 => ?_
        obtain ⟨zd, hzd⟩ : ∃ z, spD xs = .tup z := ⟨_, rfl⟩
        rw [hzd] at U5 ⊢
        cbv
        refine U5 _ ?_
        cbv
        refine neq xs zd (by injection hzd) _ _ ?_
        cbv
        exact hK _ _ _ _ _
      · cbv
        exact hK _ _ _ _ _
  · rcases (show hs = [] ∨ (∃ A, hs = [A]) ∨ (∃ A B, hs = [A, B]) ∨ ∃ A B C, hs = [A, B, C] by
      match hs, hh with
      | [], _ => exact .inl rfl
      | [A], _ => exact .inr (.inl ⟨A, rfl⟩)
      | [A, B], _ => exact .inr (.inr (.inl ⟨A, B, rfl⟩))
      | [A, B, C], _ => exact .inr (.inr (.inr ⟨A, B, C, rfl⟩))
      | _ :: _ :: _ :: _ :: _, h => simp at h) with rfl | ⟨A, rfl⟩ | ⟨A, B, rfl⟩ | ⟨A, B, C, rfl⟩
    all_goals
      cbv
      refine UT 41 (by decide) (by decide) _ _ _ _ fun T a b c hT1 hT2 => ?_
      have hT3 := bnd T hT1 hT2
      cbv
      rw [hY.lc]
      cbv
      refine UL T hT1 hT3 _ _ _ _ fun ln lv a b c h1 h2 h3 => ?_
      obtain ⟨l1, hl1⟩ : ∃ z, lnD ln = .tup z := ⟨_, rfl⟩
      rw [hl1]
      cbv
      refine UL T hT1 hT3 _ _ _ _ fun ln2 lv2 a b c h4 h5 h6 => ?_
      obtain ⟨l2, hl2⟩ : ∃ z, lnD ln2 = .tup z := ⟨_, rfl⟩
      have e : linesD [x, y] [ln, ln2] = .tup [.tup [.str x, .tup l1], .tup [.str y, .tup l2]] := by
        show D.tup [.tup [.str x, lnD ln], .tup [.str y, lnD ln2]] = _
        rw [hl1, hl2]
      have WW := fun hn R' => WW hn T [ln, ln2] hT1 hT3 rfl (fun z hz => by
        rcases List.mem_cons.mp hz with rfl | hz
        · exact ⟨lv, h1, h2, h3⟩
        · rw [List.mem_singleton.mp hz]; exact ⟨lv2, h4, h5, h6⟩) R'
      rw [e] at WW
      rw [hl2]
      cbv
      rcases hov2 with ⟨rfl, hn⟩ | ⟨k, rfl⟩
      · cbv
        refine WW hn _ fun xs U5 => ?_
        obtain ⟨zd, hzd⟩ : ∃ z, spD xs = .tup z := ⟨_, rfl⟩
        rw [hzd] at U5 ⊢
        cbv
        refine U5 _ ?_
        cbv
        refine neq xs zd (by injection hzd) _ _ ?_
        cbv
        exact hK _ _ _ _ _
      · cbv
        exact hK _ _ _ _ _
end AL
end
section
set_option Elab.async false
set_option linter.all false
set_option maxRecDepth 100000
set_option maxHeartbeats 4000000
/-! S29: the law. -/
namespace AL
open PySem PySem.Spec PyProof.Rows L2
variable {Z : Ar} {Y : LY}
theorem pair_sh {ns : List Str} {ws : List (Wi Str)} (ok : NamesOk ns) (hg : ∀ w ∈ ws, w.good (· ∈ ns)) (hc : (ws.map Wi.cost).sum ≤ 4) (hs : ∀ w ∈ ws, w.size ≤ 9) (hl : ws.length ≤ 2) : ShOk 9 ns ws :=
  ⟨ok.nd, ok.sok, ok.two, hg, hc, hs, by
    have : ∀ ws : List (Wi Str), (∀ w ∈ ws, w.size ≤ 9) → (ws.map Wi.size).sum ≤ 9 * ws.length := fun ws => by
      induction ws with
      | nil => intro _; simp
      | cons w ws ih =>
        intro h
        have h1 := h w List.mem_cons_self
        have h2 := ih fun x hx => h x (List.mem_cons_of_mem _ hx)
        simp only [List.map_cons, List.sum_cons, List.length_cons]
        omega
    have := this ws hs
    omega, hl⟩
theorem two_mem {p : Wi Str → Prop} {w v : Wi Str} (h1 : p w) (h2 : p v) : ∀ x ∈ [w, v], p x := fun x hx => by
  rcases List.mem_cons.mp hx with rfl | hx
  · exact h1
  · rw [List.mem_singleton.mp hx]; exact h2
theorem one_mem {p : Wi Str → Prop} {w : Wi Str} (h1 : p w) : ∀ x ∈ [w], p x := fun x hx => by rw [List.mem_singleton.mp hx]; exact h1
section
variable {ns : List Str} {w v : Wi Str}
theorem sh_wv (hp : PairOk ns w v) : ShOk 9 ns [w, v] := pair_sh hp.ok (two_mem hp.gw hp.gv) (by have := hp.cost; simpa using this) (two_mem (by have := hp.sw; omega) (by have := hp.sv; omega)) (by simp)
theorem sh_vw (hp : PairOk ns w v) : ShOk 9 ns [v, w] := pair_sh hp.ok (two_mem hp.gv hp.gw) (by have := hp.cost; simp; omega) (two_mem (by have := hp.sv; omega) (by have := hp.sw; omega)) (by simp)
theorem sh_nn (hp : PairOk ns w v) : ShOk 9 ns [.not w, .not v] := pair_sh hp.ok (two_mem hp.gw hp.gv) (by have := hp.cost; simp [Wi.cost]; omega) (two_mem (by have := hp.sw; simp only [Wi.size]; omega) (by have := hp.sv; simp only [Wi.size]; omega)) (by simp)
theorem sh_ww (hp : PairOk ns w v) : ShOk 9 ns [w, w] := pair_sh hp.ok (two_mem hp.gw hp.gw) (by have := hp.cw; simp; omega) (two_mem (by have := hp.sw; omega) (by have := hp.sw; omega)) (by simp)
theorem sh_l (hp : PairOk ns w v) : ShOk 9 ns [.both w (.not v)] := pair_sh hp.ok (one_mem ⟨hp.gw, hp.gv⟩) (by have := hp.cost; simp [Wi.cost]; omega) (one_mem (by have := hp.sw; have := hp.sv; simp only [Wi.size]; omega)) (by simp)
theorem sh_r (hp : PairOk ns w v) : ShOk 9 ns [.both (.not w) v] := pair_sh hp.ok (one_mem ⟨hp.gw, hp.gv⟩) (by have := hp.cost; simp [Wi.cost]; omega) (one_mem (by have := hp.sw; have := hp.sv; simp only [Wi.size]; omega)) (by simp)
end
theorem law_rest {F1 F4 F5 F6 : PFs} {F2 F3 : BFs} (hZ : ArOk Z) (hY : YOk Y) (U1 : U_when 9 F1) (U2 : U_line F2) (U3 : U_take F3) (U4 : U_told 9 F4) (U5 : U_same F5) (U6 : U_due 9 F6) {ns : List Str} {w v : Wi Str} (hp : PairOk ns w v) {hs : List AO} (hh : hs.length ≤ 3)
    {s0 s1 u6 u7 u8 u9 u10 u11 : Option AV} {a b c : Int} {K : En → AH → Prop} {R : D → Prop}
    (hK : ∀ u7 u8 u9 u10 (a b c : Int), K [s0, s1, some (.ref hs.length), some (.dat (.lst (ns.map .str))), some (.dat (encW w)), some (.dat (encW v)), u6, u7, u8, u9, u10, u11] (hs ++ [.lst (boxL a b c)])) :
    (sSeq (sAsg (eCallF 3 F6 (aCons (eV 3) (aCons (eV 4) (aCons (eV 5) aNil)))) (gN 7))
    (sSeq (sIf (tOr (tNot (tst (eCallF 2 F5 (aCons (eCallF 3 F4 (aCons (eV 3) (aCons (eV 4) (aCons (eV 5) aNil)))) (aCons (eV 7) aNil))))) (tNot (tst (eCallF 2 F5 (aCons (eCallF 3 F4 (aCons (eV 3) (aCons (eV 5) (aCons (eV 4) aNil)))) (aCons (eV 7) aNil)))))) (sRet (eC (.bl false))) sNext)
    (sSeq (sIf (tNot (tst (eCallF 2 F5 (aCons (eCallF 3 F4 (aCons (eV 3) (aCons (eTup (aCons (eC (.str "not")) (aCons (eV 4) aNil))) (aCons (eTup (aCons (eC (.str "not")) (aCons (eV 5) aNil))) aNil)))) (aCons (eV 7) aNil))))) (sRet (eC (.bl false))) sNext)
    (sSeq (sIf (tst (eOp (rIsN true) (eCallF 3 F4 (aCons (eV 3) (aCons (eV 4) (aCons (eV 4) aNil)))) (eC .non))) (sRet (eC (.bl false))) sNext)
    (sForY Y (iRg1Y Y (aCons (eC (.int 5)) aNil)) (gN 8) (sSeq (sAsg (eCallB 2 F3 (aCons (eV 2) (aCons (eC (.int 41)) aNil))) (gN 9))
    (sSeq (sAsg (eCall rTuple (aCons (eLcY Y (iSeq (eV 3)) (.nm 11) tYes (eTup (aCons (eV 11) (aCons (eCallB 2 F2 (aCons (eV 2) (aCons (eV 9) aNil))) aNil)))) aNil)) (gN 10))
    (sIf (tAnd (tst (eOp (rIsN false) (eV 7) (eC .non))) (tst (eOp (rEqN true) (eCallF 2 F1 (aCons (eV 10) (aCons (eV 4) aNil))) (eCallF 2 F1 (aCons (eV 10) (aCons (eV 5) aNil)))))) (sRet (eC (.bl false))) sNext))))))))
      K (finA 0 fun d _ => R d) [s0, s1, some (.ref hs.length), some (.dat (.lst (ns.map .str))), some (.dat (encW w)), some (.dat (encW v)), u6, u7, u8, u9, u10, u11] (hs ++ [.lst (boxL a b c)]) := by
  have turn := fun L hL k u9 u10 a b c K' hK' => law_turn (Z := Z) (F1 := F1) (F2 := F2) (F3 := F3) hZ hY U1 U2 U3 hp (L := L) hL hh (s0 := s0) (s1 := s1) (u6 := u6) (u9 := u9) (u10 := u10) (u11 := u11) (k := k) (a := a) (b := b) (c := c) (K := K') (R := R) hK'
  have UD : ∀ R' : D → Prop, (∀ L, Least ns [w, v] L → R' (OD L)) → F6 [.lst (ns.map .str), encW w, encW v] R' := fun R' h => U6 ns w v R' (sh_l hp) (sh_r hp) fun L1 L2 h1 h2 => h _ (least_min h1 h2)
  have T1 : ∀ L, Least ns [w, v] L → ∀ R' : D → Prop, R' (OD L) → F4 [.lst (ns.map .str), encW w, encW v] R' := fun L hL R' h => U4 ns w v R' (sh_wv hp) fun L' h' => by
    rw [least_uniq (fun _ _ => rfl) h' hL]; exact h
  have T2 : ∀ L, Least ns [w, v] L → ∀ R' : D → Prop, R' (OD L) → F4 [.lst (ns.map .str), encW v, encW w] R' := fun L hL R' h => U4 ns v w R' (sh_vw hp) fun L' h' => by
    rw [least_swap h' hL]; exact h
  have T3 : ∀ L, Least ns [w, v] L → ∀ R' : D → Prop, R' (OD L) → F4 [.lst (ns.map .str), .tup [.str "not", encW w], .tup [.str "not", encW v]] R' := fun L hL R' h => U4 ns (.not w) (.not v) R' (sh_nn hp) fun L' h' => by
    rw [least_nots h' hL]; exact h
  have T4 : ∀ R' : D → Prop, R' .non → F4 [.lst (ns.map .str), encW w, encW w] R' := fun R' h => U4 ns w w R' (sh_ww hp) fun L' h' => by
    rw [least_self h']; exact h
  clear U1 U2 U3 U4 U6 hp hh
  -- the loop over catches
  have loop : ∀ L, Least ns [w, v] L → ∀ u8 u9 u10 (a b c : Int), loopA (gN 8) (sSeq (sAsg (eCallB 2 F3 (aCons (eV 2) (aCons (eC (.int 41)) aNil))) (gN 9))
    (sSeq (sAsg (eCall rTuple (aCons (eLcY Y (iSeq (eV 3)) (.nm 11) tYes (eTup (aCons (eV 11) (aCons (eCallB 2 F2 (aCons (eV 2) (aCons (eV 9) aNil))) aNil)))) aNil)) (gN 10))
    (sIf (tAnd (tst (eOp (rIsN false) (eV 7) (eC .non))) (tst (eOp (rEqN true) (eCallF 2 F1 (aCons (eV 10) (aCons (eV 4) aNil))) (eCallF 2 F1 (aCons (eV 10) (aCons (eV 5) aNil)))))) (sRet (eC (.bl false))) sNext))) K (finA 0 fun d _ => R d) (rgD 0 1 (5 : Int).toNat) [s0, s1, some (.ref hs.length), some (.dat (.lst (ns.map .str))), some (.dat (encW w)), some (.dat (encW v)), u6, some (.dat (OD L)), u8, u9, u10, u11] (hs ++ [.lst (boxL a b c)]) := by
    intro L hL u8 u9 u10 a b c
    refine loop_of (fun i ρ h => ∃ (u8 u9 u10 : Option AV) (a b c : Int), ρ = [s0, s1, some (.ref hs.length), some (.dat (.lst (ns.map .str))), some (.dat (encW w)), some (.dat (encW v)), u6, some (.dat (OD L)), u8, u9, u10, u11] ∧ h = hs ++ [.lst (boxL a b c)]) ?step ?last _ _ ?init
    case init => exact ⟨_, _, _, _, _, _, rfl, rfl⟩
    case last =>
      rintro _ _ ⟨u8, u9, u10, a, b, c, rfl, rfl⟩
      exact hK _ _ _ _ _ _ _
    case step =>
      rintro i dd K' _ _ hd hK' ⟨u8, u9, u10, a, b, c, rfl, rfl⟩
      obtain ⟨hi, rfl⟩ := rgD_get hd
      exact turn L hL _ u9 u10 a b c K' fun u9 u10 a b c => hK' _ _ ⟨_, _, _, _, _, _, rfl, rfl⟩
  clear turn hK
  revert loop
  generalize (sSeq (sAsg (eCallB 2 F3 (aCons (eV 2) (aCons (eC (.int 41)) aNil))) (gN 9))
    (sSeq (sAsg (eCall rTuple (aCons (eLcY Y (iSeq (eV 3)) (.nm 11) tYes (eTup (aCons (eV 11) (aCons (eCallB 2 F2 (aCons (eV 2) (aCons (eV 9) aNil))) aNil)))) aNil)) (gN 10))
    (sIf (tAnd (tst (eOp (rIsN false) (eV 7) (eC .non))) (tst (eOp (rEqN true) (eCallF 2 F1 (aCons (eV 10) (aCons (eV 4) aNil))) (eCallF 2 F1 (aCons (eV 10) (aCons (eV 5) aNil)))))) (sRet (eC (.bl false))) sNext))) = BODY
  intro loop
  have loop := fun L hL u8 u9 u10 => loop L hL u8 u9 u10 a b c
  generalize hs ++ [AO.lst (boxL a b c)] = H0 at loop ⊢
  generalize hs.length = hj at loop ⊢
  obtain ⟨nd, hnd⟩ : ∃ x, ns.map D.str = x := ⟨_, rfl⟩
  obtain ⟨ew, hew⟩ : ∃ x, encW w = x := ⟨_, rfl⟩
  obtain ⟨ev', hev⟩ : ∃ x, encW v = x := ⟨_, rfl⟩
  rw [hnd, hew, hev] at UD T1 T2 T3 loop
  rw [hnd, hew] at T4
  rw [hnd, hew, hev]
  cbv
  refine UD _ fun L hL => ?_
  have T1 := T1 L hL
  have T2 := T2 L hL
  have T3 := T3 L hL
  have US := U5 L
  have loop := loop L hL
  clear UD U5 hL
  generalize OD L = due at T1 T2 T3 US loop ⊢
  cbv
  refine T1 _ ?_
  cbv
  refine US _ ?_
  cbv
  refine T2 _ ?_
  cbv
  refine US _ ?_
  cbv
  refine T3 _ ?_
  cbv
  refine US _ ?_
  cbv
  refine T4 _ ?_
  cbv
  rw [hY.rok, hY.rng, hY.loop]
  refine ⟨by decide, ?_⟩
  exact loop _ _ _
end AL
end
section
set_option Elab.async false
set_option linter.all false
set_option maxRecDepth 100000
set_option maxHeartbeats 8000000
/-! S30: the law. -/
namespace AL
open PySem PySem.Spec PyProof.Rows L2
variable {Z : Ar} {Y : LY}
theorem size_pos (w : Wi Str) : 1 ≤ w.size := by cases w <;> simp only [Wi.size] <;> omega
theorem pair_plain {ns : List Str} {w v : Wi Str} (ok : NamesOk ns) (h1 : w.good (· ∈ ns)) (h2 : v.good (· ∈ ns)) (h3 : (w.size : Int) ≤ 2) (h4 : (v.size : Int) ≤ 4 - w.size) : PairOk ns w v := by
  have := w.cost_le
  have := v.cost_le
  have := size_pos w
  exact ⟨ok, h1, h2, by omega, by omega, by omega, by omega⟩
theorem pair_some {ns : List Str} {w : Wi Str} (ok : NamesOk ns) (h1 : w.good (· ∈ ns)) (h3 : (w.size : Int) = 1) : PairOk ns w (.ago 0 w) ∧ PairOk ns w (.not (.not w)) ∧ PairOk ns w (.either w w) ∧ PairOk ns w (.since w w) := by
  have := w.cost_le
  refine ⟨⟨ok, h1, ⟨by omega, h1⟩, ?_, by omega, by omega, ?_⟩, ⟨ok, h1, h1, ?_, by omega, by omega, ?_⟩, ⟨ok, h1, ⟨h1, h1⟩, ?_, by omega, by omega, ?_⟩, ⟨ok, h1, ⟨h1, h1⟩, ?_, by omega, by omega, ?_⟩⟩
  all_goals
    simp only [Wi.cost, Wi.size]
    omega
def F_law : PFs := fun ds R => ∃ sc : List Int, ds = [.lst (sc.map .int)] ∧ R (.bl true)
theorem sp_law {F1 F4 F5 F6 F7 F10 : PFs} {F2 F3 F8 F9 : BFs} (hZ : ArOk Z) (hY : YOk Y) (U1 : U_when 9 F1) (U2 : U_line F2) (U3 : U_take F3) (U4 : U_told 9 F4) (U5 : U_same F5) (U6 : U_due 9 F6) (U7 : U_size 3 F7) (U8 : U_small 3 F8) (U9 : U_names F9) (U10 : U_box F10) :
    SpecP 1 12 (d_law Z Y F1 F2 F3 F4 F5 F6 F7 F8 F9 F10) F_law := by
  rintro _ R _ ⟨sc, rfl, q⟩
  have UT := fun (many : Int) h1 h2 a b c R h3 => U3 many a b c R h1 h2 h3
  have UN := fun (many : Int) h1 a b c R h3 => U9 many a b c R h1 h3
  have US := fun (ns : List Str) ok (room : Int) h1 h2 h3 a b c R h4 => U8 ns room a b c R ok h1 h2 h3 h4
  have UB := fun (k : Nat) h1 R' h2 => U10 sc k R' h1 h2
  have rest := fun (ns : List Str) (w v : Wi Str) hp (hs : List AO) hh s0 s1 u6 u7 u8 u9 u10 u11 a b c K hK => law_rest (Z := Z) (F1 := F1) (F2 := F2) (F3 := F3) (F4 := F4) (F5 := F5) (F6 := F6) hZ hY U1 U2 U3 U4 U5 U6 (ns := ns) (w := w) (v := v) hp (hs := hs) hh (s0 := s0) (s1 := s1) (u6 := u6) (u7 := u7) (u8 := u8) (u9 := u9) (u10 := u10) (u11 := u11) (a := a) (b := b) (c := c) (K := K) (R := R) hK
  unfold d_law
  revert rest
  generalize (sSeq (sAsg (eCallF 3 F6 (aCons (eV 3) (aCons (eV 4) (aCons (eV 5) aNil)))) (gN 7))
    (sSeq (sIf (tOr (tNot (tst (eCallF 2 F5 (aCons (eCallF 3 F4 (aCons (eV 3) (aCons (eV 4) (aCons (eV 5) aNil)))) (aCons (eV 7) aNil))))) (tNot (tst (eCallF 2 F5 (aCons (eCallF 3 F4 (aCons (eV 3) (aCons (eV 5) (aCons (eV 4) aNil)))) (aCons (eV 7) aNil)))))) (sRet (eC (.bl false))) sNext)
    (sSeq (sIf (tNot (tst (eCallF 2 F5 (aCons (eCallF 3 F4 (aCons (eV 3) (aCons (eTup (aCons (eC (.str "not")) (aCons (eV 4) aNil))) (aCons (eTup (aCons (eC (.str "not")) (aCons (eV 5) aNil))) aNil)))) (aCons (eV 7) aNil))))) (sRet (eC (.bl false))) sNext)
    (sSeq (sIf (tst (eOp (rIsN true) (eCallF 3 F4 (aCons (eV 3) (aCons (eV 4) (aCons (eV 4) aNil)))) (eC .non))) (sRet (eC (.bl false))) sNext)
    (sForY Y (iRg1Y Y (aCons (eC (.int 5)) aNil)) (gN 8) (sSeq (sAsg (eCallB 2 F3 (aCons (eV 2) (aCons (eC (.int 41)) aNil))) (gN 9))
    (sSeq (sAsg (eCall rTuple (aCons (eLcY Y (iSeq (eV 3)) (.nm 11) tYes (eTup (aCons (eV 11) (aCons (eCallB 2 F2 (aCons (eV 2) (aCons (eV 9) aNil))) aNil)))) aNil)) (gN 10))
    (sIf (tAnd (tst (eOp (rIsN false) (eV 7) (eC .non))) (tst (eOp (rEqN true) (eCallF 2 F1 (aCons (eV 10) (aCons (eV 4) aNil))) (eCallF 2 F1 (aCons (eV 10) (aCons (eV 5) aNil)))))) (sRet (eC (.bl false))) sNext)))))))) = RS
  intro rest
  unfold boxL at UT UN US UB rest
  clear U1 U2 U3 U4 U5 U6 U8 U9 U10
  obtain ⟨sd, hsd⟩ : ∃ x, sc.map D.int = x := ⟨_, rfl⟩
  have hmx : -(2 ^ 62) ≤ max (2 : Int) (min 4 (sd.length : Int)) ∧ max (2 : Int) (min 4 (sd.length : Int)) < 2 ^ 62 ∧ (max (2 : Int) (min 4 (sd.length : Int))).toNat ≤ 4 := by omega
  rw [hsd] at UB ⊢
  have b2 : ∀ r : Int, 0 ≤ r → r < 2 → 1 ≤ 1 + r ∧ 1 + r ≤ ((3 : Nat) : Int) ∧ 1 + r ≤ 3 ∧ 1 + r ≤ 2 := fun r h1 h2 => by omega
  have b4 : ∀ w : Wi Str, (w.size : Int) ≤ 2 → 1 ≤ 4 - (w.size : Int) ∧ 4 - (w.size : Int) ≤ ((3 : Nat) : Int) ∧ 4 - (w.size : Int) ≤ 3 ∧ w.size ≤ 3 := fun w h => by
    have := size_pos w
    omega
  have p11 : Z .plus 1 1 = 2 := hZ.plus _ _
  have p10 : Z .plus 1 0 = 1 := hZ.plus _ _
  cbv
  rw [hY.rok, hZ.mx, hZ.mn, hY.len]
  refine ⟨⟨hmx.1, hmx.2.1⟩, ?_⟩
  rw [hY.loop, hY.rng]
  obtain ⟨mn, hmn⟩ : ∃ x, (max (2 : Int) (min 4 (sd.length : Int))).toNat = x := ⟨_, rfl⟩
  have hmn4 : mn ≤ 4 := hmn ▸ hmx.2.2
  rw [hmn]
  clear hmx hmn
  refine loop_of (fun i ρ h => ∃ u1 u2 u3 u4 u5 u6 u7 u8 u9 u10 u11, ρ = [some (.dat (.lst sd)), u1, u2, u3, u4, u5, u6, u7, u8, u9, u10, u11] ∧ h.length = i) ?step ?last _ _ ?init
  case init => exact ⟨_, _, _, _, _, _, _, _, _, _, _, rfl, rfl⟩
  case last =>
    rintro _ h ⟨u1, u2, u3, u4, u5, u6, u7, u8, u9, u10, u11, rfl, hl⟩
    exact ⟨_, rfl, rfl, q⟩
  case step =>
    rintro i dd K _ hs hd hK ⟨u1, u2, u3, u4, u5, u6, u7, u8, u9, u10, u11, rfl, hl⟩
    obtain ⟨hi, rfl⟩ := rgD_get hd
    have ei : (0 : Int) + (i : Nat) * 1 = ((i : Nat) : Int) := by omega
    rw [ei]
    have hi3 : hs.length ≤ 3 := by omega
    have UB := UB i (by omega)
    obtain ⟨ki, hki⟩ : ∃ x : Int, ((i : Nat) : Int) = x := ⟨_, rfl⟩
    have UB : ∀ R' : D → Prop, (∀ a b c, R' (.lst [.int a, .int b, .int c])) → F10 [.lst sd, .int ki] R' := fun R' h => by
      have h2 := UB R' h
      rw [← hki]
      exact h2
    have hK : ∀ u1 u2 u3 u4 u5 u6 u7 u8 u9 u10 u11 (a b c : Int), K [some (.dat (.lst sd)), u1, u2, u3, u4, u5, u6, u7, u8, u9, u10, u11] (hs ++ [.lst [.int a, .int b, .int c]]) := fun u1 u2 u3 u4 u5 u6 u7 u8 u9 u10 u11 a b c => hK _ _ ⟨_, _, _, _, _, _, _, _, _, _, _, rfl, by simp [hl]⟩
    have rest := fun ns w v hp s1 u6 u7 u8 u9 u10 u11 a b c => rest ns w v hp hs hi3 (some (.dat (.lst sd))) s1 u6 u7 u8 u9 u10 u11 a b c K fun u7 u8 u9 u10 a b c => hK _ _ _ _ _ _ _ _ _ _ _ a b c
    clear hd hl hK ei
    rw [hki]
    clear hi hki
    rcases (show hs = [] ∨ (∃ A, hs = [A]) ∨ (∃ A B, hs = [A, B]) ∨ ∃ A B C, hs = [A, B, C] by
      match hs, hi3 with
      | [], _ => exact .inl rfl
      | [A], _ => exact .inr (.inl ⟨A, rfl⟩)
      | [A, B], _ => exact .inr (.inr (.inl ⟨A, B, rfl⟩))
      | [A, B, C], _ => exact .inr (.inr (.inr ⟨A, B, C, rfl⟩))
      | _ :: _ :: _ :: _ :: _, h => simp at h) with rfl | ⟨A, rfl⟩ | ⟨A, B, rfl⟩ | ⟨A, B, C, rfl⟩
    all_goals
      cbv
      refine UB _ fun a b c => ?_
      cbv
      refine UT 3 (by decide) (by decide) _ _ _ _ fun r a b c _ _ => ?_
      have many : ∃ m : Int, (m = 1 ∨ m = 2) ∧ Z .plus 1 (if decide (r = 0) = true then 1 else 0) = m := by
        by_cases h : r = 0
        · exact ⟨2, .inr rfl, by rw [decide_eq_true h]; exact p11⟩
        · exact ⟨1, .inl rfl, by rw [decide_eq_false h]; exact p10⟩
      obtain ⟨m, hm, hme⟩ := many
      cbv
      rw [hme]
      refine UN m hm _ _ _ _ fun ns a b c ok _ => ?_
      have rest := rest ns
      have US := US ns ok
      have ps := fun w h1 h2 => pair_some (w := w) ok h1 h2
      have pp := fun w v h1 h2 h3 h4 => pair_plain (w := w) (v := v) ok h1 h2 h3 h4
      generalize ns.map D.str = nd at rest US ⊢
      cbv
      refine UT 2 (by decide) (by decide) _ _ _ _ fun r a b c hr1 hr2 => ?_
      obtain ⟨h1, h2, h3, h22⟩ := b2 r hr1 hr2
      rw [← hZ.plus] at h1 h2 h3 h22
      cbv
      refine US _ h1 h2 h3 _ _ _ _ fun w a b c hgw hsw => ?_
      have hsw2 : (w.size : Int) ≤ 2 := Int.le_trans hsw h22
      obtain ⟨h4, h5, h6, h7⟩ := b4 w hsw2
      have U7 := fun R' => U7 w R' h7
      have ps := ps w hgw
      have pp := fun v h1 h2 => pp w v hgw h1 hsw2 h2
      have rest := rest w
      have es : encW (.ago 0 w) = .tup [.str "ago", .int 0, encW w] ∧ encW (.not (.not w)) = .tup [.str "not", .tup [.str "not", encW w]] ∧ encW (.either w w) = .tup [.str "either", encW w, encW w] ∧ encW (.since w w) = .tup [.str "since", encW w, encW w] := ⟨rfl, rfl, rfl, rfl⟩
      obtain ⟨e1, e2, e3, e4⟩ := es
      obtain ⟨ew, hew⟩ : ∃ x, encW w = x := ⟨_, rfl⟩
      rw [hew] at rest U7 e1 e2 e3 e4 ⊢
      obtain ⟨ws, hws⟩ : ∃ x : Int, ((w.size : Nat) : Int) = x := ⟨_, rfl⟩
      have hws' : ∀ R' : D → Prop, R' (.int ws) → F7 [ew] R' := fun R' h => U7 R' (by rw [← hws] at h; exact h)
      have ps : ws = 1 → _ := fun h => ps (by rw [← h]; exact hws)
      have hmi : Z .minus 4 ws = 4 - ws := hZ.minus _ _
      have pp : ∀ v : Wi Str, v.good (· ∈ ns) → (v.size : Int) ≤ 4 - ws → PairOk ns w v := fun v h1 h2 => pp v h1 (by rw [← hws] at h2; exact h2)
      have h4 : 1 ≤ 4 - ws := by rw [← hws]; exact h4
      have h5 : 4 - ws ≤ ((3 : Nat) : Int) := by rw [← hws]; exact h5
      have h6 : 4 - ws ≤ 3 := by rw [← hws]; exact h6
      clear U7 hws
      generalize 4 - ws = room at hmi pp h4 h5 h6
      cbv
      refine hws' _ ?_
      cbv
      rw [hmi]
      refine US _ h4 h5 h6 _ _ _ _ fun v a b c hgv hsv => ?_
      have plain := fun u1 u6 u7 u8 u9 u10 u11 a b c => rest v (pp v hgv hsv) u1 u6 u7 u8 u9 u10 u11 a b c
      generalize encW v = ev' at plain ⊢
      cbv
      refine UT 3 (by decide) (by decide) _ _ _ _ fun r3 a b c _ _ => ?_
      cbv
      by_cases hr3 : r3 = 0
      · rw [decide_eq_true hr3]
        cbv
        refine hws' _ ?_
        cbv
        by_cases hw1 : ws = 1
        · obtain ⟨p1, p2, p3, p4⟩ := ps hw1
          rw [decide_eq_true hw1]
          have r1 := fun u1 u6 u7 u8 u9 u10 u11 a b c => rest _ p1 u1 u6 u7 u8 u9 u10 u11 a b c
          have r2 := fun u1 u6 u7 u8 u9 u10 u11 a b c => rest _ p2 u1 u6 u7 u8 u9 u10 u11 a b c
          have r3 := fun u1 u6 u7 u8 u9 u10 u11 a b c => rest _ p3 u1 u6 u7 u8 u9 u10 u11 a b c
          have r4 := fun u1 u6 u7 u8 u9 u10 u11 a b c => rest _ p4 u1 u6 u7 u8 u9 u10 u11 a b c
          rw [e1] at r1
          rw [e2] at r2
          rw [e3] at r3
          rw [e4] at r4
          cbv
          refine UT 4 (by decide) (by decide) _ _ _ _ fun j a b c hj1 hj2 => ?_
          have hj : j = 0 ∨ j = 1 ∨ j = 2 ∨ j = 3 := by omega
          rcases hj with rfl | rfl | rfl | rfl
          all_goals
            cbv
            rw [hY.at_]
            cbv
            first
              | exact r1 _ _ _ _ _ _ _ _ _ _
              | exact r2 _ _ _ _ _ _ _ _ _ _
              | exact r3 _ _ _ _ _ _ _ _ _ _
              | exact r4 _ _ _ _ _ _ _ _ _ _
        · rw [decide_eq_false hw1]
          cbv
          exact plain _ _ _ _ _ _ _ _ _ _
      · rw [decide_eq_false hr3]
        cbv
        exact plain _ _ _ _ _ _ _ _ _ _
end AL
end
section
set_option Elab.async false
set_option linter.all false
set_option maxRecDepth 100000
set_option maxHeartbeats 1000000
namespace AL
open PySem PySem.Spec PyProof.Rows L2
def topS (i : Nat) : Stmt := PySem.Challenge.pw_wirelooker_k79_whole_unlike_by_soonest.main.body.getD i (.Pass ⟨0, 0, 0, 0⟩)
/-- the built-ins' names are no names of the module -/
structure BT (mg : Str → Option Value) : Prop where
  len : mg "len" = none
  sum : mg "sum" = none
  any : mg "any" = none
  int : mg "int" = none
  max : mg "max" = none
  min : mg "min" = none
  tuple : mg "tuple" = none
  list : mg "list" = none
  range : mg "range" = none
  zip : mg "zip" = none
  enumerate : mg "enumerate" = none
  sorted : mg "sorted" = none
  dict : mg "dict" = none
  isinstance : mg "isinstance" = none
  bool : mg "bool" = none
variable {P : Program} {w : World} {K : PySem.W.Frag} {mg : Str → Option Value} {base : Heap} {C : Addr}
def lcScope : List Stmt → Scope
  | [.Return (some (.Call _ [.ListComp _ _ sc _] _ _)) _] => sc
  | _ => defScope (.Pass ⟨0, 0, 0, 0⟩)
/-! long_of -/
abbrev s_long_of : Stmt := topS 3
abbrev N_long_of : List Str := ["line", "level", "long"]
theorem sc_long_of : FnScope N_long_of ["line"] (defScope s_long_of) := ⟨rfl, rfl, rfl, by decide +kernel, rfl, by decide +kernel, by decide +kernel⟩
theorem b_long_of {f : Addr} {cdv : Value} {A : Around} {outer : List Env} {s : Shared} {H : Hp} {E : XK} (B : BT mg) (hr : Room 0 (DX P w K mg base N_long_of "long_of" s_long_of f cdv A outer s H E).A) :
    MSs (DX P w K mg base N_long_of "long_of" s_long_of f cdv A outer s H E) C (defBody s_long_of) (d_long_of realA realY ) :=
    (mss_one (ms_ret (me_callB (c_sumY rfl) B.sum (ma_cons (me_lc (own := [("level", 1), ("long", 2)]) (t := (.tp [1, 2])) rfl sc_long_of.nd (mi_tup (me_v 0)) (blkOk_by (N := N_long_of) (sc := defScope s_long_of) (by decide +kernel)) rfl (fun _ _ _ _ _ => tg_tup rfl (tgs_cons (i := 1) sc_long_of.nd (tgs_cons (i := 2) sc_long_of.nd tgs_nil))) (fun _ _ _ _ _ => mts_nil) (fun _ _ _ _ _ => (me_v 2))) ma_nil))))
/-! placed -/
abbrev s_placed : Stmt := topS 4
abbrev N_placed : List Str := ["line", "found", "here", "level", "long"]
theorem sc_placed : FnScope N_placed ["line"] (defScope s_placed) := ⟨rfl, rfl, rfl, by decide +kernel, rfl, by decide +kernel, by decide +kernel⟩
theorem b_placed {f : Addr} {cdv : Value} {A : Around} {outer : List Env} {s : Shared} {H : Hp} {E : XK} (B : BT mg) (hr : Room 0 (DX P w K mg base N_placed "placed" s_placed f cdv A outer s H E).A) :
    MSs (DX P w K mg base N_placed "placed" s_placed f cdv A outer s H E) C (defBody s_placed) (d_placed realA realY ) :=
    (mss_cons (ms_par (i := 1) (j := 2) rfl sc_placed.nd (ma_cons (me_lstM ma_nil) (ma_cons me_int ma_nil)))
    (mss_cons (ms_for PassesOwn.never rfl (mi_tup (me_v 0)) (mg_tup (n := 2) rfl (mgs_cons (mg_name (i := 3) sc_placed.nd) (mgs_cons (mg_name (i := 4) sc_placed.nd) mgs_nil))) (mss_cons (ms_expr (me_append (me_v 1) (ma_cons (me_tup (ma_cons (me_v 3) (ma_cons (me_v 2) (ma_cons (me_op o_addY (me_v 2) (me_v 4)) ma_nil)))) ma_nil)))
    (mss_one (ms_augadd (i := 2) sc_placed.nd (me_v 4)))))
    (mss_one (ms_ret (me_v 1)))))
/-! highs -/
abbrev s_highs : Stmt := topS 6
abbrev N_highs : List Str := ["line", "level", "begin", "end"]
theorem sc_highs : FnScope N_highs ["line"] (defScope s_highs) := ⟨rfl, rfl, rfl, by decide +kernel, rfl, by decide +kernel, by decide +kernel⟩
theorem b_highs {f : Addr} {cdv : Value} {A : Around} {outer : List Env} {s : Shared} {H : Hp} {E : XK} {F_placed : PFs} (B : BT mg) (h_placed : HasF P w K mg base C 1 "placed" 1 (pF F_placed)) (hr : Room 1 (DX P w K mg base N_highs "highs" s_highs f cdv A outer s H E).A) :
    MSs (DX P w K mg base N_highs "highs" s_highs f cdv A outer s H E) C (defBody s_highs) (d_highs realA realY F_placed) :=
    (mss_one (ms_ret (me_callT c_tuple B.tuple (ma_cons (me_lc (own := [("level", 1), ("begin", 2), ("end", 3)]) (t := (.tp [1, 2, 3])) rfl sc_highs.nd (mi_list (me_callF h_placed (hr.mono (by decide)) (ma_cons (me_v 0) ma_nil))) (blkOk_by (N := N_highs) (sc := defScope s_highs) (by decide +kernel)) rfl (fun _ _ _ _ _ => tg_tup rfl (tgs_cons (i := 1) sc_highs.nd (tgs_cons (i := 2) sc_highs.nd (tgs_cons (i := 3) sc_highs.nd tgs_nil)))) (fun _ _ _ _ _ => mts_one (mt_cmp (o_eq hr.units) (me_v 1) me_int)) (fun _ _ _ _ _ => (me_tup (ma_cons (me_v 2) (ma_cons (me_v 3) ma_nil))))) ma_nil))))
/-! runs_of -/
abbrev s_runs_of : Stmt := topS 7
abbrev N_runs_of : List Str := ["pieces", "found", "level", "long"]
theorem sc_runs_of : FnScope N_runs_of ["pieces"] (defScope s_runs_of) := ⟨rfl, rfl, rfl, by decide +kernel, rfl, by decide +kernel, by decide +kernel⟩
theorem b_runs_of {f : Addr} {cdv : Value} {A : Around} {outer : List Env} {s : Shared} {H : Hp} {E : XK} (B : BT mg) (hr : Room 0 (DX P w K mg base N_runs_of "runs_of" s_runs_of f cdv A outer s H E).A) :
    MSs (DX P w K mg base N_runs_of "runs_of" s_runs_of f cdv A outer s H E) C (defBody s_runs_of) (d_runs_of realA realY ) :=
    (mss_cons (ms_set (i := 1) sc_runs_of.nd (me_lstM ma_nil))
    (mss_cons (ms_for PassesOwn.never rfl (mi_list (me_v 0)) (mg_tup (n := 2) rfl (mgs_cons (mg_name (i := 2) sc_runs_of.nd) (mgs_cons (mg_name (i := 3) sc_runs_of.nd) mgs_nil))) (mss_one (ms_if (PW.pt (mw_and (mt_cmp o_gtZ (me_v 3) me_int) (mw_and (mt_cmp o_gtZ (me_callB (c_lenY) B.len (ma_cons (me_v 1) ma_nil)) me_int) (mw_and1 (mt_cmp (o_eq hr.units) (me_ixY (me_ixY (me_v 1) (me_un u_neg me_int)) me_int) (me_v 2)))))) (mss_one (ms_asg (me_tup (ma_cons (me_v 2) (ma_cons (me_op o_addY (me_ixY (me_ixY (me_v 1) (me_un u_neg me_int)) me_int) (me_v 3)) ma_nil))) (mg_sub (me_v 1) (me_un u_neg me_int) p_setLY))) (mss_one (ms_if (mt_cmp o_gtZ (me_v 3) me_int) (mss_one (ms_expr (me_append (me_v 1) (ma_cons (me_tup (ma_cons (me_v 2) (ma_cons (me_v 3) ma_nil))) ma_nil)))) mss_nil)))))
    (mss_one (ms_ret (me_callT c_tuple B.tuple (ma_cons (me_v 1) ma_nil))))))
/-! comings -/
abbrev s_comings : Stmt := topS 8
abbrev N_comings : List Str := ["line", "level", "own", "begin", "end"]
theorem sc_comings : FnScope N_comings ["line", "level"] (defScope s_comings) := ⟨rfl, rfl, rfl, by decide +kernel, rfl, by decide +kernel, by decide +kernel⟩
theorem b_comings {f : Addr} {cdv : Value} {A : Around} {outer : List Env} {s : Shared} {H : Hp} {E : XK} {F_placed : PFs} (B : BT mg) (h_placed : HasF P w K mg base C 1 "placed" 1 (pF F_placed)) (hr : Room 1 (DX P w K mg base N_comings "comings" s_comings f cdv A outer s H E).A) :
    MSs (DX P w K mg base N_comings "comings" s_comings f cdv A outer s H E) C (defBody s_comings) (d_comings realA realY F_placed) :=
    (mss_one (ms_ret (me_callT c_tuple B.tuple (ma_cons (me_lc (own := [("own", 2), ("begin", 3), ("end", 4)]) (t := (.tp [2, 3, 4])) rfl sc_comings.nd (mi_list (me_callF h_placed (hr.mono (by decide)) (ma_cons (me_v 0) ma_nil))) (blkOk_by (N := N_comings) (sc := defScope s_comings) (by decide +kernel)) rfl (fun _ _ _ _ _ => tg_tup rfl (tgs_cons (i := 2) sc_comings.nd (tgs_cons (i := 3) sc_comings.nd (tgs_cons (i := 4) sc_comings.nd tgs_nil)))) (fun _ _ _ _ _ => mts_one (PW.pt (mw_and (mt_cmp (o_eq hr.units) (me_v 2) (me_v 1)) (mw_and1 (mt_cmp o_gtZ (me_v 3) me_int))))) (fun _ _ _ _ _ => (me_v 3))) ma_nil))))
/-! rises -/
abbrev s_rises : Stmt := topS 9
abbrev N_rises : List Str := ["line"]
theorem sc_rises : FnScope N_rises ["line"] (defScope s_rises) := ⟨rfl, rfl, rfl, by decide +kernel, rfl, by decide +kernel, by decide +kernel⟩
theorem b_rises {f : Addr} {cdv : Value} {A : Around} {outer : List Env} {s : Shared} {H : Hp} {E : XK} {F_comings : PFs} (B : BT mg) (h_comings : HasF P w K mg base C 2 "comings" 2 (pF F_comings)) (hr : Room 2 (DX P w K mg base N_rises "rises" s_rises f cdv A outer s H E).A) :
    MSs (DX P w K mg base N_rises "rises" s_rises f cdv A outer s H E) C (defBody s_rises) (d_rises realA realY F_comings) :=
    (mss_one (ms_ret (me_callF h_comings (hr.mono (by decide)) (ma_cons (me_v 0) (ma_cons me_int ma_nil)))))
/-! falls -/
abbrev s_falls : Stmt := topS 10
abbrev N_falls : List Str := ["line"]
theorem sc_falls : FnScope N_falls ["line"] (defScope s_falls) := ⟨rfl, rfl, rfl, by decide +kernel, rfl, by decide +kernel, by decide +kernel⟩
theorem b_falls {f : Addr} {cdv : Value} {A : Around} {outer : List Env} {s : Shared} {H : Hp} {E : XK} {F_comings : PFs} (B : BT mg) (h_comings : HasF P w K mg base C 2 "comings" 2 (pF F_comings)) (hr : Room 2 (DX P w K mg base N_falls "falls" s_falls f cdv A outer s H E).A) :
    MSs (DX P w K mg base N_falls "falls" s_falls f cdv A outer s H E) C (defBody s_falls) (d_falls realA realY F_comings) :=
    (mss_one (ms_ret (me_callF h_comings (hr.mono (by decide)) (ma_cons (me_v 0) (ma_cons me_int ma_nil)))))
/-! moments_of -/
abbrev s_moments_of : Stmt := topS 12
abbrev N_moments_of : List Str := ["catch", "name", "line", "rest"]
theorem sc_moments_of : FnScope N_moments_of ["catch"] (defScope s_moments_of) := ⟨rfl, rfl, rfl, by decide +kernel, rfl, by decide +kernel, by decide +kernel⟩
theorem b_moments_of {f : Addr} {cdv : Value} {A : Around} {outer : List Env} {s : Shared} {H : Hp} {E : XK} {F_long_of : PFs} (B : BT mg) (h_long_of : HasF P w K mg base C 1 "long_of" 1 (pF F_long_of)) (hr : Room 1 (DX P w K mg base N_moments_of "moments_of" s_moments_of f cdv A outer s H E).A) :
    MSs (DX P w K mg base N_moments_of "moments_of" s_moments_of f cdv A outer s H E) C (defBody s_moments_of) (d_moments_of realA realY F_long_of) :=
    (mss_cons (ms_asg (me_v 0) (mg_star (i := 1) rfl (mgs_cons (mg_tup (n := 2) rfl (mgs_cons (mg_name (i := 1) sc_moments_of.nd) (mgs_cons (mg_name (i := 2) sc_moments_of.nd) mgs_nil))) (mgs_star (mg_name (i := 3) sc_moments_of.nd) mgs_nil))))
    (mss_one (ms_ret (me_callF h_long_of (hr.mono (by decide)) (ma_cons (me_v 2) ma_nil)))))
/-! line_in -/
abbrev s_line_in : Stmt := topS 13
abbrev N_line_in : List Str := ["catch", "name", "own", "line"]
theorem sc_line_in : FnScope N_line_in ["catch", "name"] (defScope s_line_in) := ⟨rfl, rfl, rfl, by decide +kernel, rfl, by decide +kernel, by decide +kernel⟩
theorem b_line_in {f : Addr} {cdv : Value} {A : Around} {outer : List Env} {s : Shared} {H : Hp} {E : XK} (B : BT mg) (hr : Room 0 (DX P w K mg base N_line_in "line_in" s_line_in f cdv A outer s H E).A) :
    MSs (DX P w K mg base N_line_in "line_in" s_line_in f cdv A outer s H E) C (defBody s_line_in) (d_line_in realA realY ) :=
    (mss_cons (ms_for PassesOwn.never rfl (mi_tup (me_v 0)) (mg_tup (n := 2) rfl (mgs_cons (mg_name (i := 2) sc_line_in.nd) (mgs_cons (mg_name (i := 3) sc_line_in.nd) mgs_nil))) (mss_one (ms_if (mt_cmp (o_eq hr.units) (me_v 2) (me_v 1)) (mss_one (ms_ret (me_v 3))) mss_nil)))
    (mss_one ms_never))
/-! things_of -/
abbrev s_things_of : Stmt := topS 16
abbrev N_things_of : List Str := ["wish", "sort", "own", "thing"]
theorem sc_things_of : FnScope N_things_of ["wish", "sort"] (defScope s_things_of) := ⟨rfl, rfl, rfl, by decide +kernel, rfl, by decide +kernel, by decide +kernel⟩
theorem b_things_of {f : Addr} {cdv : Value} {A : Around} {outer : List Env} {s : Shared} {H : Hp} {E : XK} (B : BT mg) {S : Addr} (hS : HSorts K w S) (mS : mg "SORTS" = some (.ref S))  (hr : Room 0 (DX P w K mg base N_things_of "things_of" s_things_of f cdv A outer s H E).A) :
    MSs (DX P w K mg base N_things_of "things_of" s_things_of f cdv A outer s H E) C (defBody s_things_of) (d_things_of realA ) :=
    (mss_one (ms_ret (me_lc (own := [("own", 2), ("thing", 3)]) (t := (.tp [2, 3])) rfl sc_things_of.nd (mi_zipT B.zip (ma_cons (me_sorts hS mS (me_ix (me_v 0) me_int)) (ma_cons (me_sl (me_v 0) (mo_some me_int) mo_none) ma_nil))) (blkOk_by (N := N_things_of) (sc := defScope s_things_of) (by decide +kernel)) rfl (fun _ _ _ _ _ => tg_tup rfl (tgs_cons (i := 2) sc_things_of.nd (tgs_cons (i := 3) sc_things_of.nd tgs_nil))) (fun _ _ _ _ _ => mts_one (mt_cmp (o_eq hr.units) (me_v 2) (me_v 1))) (fun _ _ _ _ _ => (me_v 3)))))
/-! parts_in -/
abbrev s_parts_in : Stmt := topS 17
abbrev N_parts_in : List Str := ["wish"]
theorem sc_parts_in : FnScope N_parts_in ["wish"] (defScope s_parts_in) := ⟨rfl, rfl, rfl, by decide +kernel, rfl, by decide +kernel, by decide +kernel⟩
theorem b_parts_in {f : Addr} {cdv : Value} {A : Around} {outer : List Env} {s : Shared} {H : Hp} {E : XK} {F_things_of : PFs} (B : BT mg) (h_things_of : HasK P w K mg base C 1 "things_of" "sort" (pF F_things_of)) (hr : Room 1 (DX P w K mg base N_parts_in "parts_in" s_parts_in f cdv A outer s H E).A) :
    MSs (DX P w K mg base N_parts_in "parts_in" s_parts_in f cdv A outer s H E) C (defBody s_parts_in) (d_parts_in realA F_things_of) :=
    (mss_one (ms_ret (me_callK h_things_of (hr.mono (by decide)) (me_v 0) me_str)))
/-! last_of -/
abbrev s_last_of : Stmt := topS 19
abbrev N_last_of : List Str := ["row", "many"]
theorem sc_last_of : FnScope N_last_of ["row", "many"] (defScope s_last_of) := ⟨rfl, rfl, rfl, by decide +kernel, rfl, by decide +kernel, by decide +kernel⟩
theorem b_last_of {f : Addr} {cdv : Value} {A : Around} {outer : List Env} {s : Shared} {H : Hp} {E : XK} (B : BT mg) (hr : Room 0 (DX P w K mg base N_last_of "last_of" s_last_of f cdv A outer s H E).A) :
    MSs (DX P w K mg base N_last_of "last_of" s_last_of f cdv A outer s H E) C (defBody s_last_of) (d_last_of realA ) :=
    (mss_one (ms_ret (me_sl (me_v 0) (mo_some (me_callB (c_max2Z rfl) B.max (ma_cons me_int (ma_cons (me_op o_subZ (me_callB (c_len) B.len (ma_cons (me_v 0) ma_nil)) (me_v 1)) ma_nil)))) mo_none)))
/-! step_line -/
abbrev s_step_line : Stmt := topS 20
abbrev N_step_line : List Str := ["wish", "own", "level", "word", "x", "things", "wanted", "low", "high", "elder", "long", "is_whole_run", "many", "row"]
theorem sc_step_line : FnScope N_step_line ["wish", "own", "level"] (defScope s_step_line) := ⟨rfl, rfl, rfl, by decide +kernel, rfl, by decide +kernel, by decide +kernel⟩
theorem b_step_line {f : Addr} {cdv : Value} {A : Around} {outer : List Env} {s : Shared} {H : Hp} {E : XK} {F_last_of : PFs} (B : BT mg) (h_last_of : HasF P w K mg base C 1 "last_of" 2 (pF F_last_of)) (hr : Room 1 (DX P w K mg base N_step_line "step_line" s_step_line f cdv A outer s H E).A) :
    MSs (DX P w K mg base N_step_line "step_line" s_step_line f cdv A outer s H E) C (defBody s_step_line) (d_step_line realA F_last_of) :=
    (mss_cons (ms_asg (me_v 0) (mg_star (i := 2) rfl (mgs_cons (mg_name (i := 3) sc_step_line.nd) (mgs_cons (mg_name (i := 4) sc_step_line.nd) (mgs_star (mg_name (i := 5) sc_step_line.nd) mgs_nil)))))
    (mss_cons (ms_if (mt_cmp o_inS (me_v 3) (me_tup (ma_cons me_str (ma_cons me_str ma_nil)))) (mss_one (ms_ret (me_tup (ma_cons (me_cmp (o_eq hr.units) (me_v 2) (me_callT c_int B.int (ma_cons (me_cmp (o_eq hr.units) (me_v 3) me_str) ma_nil))) (ma_cons (me_tup ma_nil) ma_nil))))) mss_nil)
    (mss_cons (ms_if (mt_cmp o_inS (me_v 3) (me_tup (ma_cons me_str (ma_cons me_str ma_nil)))) (mss_one (ms_ret (me_tup (ma_cons (me_and (me_cmp (o_eq hr.units) (me_v 1) (me_tup (ma_cons (me_callT c_int B.int (ma_cons (me_cmp (o_eq hr.units) (me_v 3) me_str) ma_nil)) ma_nil))) (me_one (me_cmp (o_eq hr.units) (me_v 2) (me_callT c_int B.int (ma_cons (me_cmp (o_eq hr.units) (me_v 3) me_str) ma_nil))))) (ma_cons (me_tup (ma_cons (me_v 2) ma_nil)) ma_nil))))) mss_nil)
    (mss_cons (ms_if (mt_cmp (o_eq hr.units) (me_v 3) me_str) (mss_cons (ms_asg (me_v 5) (mg_unl (n := 3) rfl (mgs_cons (mg_name (i := 6) sc_step_line.nd) (mgs_cons (mg_name (i := 7) sc_step_line.nd) (mgs_cons (mg_name (i := 8) sc_step_line.nd) mgs_nil)))))
    (mss_cons (ms_if (mt_cmp (o_eq hr.units) (me_v 1) (me_tup ma_nil)) (mss_one (ms_ret (me_tup (ma_cons me_bl (ma_cons (me_tup (ma_cons (me_v 2) (ma_cons me_int (ma_cons me_bl ma_nil)))) ma_nil))))) mss_nil)
    (mss_cons (ms_asg (me_v 1) (mg_tup (n := 3) rfl (mgs_cons (mg_name (i := 9) sc_step_line.nd) (mgs_cons (mg_name (i := 10) sc_step_line.nd) (mgs_cons (mg_name (i := 11) sc_step_line.nd) mgs_nil)))))
    (mss_cons (ms_if (mt_cmp (o_eq hr.units) (me_v 9) (me_v 2)) (mss_one (ms_ret (me_tup (ma_cons me_bl (ma_cons (me_tup (ma_cons (me_v 2) (ma_cons (me_callB (c_min2Z rfl) B.min (ma_cons (me_op o_addZ (me_v 10) me_int) (ma_cons (me_op o_addZ (me_v 8) me_int) ma_nil))) (ma_cons (me_v 11) ma_nil)))) ma_nil))))) mss_nil)
    (mss_one (ms_ret (me_tup (ma_cons (me_and (me_cmp (o_eq hr.units) (me_v 9) (me_v 6)) (me_and (me_v 11) (me_one (me_chain o_leZ o_leZ (me_v 7) (me_v 10) (me_v 8))))) (ma_cons (me_tup (ma_cons (me_v 2) (ma_cons me_int (ma_cons me_bl ma_nil)))) ma_nil))))))))) mss_nil)
    (mss_cons (ms_asg (me_v 5) (mg_unl (n := 3) rfl (mgs_cons (mg_name (i := 12) sc_step_line.nd) (mgs_cons (mg_name (i := 7) sc_step_line.nd) (mgs_cons (mg_name (i := 8) sc_step_line.nd) mgs_nil)))))
    (mss_cons (ms_set (i := 13) sc_step_line.nd (me_callF h_last_of (hr.mono (by decide)) (ma_cons (me_op o_addZ (me_sl (me_v 1) (mo_some me_int) mo_none) (me_tup (ma_cons (me_callT c_int B.int (ma_cons (me_and (me_cmp (o_ne hr.units) (me_v 1) (me_tup ma_nil)) (me_one (me_cmp (o_ne hr.units) (me_ix (me_v 1) me_int) (me_v 2)))) ma_nil)) ma_nil))) (ma_cons (me_v 12) ma_nil))))
    (mss_one (ms_ret (me_tup (ma_cons (me_chain o_leZ o_leZ (me_v 7) (me_callB (c_sum rfl) B.sum (ma_cons (me_v 13) ma_nil)) (me_v 8)) (ma_cons (me_op o_addZ (me_tup (ma_cons (me_v 2) ma_nil)) (me_callF h_last_of (hr.mono (by decide)) (ma_cons (me_v 13) (ma_cons (me_op o_subZ (me_v 12) me_int) ma_nil)))) ma_nil)))))))))))
/-! step_timed -/
abbrev s_step_timed : Stmt := topS 21
abbrev N_step_timed : List Str := ["word", "n", "own", "now", "row", "many", "elder"]
theorem sc_step_timed : FnScope N_step_timed ["word", "n", "own", "now"] (defScope s_step_timed) := ⟨rfl, rfl, rfl, by decide +kernel, rfl, by decide +kernel, by decide +kernel⟩
theorem b_step_timed {f : Addr} {cdv : Value} {A : Around} {outer : List Env} {s : Shared} {H : Hp} {E : XK} {F_last_of : PFs} (B : BT mg) (h_last_of : HasF P w K mg base C 1 "last_of" 2 (pF F_last_of)) (hr : Room 1 (DX P w K mg base N_step_timed "step_timed" s_step_timed f cdv A outer s H E).A) :
    MSs (DX P w K mg base N_step_timed "step_timed" s_step_timed f cdv A outer s H E) C (defBody s_step_timed) (d_step_timed realA F_last_of) :=
    (mss_cons (ms_if (mt_cmp (o_eq hr.units) (me_v 0) me_str) (mss_cons (ms_set (i := 4) sc_step_timed.nd (me_callF h_last_of (hr.mono (by decide)) (ma_cons (me_op o_addZ (me_v 2) (me_tup (ma_cons (me_v 3) ma_nil))) (ma_cons (me_op o_addZ (me_v 1) me_int) ma_nil))))
    (mss_one (ms_ret (me_tup (ma_cons (me_and (me_cmp o_gtZ (me_callB (c_len) B.len (ma_cons (me_v 4) ma_nil)) (me_v 1)) (me_one (me_ix (me_v 4) me_int))) (ma_cons (me_callF h_last_of (hr.mono (by decide)) (ma_cons (me_v 4) (ma_cons (me_v 1) ma_nil))) ma_nil)))))) mss_nil)
    (mss_cons (ms_if (mt_cmp (o_eq hr.units) (me_v 0) me_str) (mss_cons (ms_set (i := 4) sc_step_timed.nd (me_callF h_last_of (hr.mono (by decide)) (ma_cons (me_op o_addZ (me_v 2) (me_tup (ma_cons (me_v 3) ma_nil))) (ma_cons (me_op o_addZ (me_v 1) me_int) ma_nil))))
    (mss_one (ms_ret (me_tup (ma_cons (me_callB (c_any rfl) B.any (ma_cons (me_v 4) ma_nil)) (ma_cons (me_callF h_last_of (hr.mono (by decide)) (ma_cons (me_v 4) (ma_cons (me_v 1) ma_nil))) ma_nil)))))) mss_nil)
    (mss_cons (ms_if (mt_cmp (o_eq hr.units) (me_v 0) me_str) (mss_cons (ms_set (i := 5) sc_step_timed.nd (me_op o_mulZ (me_callB (c_min2Z rfl) B.min (ma_cons (me_v 1) (ma_cons (me_op o_addZ (me_callB (c_sum rfl) B.sum (ma_cons (me_v 2) ma_nil)) me_int) ma_nil))) (me_callT c_int B.int (ma_cons (me_v 3) ma_nil))))
    (mss_one (ms_ret (me_tup (ma_cons (me_cmp (o_eq hr.units) (me_v 5) (me_v 1)) (ma_cons (me_tup (ma_cons (me_v 5) ma_nil)) ma_nil)))))) mss_nil)
    (mss_cons (ms_asg (me_if (mt_cmp (o_ne hr.units) (me_v 2) (me_tup ma_nil)) (me_v 2) (me_tup (ma_cons me_bl (ma_cons me_int ma_nil)))) (mg_tup (n := 2) rfl (mgs_cons (mg_name (i := 6) sc_step_timed.nd) (mgs_cons (mg_name (i := 5) sc_step_timed.nd) mgs_nil))))
    (mss_cons (ms_set (i := 5) sc_step_timed.nd (me_callB (c_min2Z rfl) B.min (ma_cons (me_op o_addZ (me_v 1) me_int) (ma_cons (me_op o_addZ (me_v 5) (me_callT c_int B.int (ma_cons (me_and (me_v 3) (me_one (me_not (me_v 6)))) ma_nil))) ma_nil))))
    (mss_one (ms_ret (me_tup (ma_cons (me_and (me_v 3) (me_and (me_not (me_v 6)) (me_one (me_cmp (o_eq hr.units) (me_v 5) (me_v 1))))) (ma_cons (me_tup (ma_cons (me_v 3) (ma_cons (me_v 5) ma_nil))) ma_nil))))))))))
/-! step_part -/
abbrev s_step_part : Stmt := topS 22
abbrev N_step_part : List Str := ["wish", "own", "inner", "levels", "word", "things", "now"]
theorem sc_step_part : FnScope N_step_part ["wish", "own", "inner", "levels"] (defScope s_step_part) := ⟨rfl, rfl, rfl, by decide +kernel, rfl, by decide +kernel, by decide +kernel⟩
theorem b_step_part {f : Addr} {cdv : Value} {A : Around} {outer : List Env} {s : Shared} {H : Hp} {E : XK} {F_step_line : PFs} {F_step_timed : PFs} (B : BT mg) (h_step_line : HasF P w K mg base C 2 "step_line" 3 (pF F_step_line)) (h_step_timed : HasF P w K mg base C 2 "step_timed" 4 (pF F_step_timed)) (hr : Room 2 (DX P w K mg base N_step_part "step_part" s_step_part f cdv A outer s H E).A) :
    MSs (DX P w K mg base N_step_part "step_part" s_step_part f cdv A outer s H E) C (defBody s_step_part) (d_step_part realA F_step_line F_step_timed) :=
    (mss_cons (ms_asg (me_v 0) (mg_star (i := 1) rfl (mgs_cons (mg_name (i := 4) sc_step_part.nd) (mgs_star (mg_name (i := 5) sc_step_part.nd) mgs_nil))))
    (mss_cons (ms_if (mt_cmp (o_eq hr.units) (me_v 4) me_str) (mss_one (ms_ret (me_tup (ma_cons me_bl (ma_cons (me_tup ma_nil) ma_nil))))) mss_nil)
    (mss_cons (ms_if (mt_cmp (o_eq hr.units) (me_v 4) me_str) (mss_one (ms_ret (me_tup (ma_cons (me_not (me_ix (me_v 2) me_int)) (ma_cons (me_tup ma_nil) ma_nil))))) mss_nil)
    (mss_cons (ms_if (mt_cmp (o_eq hr.units) (me_v 4) me_str) (mss_one (ms_ret (me_tup (ma_cons (me_and (me_ix (me_v 2) me_int) (me_one (me_ix (me_v 2) me_int))) (ma_cons (me_tup ma_nil) ma_nil))))) mss_nil)
    (mss_cons (ms_if (mt_cmp (o_eq hr.units) (me_v 4) me_str) (mss_one (ms_ret (me_tup (ma_cons (me_or (me_ix (me_v 2) me_int) (me_one (me_ix (me_v 2) me_int))) (ma_cons (me_tup ma_nil) ma_nil))))) mss_nil)
    (mss_cons (ms_if (mt_cmp (o_eq hr.units) (me_v 4) me_str) (mss_cons (ms_set (i := 6) sc_step_part.nd (me_or (me_ix (me_v 2) me_int) (me_one (me_and (me_cmp (o_eq hr.units) (me_v 1) (me_tup (ma_cons me_bl ma_nil))) (me_one (me_ix (me_v 2) me_int))))))
    (mss_one (ms_ret (me_tup (ma_cons (me_v 6) (ma_cons (me_tup (ma_cons (me_v 6) ma_nil)) ma_nil)))))) mss_nil)
    (mss_cons (ms_if (mt_cmp o_inS (me_v 4) (me_tup (ma_cons me_str (ma_cons me_str (ma_cons me_str (ma_cons me_str ma_nil)))))) (mss_one (ms_ret (me_callF h_step_timed (hr.mono (by decide)) (ma_cons (me_v 4) (ma_cons (me_ix (me_v 5) me_int) (ma_cons (me_v 1) (ma_cons (me_ix (me_v 2) me_int) ma_nil))))))) mss_nil)
    (mss_one (ms_ret (me_callF h_step_line (hr.mono (by decide)) (ma_cons (me_v 0) (ma_cons (me_v 1) (ma_cons (me_dget (hu_of hr) (me_v 3) (me_ix (me_v 5) me_int)) ma_nil)))))))))))))
/-! __init__ -/
abbrev s___init__ : Stmt := inClass (topS 23) 0
abbrev N___init__ : List Str := ["self", "wishes", "wish"]
theorem sc___init__ : FnScope N___init__ ["self", "wishes"] (defScope s___init__) := ⟨rfl, rfl, rfl, by decide +kernel, rfl, by decide +kernel, by decide +kernel⟩
theorem b___init__ {f : Addr} {cdv : Value} {A : Around} {outer : List Env} {s : Shared} {H : Hp} {E : XK} {F_put_part : BFs} (B : BT mg) (cls : Cls K C) (na_rows_of : NoAttr K C "rows_of") (na_tops : NoAttr K C "tops") (h_put_part : HasM P w K mg base C 11 "put_part" 2 (mF F_put_part)) (hmono : BMono F_put_part) (hr : Room 11 (DX P w K mg base N___init__ "Stepper.__init__" s___init__ f cdv A outer s H E).A) :
    MSs (DX P w K mg base N___init__ "Stepper.__init__" s___init__ f cdv A outer s H E) C (defBody s___init__) (d___init__ realA F_put_part) :=
    (mss_cons (ms_fldS (me_v 0) (me_lstM ma_nil) cls na_rows_of)
    (mss_one (ms_fldS (me_v 0) (me_lc (own := [("wish", 2)]) (t := (.nm 2)) rfl sc___init__.nd (mi_tup (me_v 1)) (blkOk_by (N := N___init__) (sc := defScope s___init__) (by decide +kernel)) rfl (fun _ _ _ _ _ => tg_name (i := 2) sc___init__.nd) (fun _ _ _ _ _ => mts_nil) (fun _ _ _ _ _ => (me_methM h_put_part hmono (hr.mono (by decide)) cls (me_v 0) (ma_cons (me_v 2) ma_nil)))) cls na_tops)))
/-! put_part -/
abbrev s_put_part : Stmt := inClass (topS 23) 1
abbrev N_put_part : List Str := ["self", "wish", "at", "part"]
theorem sc_put_part : FnScope N_put_part ["self", "wish"] (defScope s_put_part) := ⟨rfl, rfl, rfl, by decide +kernel, rfl, by decide +kernel, by decide +kernel⟩
theorem b_put_part {f : Addr} {cdv : Value} {A : Around} {outer : List Env} {s : Shared} {H : Hp} {E : XK} {F_parts_in : PFs} {F_put_part : BFs} {k kr : Nat} (hkr : kr ≤ k) (hlo : 2 ≤ k) (B : BT mg) (cls : Cls K C) (na_rows_of : NoAttr K C "rows_of") (na_tops : NoAttr K C "tops") (h_parts_in : HasF P w K mg base C 2 "parts_in" 1 (pF F_parts_in)) (h_put_part : HasM P w K mg base C kr "put_part" 2 (mF F_put_part)) (hmono : BMono F_put_part) (hr : Room k (DX P w K mg base N_put_part "Stepper.put_part" s_put_part f cdv A outer s H E).A) :
    MSs (DX P w K mg base N_put_part "Stepper.put_part" s_put_part f cdv A outer s H E) C (defBody s_put_part) (d_put_part realA F_parts_in F_put_part) :=
    (mss_cons (ms_set (i := 2) sc_put_part.nd (me_callB (c_len) B.len (ma_cons (me_fld (j := 0) (me_v 0) cls na_rows_of) ma_nil)))
    (mss_cons (ms_expr (me_append (me_fld (j := 0) (me_v 0) cls na_rows_of) (ma_cons (me_tup (ma_cons (me_v 1) (ma_cons (me_tup ma_nil) ma_nil))) ma_nil)))
    (mss_cons (ms_asg (me_tup (ma_cons (me_v 1) (ma_cons (me_callT c_tuple B.tuple (ma_cons (me_lc (own := [("part", 3)]) (t := (.nm 3)) rfl sc_put_part.nd (mi_list (me_callF h_parts_in (hr.mono (by omega)) (ma_cons (me_v 1) ma_nil))) (blkOk_by (N := N_put_part) (sc := defScope s_put_part) (by decide +kernel)) rfl (fun _ _ _ _ _ => tg_name (i := 3) sc_put_part.nd) (fun _ _ _ _ _ => mts_nil) (fun _ _ _ _ _ => (me_methM h_put_part hmono (hr.mono (by omega)) cls (me_v 0) (ma_cons (me_v 3) ma_nil)))) ma_nil)) ma_nil))) (mg_sub (me_fld (j := 0) (me_v 0) cls na_rows_of) (me_v 2) p_setL))
    (mss_one (ms_ret (me_v 2))))))
/-! step -/
abbrev s_step : Stmt := inClass (topS 23) 2
abbrev N_step : List Str := ["self", "state", "levels", "values", "fresh", "at", "wish", "inner", "k"]
theorem sc_step : FnScope N_step ["self", "state", "levels"] (defScope s_step) := ⟨rfl, rfl, rfl, by decide +kernel, rfl, by decide +kernel, by decide +kernel⟩
theorem b_step {f : Addr} {cdv : Value} {A : Around} {outer : List Env} {s : Shared} {H : Hp} {E : XK} {F_step_part : PFs} (B : BT mg) (cls : Cls K C) (na_rows_of : NoAttr K C "rows_of") (na_tops : NoAttr K C "tops") (h_step_part : HasF P w K mg base C 3 "step_part" 4 (pF F_step_part)) (hr : Room 3 (DX P w K mg base N_step "Stepper.step" s_step f cdv A outer s H E).A) :
    MSs (DX P w K mg base N_step "Stepper.step" s_step f cdv A outer s H E) C (defBody s_step) (d_step realA realY F_step_part) :=
    (mss_cons (ms_tasg (n := 2) rfl (ma_cons me_dnew (ma_cons me_dnew ma_nil)) (mgs_cons (mg_name (i := 3) sc_step.nd) (mgs_cons (mg_name (i := 4) sc_step.nd) mgs_nil)))
    (mss_cons (ms_for PassesOwn.never rfl (mi_range3Y B.range (ma_cons (me_op o_subZ (me_callB (c_lenY) B.len (ma_cons (me_fld (j := 0) (me_v 0) cls na_rows_of) ma_nil)) me_int) (ma_cons (me_un u_neg me_int) (ma_cons (me_un u_neg me_int) ma_nil)))) (mg_name (i := 5) sc_step.nd) (mss_cons (ms_asg (me_ixY (me_fld (j := 0) (me_v 0) cls na_rows_of) (me_v 5)) (mg_tup (n := 2) rfl (mgs_cons (mg_name (i := 6) sc_step.nd) (mgs_cons (mg_name (i := 7) sc_step.nd) mgs_nil))))
    (mss_one (ms_asg (me_callF h_step_part (hr.mono (by decide)) (ma_cons (me_v 6) (ma_cons (me_ixY (me_v 1) (me_v 5)) (ma_cons (me_lc (own := [("k", 8)]) (t := (.nm 8)) rfl sc_step.nd (mi_tup (me_v 7)) (blkOk_by (N := N_step) (sc := defScope s_step) (by decide +kernel)) rfl (fun _ _ _ _ _ => tg_name (i := 8) sc_step.nd) (fun _ _ _ _ _ => mts_nil) (fun _ _ _ _ _ => (me_dget (hu_of hr) (me_v 3) (me_v 8)))) (ma_cons (me_v 2) ma_nil))))) (mg_tup (n := 2) rfl (mgs_cons (mg_sub (me_v 3) (me_v 5) (p_setDY (hu_of hr))) (mgs_cons (mg_sub (me_v 4) (me_v 5) (p_setDY (hu_of hr))) mgs_nil)))))))
    (mss_one (ms_ret (me_tup (ma_cons (me_lc (own := [("at", 5)]) (t := (.nm 5)) rfl sc_step.nd (mi_list (me_fld (j := 1) (me_v 0) cls na_tops)) (blkOk_by (N := N_step) (sc := defScope s_step) (by decide +kernel)) rfl (fun _ _ _ _ _ => tg_name (i := 5) sc_step.nd) (fun _ _ _ _ _ => mts_nil) (fun _ _ _ _ _ => (me_dget (hu_of hr) (me_v 3) (me_v 5)))) (ma_cons (me_callT c_tuple B.tuple (ma_cons (me_lc (own := [("at", 5)]) (t := (.nm 5)) rfl sc_step.nd (mi_range1Y B.range (ma_cons (me_callB (c_lenY) B.len (ma_cons (me_fld (j := 0) (me_v 0) cls na_rows_of) ma_nil)) ma_nil)) (blkOk_by (N := N_step) (sc := defScope s_step) (by decide +kernel)) rfl (fun _ _ _ _ _ => tg_name (i := 5) sc_step.nd) (fun _ _ _ _ _ => mts_nil) (fun _ _ _ _ _ => (me_dget (hu_of hr) (me_v 4) (me_v 5)))) ma_nil)) ma_nil)))))))
/-! level_rows -/
abbrev s_level_rows : Stmt := topS 24
abbrev N_level_rows : List Str := ["many", "found", "turn", "row", "level"]
theorem sc_level_rows : FnScope N_level_rows ["many"] (defScope s_level_rows) := ⟨rfl, rfl, rfl, by decide +kernel, rfl, by decide +kernel, by decide +kernel⟩
theorem b_level_rows {f : Addr} {cdv : Value} {A : Around} {outer : List Env} {s : Shared} {H : Hp} {E : XK} (B : BT mg) (hr : Room 0 (DX P w K mg base N_level_rows "level_rows" s_level_rows f cdv A outer s H E).A) :
    MSs (DX P w K mg base N_level_rows "level_rows" s_level_rows f cdv A outer s H E) C (defBody s_level_rows) (d_level_rows realA realY ) :=
    (mss_cons (ms_set (i := 1) sc_level_rows.nd (me_lst (ma_cons (me_tup ma_nil) ma_nil)))
    (mss_cons (ms_for PassesOwn.never rfl (mi_range1Y B.range (ma_cons (me_v 0) ma_nil)) (mg_name (i := 2) sc_level_rows.nd) (mss_one (ms_lc2 (i := 3) (j := 4) (n := 1) (own := [("row", 3), ("level", 4)]) rfl sc_level_rows.nd (mi_list (me_v 1)) (blkOk_by (N := N_level_rows) (sc := defScope s_level_rows) (by decide +kernel)) rfl (fun _ _ _ _ _ => tg_name (i := 3) sc_level_rows.nd) (fun _ _ _ _ _ => (mi_tup (me_tup (ma_cons me_int (ma_cons me_int ma_nil))))) (fun _ _ _ _ _ => tg_name (i := 4) sc_level_rows.nd) (fun _ _ _ _ _ => (me_op o_addY (me_v 3) (me_tup (ma_cons (me_v 4) ma_nil)))) (sw_true rfl rfl rfl (by decide +kernel)))))
    (mss_one (ms_ret (me_v 1)))))
/-! catch_of -/
abbrev s_catch_of : Stmt := topS 25
abbrev N_catch_of : List Str := ["names", "rows", "k", "name", "row"]
theorem sc_catch_of : FnScope N_catch_of ["names", "rows"] (defScope s_catch_of) := ⟨rfl, rfl, rfl, by decide +kernel, rfl, by decide +kernel, by decide +kernel⟩
def lcs_catch_of : Scope := lcScope (defBody s_catch_of)
theorem b_catch_of {f : Addr} {cdv : Value} {A : Around} {outer : List Env} {s : Shared} {H : Hp} {E : XK} {F_runs_of : PFs} (B : BT mg) (h_runs_of : HasF P w K mg base C 1 "runs_of" 1 (pF F_runs_of)) (hr : Room 1 (DX P w K mg base N_catch_of "catch_of" s_catch_of f cdv A outer s H E).A) :
    MSs (DX P w K mg base N_catch_of "catch_of" s_catch_of f cdv A outer s H E) C (defBody s_catch_of) (d_catch_of realA realY F_runs_of) :=
    (mss_one (ms_ret (me_callT c_tuple B.tuple (ma_cons (me_lc (own := [("k", 2), ("name", 3)]) (t := (.tp [2, 3])) rfl sc_catch_of.nd (mi_enum B.enumerate (ma_cons (me_v 0) ma_nil)) (blkOk_by (N := N_catch_of) (sc := defScope s_catch_of) (by decide +kernel)) rfl (fun _ _ _ _ _ => tg_tup rfl (tgs_cons (i := 2) sc_catch_of.nd (tgs_cons (i := 3) sc_catch_of.nd tgs_nil))) (fun _ _ _ _ _ => mts_nil) (fun _ _ _ _ _ => (me_tup (ma_cons (me_v 3) (ma_cons (me_callF h_runs_of (hr.mono (by decide)) (ma_cons (me_lc (own := [("row", 4)]) (t := (.nm 4)) rfl sc_catch_of.nd (mi_tup (me_v 1)) (blkOk_by (N := N_catch_of) (sc := relS lcs_catch_of (defScope s_catch_of)) (by decide +kernel)) rfl (fun _ _ _ _ _ => tg_name (i := 4) sc_catch_of.nd) (fun _ _ _ _ _ => mts_nil) (fun _ _ _ _ _ => (me_tup (ma_cons (me_ixY (me_v 4) (me_v 2)) (ma_cons me_int ma_nil))))) ma_nil)) ma_nil))))) ma_nil))))
/-! shortest -/
abbrev s_shortest : Stmt := topS 26
abbrev N_shortest : List Str := ["names", "wishes", "stepper", "begin", "met", "waiting", "at", "state", "rows", "levels", "values", "fresh", "row", "value"]
theorem sc_shortest : FnScope N_shortest ["names", "wishes"] (defScope s_shortest) := ⟨rfl, rfl, rfl, by decide +kernel, rfl, by decide +kernel, by decide +kernel⟩
theorem b_shortest {f : Addr} {cdv : Value} {A : Around} {outer : List Env} {s : Shared} {H : Hp} {E : XK} {F_level_rows : PFs} {F_catch_of : PFs} {F_step : PFs} {F_Stepper : PFs} (B : BT mg) (cls : Cls K C) (na_rows_of : NoAttr K C "rows_of") (na_tops : NoAttr K C "tops") (h_level_rows : HasF P w K mg base C 1 "level_rows" 1 (pF F_level_rows)) (h_catch_of : HasF P w K mg base C 2 "catch_of" 2 (pF F_catch_of)) (h_step : HasM P w K mg base C 4 "step" 3 (pF F_step)) (h_Stepper : HasI P w K mg base C 12 "Stepper" F_Stepper) (hr : Room 13 (DX P w K mg base N_shortest "shortest" s_shortest f cdv A outer s H E).A) :
    MSs (DX P w K mg base N_shortest "shortest" s_shortest f cdv A outer s H E) C (defBody s_shortest) (d_shortest realA realY F_level_rows F_catch_of F_step F_Stepper) :=
    (mss_cons (ms_set (i := 2) sc_shortest.nd (me_stepper h_Stepper (hr.mono (by decide)) (ma_cons (me_v 1) ma_nil)))
    (mss_cons (ms_set (i := 3) sc_shortest.nd (me_callT c_tuple B.tuple (ma_cons (me_lc (own := [("row", 12)]) (t := (.nm 12)) rfl sc_shortest.nd (mi_list (me_fld (j := 0) (me_v 2) cls na_rows_of)) (blkOk_by (N := N_shortest) (sc := defScope s_shortest) (by decide +kernel)) rfl (fun _ _ _ _ _ => tg_name (i := 12) sc_shortest.nd) (fun _ _ _ _ _ => mts_nil) (fun _ _ _ _ _ => (me_tup ma_nil))) ma_nil)))
    (mss_cons (ms_par3 (i := 4) (j := 5) (l := 6) rfl sc_shortest.nd (ma_cons (me_dkey1Y hr.units (me_v 3)) (ma_cons (me_lstM (ma_cons (me_tup (ma_cons (me_v 3) (ma_cons (me_tup ma_nil) ma_nil))) ma_nil)) (ma_cons me_int ma_nil))))
    (mss_cons (ms_while PassesOwn.never (mt_cmp o_ltZ (me_v 6) (me_callB (c_lenY) B.len (ma_cons (me_v 5) ma_nil))) (mss_cons (ms_asg (me_ixY (me_v 5) (me_v 6)) (mg_tup (n := 2) rfl (mgs_cons (mg_name (i := 7) sc_shortest.nd) (mgs_cons (mg_name (i := 8) sc_shortest.nd) mgs_nil))))
    (mss_cons (ms_augadd (i := 6) sc_shortest.nd me_int)
    (mss_one (ms_for PassesOwn.never rfl (mi_list (me_callF h_level_rows (hr.mono (by decide)) (ma_cons (me_callB (c_lenY) B.len (ma_cons (me_v 0) ma_nil)) ma_nil))) (mg_name (i := 9) sc_shortest.nd) (mss_cons (ms_asg (me_methF h_step (hr.mono (by decide)) cls (me_v 2) (ma_cons (me_v 7) (ma_cons (me_dictzipY rfl B.dict B.zip (ma_cons (me_v 0) (ma_cons (me_v 9) ma_nil))) ma_nil))) (mg_tup (n := 2) rfl (mgs_cons (mg_name (i := 10) sc_shortest.nd) (mgs_cons (mg_name (i := 11) sc_shortest.nd) mgs_nil))))
    (mss_cons (ms_if (mt_cmp (o_eq hr.units) (me_callB (c_sumY rfl) B.sum (ma_cons (me_lc (own := [("value", 13)]) (t := (.nm 13)) rfl sc_shortest.nd (mi_list (me_v 10)) (blkOk_by (N := N_shortest) (sc := defScope s_shortest) (by decide +kernel)) rfl (fun _ _ _ _ _ => tg_name (i := 13) sc_shortest.nd) (fun _ _ _ _ _ => mts_nil) (fun _ _ _ _ _ => (me_callT c_int B.int (ma_cons (me_v 13) ma_nil)))) ma_nil)) me_int) (mss_one (ms_ret (me_callF h_catch_of (hr.mono (by decide)) (ma_cons (me_v 0) (ma_cons (me_op o_addY (me_v 8) (me_tup (ma_cons (me_v 9) ma_nil))) ma_nil))))) mss_nil)
    (mss_one (ms_if (mt_cmp (o_notinKY hr.units) (me_v 11) (me_v 4)) (mss_cons (ms_asg me_bl (mg_sub (me_v 4) (me_v 11) (p_setKY hr.units)))
    (mss_one (ms_expr (me_append (me_v 5) (ma_cons (me_tup (ma_cons (me_v 11) (ma_cons (me_op o_addY (me_v 8) (me_tup (ma_cons (me_v 9) ma_nil))) ma_nil))) ma_nil))))) mss_nil)))))))))
    (mss_one (ms_ret me_non))))))
/-! wishes_alike -/
abbrev s_wishes_alike : Stmt := topS 27
abbrev N_wishes_alike : List Str := ["names", "one", "other", "found"]
theorem sc_wishes_alike : FnScope N_wishes_alike ["names", "one", "other"] (defScope s_wishes_alike) := ⟨rfl, rfl, rfl, by decide +kernel, rfl, by decide +kernel, by decide +kernel⟩
theorem b_wishes_alike {f : Addr} {cdv : Value} {A : Around} {outer : List Env} {s : Shared} {H : Hp} {E : XK} {F_shortest : PFs} (B : BT mg) (h_shortest : HasF P w K mg base C 14 "shortest" 2 (pF F_shortest)) (hr : Room 14 (DX P w K mg base N_wishes_alike "wishes_alike" s_wishes_alike f cdv A outer s H E).A) :
    MSs (DX P w K mg base N_wishes_alike "wishes_alike" s_wishes_alike f cdv A outer s H E) C (defBody s_wishes_alike) (d_wishes_alike realA realY F_shortest) :=
    (mss_cons (ms_set (i := 3) sc_wishes_alike.nd (me_callF h_shortest (hr.mono (by decide)) (ma_cons (me_v 0) (ma_cons (me_tup (ma_cons (me_v 1) (ma_cons (me_v 2) ma_nil))) ma_nil))))
    (mss_cons (ms_if (mt_cmp o_is (me_v 3) me_non) (mss_one (ms_ret (me_tup (ma_cons me_str ma_nil)))) mss_nil)
    (mss_one (ms_ret (me_tup (ma_cons me_str (ma_cons (me_v 3) ma_nil)))))))
/-! soonest -/
abbrev s_soonest : Stmt := topS 28
abbrev N_soonest : List Str := ["names", "wish"]
theorem sc_soonest : FnScope N_soonest ["names", "wish"] (defScope s_soonest) := ⟨rfl, rfl, rfl, by decide +kernel, rfl, by decide +kernel, by decide +kernel⟩
theorem b_soonest {f : Addr} {cdv : Value} {A : Around} {outer : List Env} {s : Shared} {H : Hp} {E : XK} {F_shortest : PFs} (B : BT mg) (h_shortest : HasF P w K mg base C 14 "shortest" 2 (pF F_shortest)) (hr : Room 14 (DX P w K mg base N_soonest "soonest" s_soonest f cdv A outer s H E).A) :
    MSs (DX P w K mg base N_soonest "soonest" s_soonest f cdv A outer s H E) C (defBody s_soonest) (d_soonest realA realY F_shortest) :=
    (mss_one (ms_ret (me_callF h_shortest (hr.mono (by decide)) (ma_cons (me_v 0) (ma_cons (me_tup (ma_cons (me_v 1) ma_nil)) ma_nil)))))
/-! spans_of -/
abbrev s_spans_of : Stmt := topS 30
abbrev N_spans_of : List Str := ["pairs", "found", "begin", "end", "elder", "behind"]
theorem sc_spans_of : FnScope N_spans_of ["pairs"] (defScope s_spans_of) := ⟨rfl, rfl, rfl, by decide +kernel, rfl, by decide +kernel, by decide +kernel⟩
theorem b_spans_of {f : Addr} {cdv : Value} {A : Around} {outer : List Env} {s : Shared} {H : Hp} {E : XK} (B : BT mg) (hr : Room 0 (DX P w K mg base N_spans_of "spans_of" s_spans_of f cdv A outer s H E).A) :
    MSs (DX P w K mg base N_spans_of "spans_of" s_spans_of f cdv A outer s H E) C (defBody s_spans_of) (d_spans_of realA realY ) :=
    (mss_cons (ms_set (i := 1) sc_spans_of.nd (me_lstM ma_nil))
    (mss_cons (ms_for PassesOwn.never rfl (mi_list (me_callB (c_sortedY) B.sorted (ma_cons (me_lc (own := [("begin", 2), ("end", 3)]) (t := (.tp [2, 3])) rfl sc_spans_of.nd (mi_any (me_v 0)) (blkOk_by (N := N_spans_of) (sc := defScope s_spans_of) (by decide +kernel)) rfl (fun _ _ _ _ _ => tg_tup rfl (tgs_cons (i := 2) sc_spans_of.nd (tgs_cons (i := 3) sc_spans_of.nd tgs_nil))) (fun _ _ _ _ _ => mts_one (mt_cmp o_ltZ (me_v 2) (me_v 3))) (fun _ _ _ _ _ => (me_tup (ma_cons (me_v 2) (ma_cons (me_v 3) ma_nil))))) ma_nil))) (mg_tup (n := 2) rfl (mgs_cons (mg_name (i := 2) sc_spans_of.nd) (mgs_cons (mg_name (i := 3) sc_spans_of.nd) mgs_nil))) (mss_one (ms_if (PW.pt (mw_and (mt_cmp o_gtZ (me_callB (c_lenY) B.len (ma_cons (me_v 1) ma_nil)) me_int) (mw_and1 (mt_cmp o_leZ (me_v 2) (me_ixY (me_ixY (me_v 1) (me_un u_neg me_int)) me_int))))) (mss_cons (ms_asg (me_pop (me_v 1)) (mg_tup (n := 2) rfl (mgs_cons (mg_name (i := 4) sc_spans_of.nd) (mgs_cons (mg_name (i := 5) sc_spans_of.nd) mgs_nil))))
    (mss_one (ms_expr (me_append (me_v 1) (ma_cons (me_tup (ma_cons (me_v 4) (ma_cons (me_callB (c_max2Z rfl) B.max (ma_cons (me_v 5) (ma_cons (me_v 3) ma_nil))) ma_nil))) ma_nil))))) (mss_one (ms_expr (me_append (me_v 1) (ma_cons (me_tup (ma_cons (me_v 2) (ma_cons (me_v 3) ma_nil))) ma_nil)))))))
    (mss_one (ms_ret (me_callT c_tuple B.tuple (ma_cons (me_v 1) ma_nil))))))
/-! both_of -/
abbrev s_both_of : Stmt := topS 31
abbrev N_both_of : List Str := ["one", "other", "found", "i", "j", "begin", "end"]
theorem sc_both_of : FnScope N_both_of ["one", "other"] (defScope s_both_of) := ⟨rfl, rfl, rfl, by decide +kernel, rfl, by decide +kernel, by decide +kernel⟩
theorem b_both_of {f : Addr} {cdv : Value} {A : Around} {outer : List Env} {s : Shared} {H : Hp} {E : XK} (B : BT mg) (hr : Room 0 (DX P w K mg base N_both_of "both_of" s_both_of f cdv A outer s H E).A) :
    MSs (DX P w K mg base N_both_of "both_of" s_both_of f cdv A outer s H E) C (defBody s_both_of) (d_both_of realA realY ) :=
    (mss_cons (ms_set (i := 2) sc_both_of.nd (me_lstM ma_nil))
    (mss_cons (ms_asg2 me_int (mg_name (i := 3) sc_both_of.nd) (mg_name (i := 4) sc_both_of.nd))
    (mss_cons (ms_while PassesOwn.never (PW.pt (mw_and (mt_cmp o_ltZ (me_v 3) (me_callB (c_lenY) B.len (ma_cons (me_v 0) ma_nil))) (mw_and1 (mt_cmp o_ltZ (me_v 4) (me_callB (c_lenY) B.len (ma_cons (me_v 1) ma_nil)))))) (mss_cons (ms_par (i := 5) (j := 6) rfl sc_both_of.nd (ma_cons (me_callB (c_max2Z rfl) B.max (ma_cons (me_ixY (me_ixY (me_v 0) (me_v 3)) me_int) (ma_cons (me_ixY (me_ixY (me_v 1) (me_v 4)) me_int) ma_nil))) (ma_cons (me_callB (c_min2Z rfl) B.min (ma_cons (me_ixY (me_ixY (me_v 0) (me_v 3)) me_int) (ma_cons (me_ixY (me_ixY (me_v 1) (me_v 4)) me_int) ma_nil))) ma_nil)))
    (mss_cons (ms_if (mt_cmp o_ltZ (me_v 5) (me_v 6)) (mss_one (ms_expr (me_append (me_v 2) (ma_cons (me_tup (ma_cons (me_v 5) (ma_cons (me_v 6) ma_nil))) ma_nil)))) mss_nil)
    (mss_one (ms_if (mt_cmp o_leZ (me_ixY (me_ixY (me_v 0) (me_v 3)) me_int) (me_ixY (me_ixY (me_v 1) (me_v 4)) me_int)) (mss_one (ms_augadd (i := 3) sc_both_of.nd me_int)) (mss_one (ms_augadd (i := 4) sc_both_of.nd me_int)))))))
    (mss_one (ms_ret (me_callT c_tuple B.tuple (ma_cons (me_v 2) ma_nil)))))))
/-! either_of -/
abbrev s_either_of : Stmt := topS 32
abbrev N_either_of : List Str := ["one", "other"]
theorem sc_either_of : FnScope N_either_of ["one", "other"] (defScope s_either_of) := ⟨rfl, rfl, rfl, by decide +kernel, rfl, by decide +kernel, by decide +kernel⟩
theorem b_either_of {f : Addr} {cdv : Value} {A : Around} {outer : List Env} {s : Shared} {H : Hp} {E : XK} {F_spans_of : PFs} (B : BT mg) (h_spans_of : HasF P w K mg base C 1 "spans_of" 1 (pF F_spans_of)) (hr : Room 1 (DX P w K mg base N_either_of "either_of" s_either_of f cdv A outer s H E).A) :
    MSs (DX P w K mg base N_either_of "either_of" s_either_of f cdv A outer s H E) C (defBody s_either_of) (d_either_of realA realY F_spans_of) :=
    (mss_one (ms_ret (me_callF h_spans_of (hr.mono (by decide)) (ma_cons (me_op o_addY (me_v 0) (me_v 1)) ma_nil))))
/-! others -/
abbrev s_others : Stmt := topS 33
abbrev N_others : List Str := ["some", "below", "begins", "ends", "begin", "end"]
theorem sc_others : FnScope N_others ["some", "below"] (defScope s_others) := ⟨rfl, rfl, rfl, by decide +kernel, rfl, by decide +kernel, by decide +kernel⟩
theorem b_others {f : Addr} {cdv : Value} {A : Around} {outer : List Env} {s : Shared} {H : Hp} {E : XK} (B : BT mg) (hr : Room 0 (DX P w K mg base N_others "others" s_others f cdv A outer s H E).A) :
    MSs (DX P w K mg base N_others "others" s_others f cdv A outer s H E) C (defBody s_others) (d_others realA realY ) :=
    (mss_cons (ms_set (i := 2) sc_others.nd (me_op o_addY (me_lst (ma_cons me_int ma_nil)) (me_lc (own := [("begin", 4), ("end", 5)]) (t := (.tp [4, 5])) rfl sc_others.nd (mi_tup (me_v 0)) (blkOk_by (N := N_others) (sc := defScope s_others) (by decide +kernel)) rfl (fun _ _ _ _ _ => tg_tup rfl (tgs_cons (i := 4) sc_others.nd (tgs_cons (i := 5) sc_others.nd tgs_nil))) (fun _ _ _ _ _ => mts_nil) (fun _ _ _ _ _ => (me_v 5)))))
    (mss_cons (ms_set (i := 3) sc_others.nd (me_op o_addY (me_lc (own := [("begin", 4), ("end", 5)]) (t := (.tp [4, 5])) rfl sc_others.nd (mi_tup (me_v 0)) (blkOk_by (N := N_others) (sc := defScope s_others) (by decide +kernel)) rfl (fun _ _ _ _ _ => tg_tup rfl (tgs_cons (i := 4) sc_others.nd (tgs_cons (i := 5) sc_others.nd tgs_nil))) (fun _ _ _ _ _ => mts_nil) (fun _ _ _ _ _ => (me_v 4))) (me_lst (ma_cons (me_v 1) ma_nil))))
    (mss_one (ms_ret (me_callT c_tuple B.tuple (ma_cons (me_lc (own := [("begin", 4), ("end", 5)]) (t := (.tp [4, 5])) rfl sc_others.nd (mi_zip B.zip (ma_cons (me_v 2) (ma_cons (me_v 3) ma_nil))) (blkOk_by (N := N_others) (sc := defScope s_others) (by decide +kernel)) rfl (fun _ _ _ _ _ => tg_tup rfl (tgs_cons (i := 4) sc_others.nd (tgs_cons (i := 5) sc_others.nd tgs_nil))) (fun _ _ _ _ _ => mts_one (mt_cmp o_ltZ (me_v 4) (me_callB (c_min2Z rfl) B.min (ma_cons (me_v 5) (ma_cons (me_v 1) ma_nil))))) (fun _ _ _ _ _ => (me_tup (ma_cons (me_v 4) (ma_cons (me_callB (c_min2Z rfl) B.min (ma_cons (me_v 5) (ma_cons (me_v 1) ma_nil))) ma_nil))))) ma_nil))))))
/-! later -/
abbrev s_later : Stmt := topS 34
abbrev N_later : List Str := ["some", "n", "begin", "end"]
theorem sc_later : FnScope N_later ["some", "n"] (defScope s_later) := ⟨rfl, rfl, rfl, by decide +kernel, rfl, by decide +kernel, by decide +kernel⟩
theorem b_later {f : Addr} {cdv : Value} {A : Around} {outer : List Env} {s : Shared} {H : Hp} {E : XK} (B : BT mg) (hr : Room 0 (DX P w K mg base N_later "later" s_later f cdv A outer s H E).A) :
    MSs (DX P w K mg base N_later "later" s_later f cdv A outer s H E) C (defBody s_later) (d_later realA realY ) :=
    (mss_one (ms_ret (me_callT c_tuple B.tuple (ma_cons (me_lc (own := [("begin", 2), ("end", 3)]) (t := (.tp [2, 3])) rfl sc_later.nd (mi_tup (me_v 0)) (blkOk_by (N := N_later) (sc := defScope s_later) (by decide +kernel)) rfl (fun _ _ _ _ _ => tg_tup rfl (tgs_cons (i := 2) sc_later.nd (tgs_cons (i := 3) sc_later.nd tgs_nil))) (fun _ _ _ _ _ => mts_nil) (fun _ _ _ _ _ => (me_tup (ma_cons (me_op o_addY (me_v 2) (me_v 1)) (ma_cons (me_op o_addY (me_v 3) (me_v 1)) ma_nil))))) ma_nil))))
/-! grown -/
abbrev s_grown : Stmt := topS 35
abbrev N_grown : List Str := ["some", "n", "begin", "end"]
theorem sc_grown : FnScope N_grown ["some", "n"] (defScope s_grown) := ⟨rfl, rfl, rfl, by decide +kernel, rfl, by decide +kernel, by decide +kernel⟩
theorem b_grown {f : Addr} {cdv : Value} {A : Around} {outer : List Env} {s : Shared} {H : Hp} {E : XK} {F_spans_of : PFs} (B : BT mg) (h_spans_of : HasF P w K mg base C 1 "spans_of" 1 (pF F_spans_of)) (hr : Room 1 (DX P w K mg base N_grown "grown" s_grown f cdv A outer s H E).A) :
    MSs (DX P w K mg base N_grown "grown" s_grown f cdv A outer s H E) C (defBody s_grown) (d_grown realA realY F_spans_of) :=
    (mss_one (ms_ret (me_callF h_spans_of (hr.mono (by decide)) (ma_cons (me_lc (own := [("begin", 2), ("end", 3)]) (t := (.tp [2, 3])) rfl sc_grown.nd (mi_tup (me_v 0)) (blkOk_by (N := N_grown) (sc := defScope s_grown) (by decide +kernel)) rfl (fun _ _ _ _ _ => tg_tup rfl (tgs_cons (i := 2) sc_grown.nd (tgs_cons (i := 3) sc_grown.nd tgs_nil))) (fun _ _ _ _ _ => mts_nil) (fun _ _ _ _ _ => (me_tup (ma_cons (me_v 2) (ma_cons (me_op o_addY (me_v 3) (me_v 1)) ma_nil))))) ma_nil))))
/-! worn -/
abbrev s_worn : Stmt := topS 36
abbrev N_worn : List Str := ["some", "n", "begin", "end"]
theorem sc_worn : FnScope N_worn ["some", "n"] (defScope s_worn) := ⟨rfl, rfl, rfl, by decide +kernel, rfl, by decide +kernel, by decide +kernel⟩
theorem b_worn {f : Addr} {cdv : Value} {A : Around} {outer : List Env} {s : Shared} {H : Hp} {E : XK} (B : BT mg) (hr : Room 0 (DX P w K mg base N_worn "worn" s_worn f cdv A outer s H E).A) :
    MSs (DX P w K mg base N_worn "worn" s_worn f cdv A outer s H E) C (defBody s_worn) (d_worn realA realY ) :=
    (mss_one (ms_ret (me_callT c_tuple B.tuple (ma_cons (me_lc (own := [("begin", 2), ("end", 3)]) (t := (.tp [2, 3])) rfl sc_worn.nd (mi_tup (me_v 0)) (blkOk_by (N := N_worn) (sc := defScope s_worn) (by decide +kernel)) rfl (fun _ _ _ _ _ => tg_tup rfl (tgs_cons (i := 2) sc_worn.nd (tgs_cons (i := 3) sc_worn.nd tgs_nil))) (fun _ _ _ _ _ => mts_one (mt_cmp o_ltZ (me_op o_addY (me_v 2) (me_v 1)) (me_v 3))) (fun _ _ _ _ _ => (me_tup (ma_cons (me_op o_addY (me_v 2) (me_v 1)) (ma_cons (me_v 3) ma_nil))))) ma_nil))))
/-! between -/
abbrev s_between : Stmt := topS 37
abbrev N_between : List Str := ["some", "begin", "end"]
theorem sc_between : FnScope N_between ["some", "begin", "end"] (defScope s_between) := ⟨rfl, rfl, rfl, by decide +kernel, rfl, by decide +kernel, by decide +kernel⟩
theorem b_between {f : Addr} {cdv : Value} {A : Around} {outer : List Env} {s : Shared} {H : Hp} {E : XK} {F_spans_of : PFs} {F_both_of : PFs} (B : BT mg) (h_spans_of : HasF P w K mg base C 1 "spans_of" 1 (pF F_spans_of)) (h_both_of : HasF P w K mg base C 1 "both_of" 2 (pF F_both_of)) (hr : Room 1 (DX P w K mg base N_between "between" s_between f cdv A outer s H E).A) :
    MSs (DX P w K mg base N_between "between" s_between f cdv A outer s H E) C (defBody s_between) (d_between realA realY F_spans_of F_both_of) :=
    (mss_one (ms_ret (me_callF h_both_of (hr.mono (by decide)) (ma_cons (me_v 0) (ma_cons (me_callF h_spans_of (hr.mono (by decide)) (ma_cons (me_lst (ma_cons (me_tup (ma_cons (me_v 1) (ma_cons (me_v 2) ma_nil))) ma_nil)) ma_nil)) ma_nil)))))
/-! first_of -/
abbrev s_first_of : Stmt := topS 38
abbrev N_first_of : List Str := ["some"]
theorem sc_first_of : FnScope N_first_of ["some"] (defScope s_first_of) := ⟨rfl, rfl, rfl, by decide +kernel, rfl, by decide +kernel, by decide +kernel⟩
theorem b_first_of {f : Addr} {cdv : Value} {A : Around} {outer : List Env} {s : Shared} {H : Hp} {E : XK} (B : BT mg) (hr : Room 0 (DX P w K mg base N_first_of "first_of" s_first_of f cdv A outer s H E).A) :
    MSs (DX P w K mg base N_first_of "first_of" s_first_of f cdv A outer s H E) C (defBody s_first_of) (d_first_of realA realY ) :=
    (mss_cons (ms_if (mt_cmp (o_eq hr.units) (me_callB (c_lenY) B.len (ma_cons (me_v 0) ma_nil)) me_int) (mss_one (ms_ret me_non)) mss_nil)
    (mss_one (ms_ret (me_ixY (me_ixY (me_v 0) me_int) me_int))))
/-! points -/
abbrev s_points : Stmt := topS 58
abbrev N_points : List Str := ["moments", "moment"]
theorem sc_points : FnScope N_points ["moments"] (defScope s_points) := ⟨rfl, rfl, rfl, by decide +kernel, rfl, by decide +kernel, by decide +kernel⟩
theorem b_points {f : Addr} {cdv : Value} {A : Around} {outer : List Env} {s : Shared} {H : Hp} {E : XK} {F_spans_of : PFs} (B : BT mg) (h_spans_of : HasF P w K mg base C 1 "spans_of" 1 (pF F_spans_of)) (hr : Room 1 (DX P w K mg base N_points "points" s_points f cdv A outer s H E).A) :
    MSs (DX P w K mg base N_points "points" s_points f cdv A outer s H E) C (defBody s_points) (d_points realA realY F_spans_of) :=
    (mss_one (ms_ret (me_callF h_spans_of (hr.mono (by decide)) (ma_cons (me_lc (own := [("moment", 1)]) (t := (.nm 1)) rfl sc_points.nd (mi_any (me_v 0)) (blkOk_by (N := N_points) (sc := defScope s_points) (by decide +kernel)) rfl (fun _ _ _ _ _ => tg_name (i := 1) sc_points.nd) (fun _ _ _ _ _ => mts_nil) (fun _ _ _ _ _ => (me_tup (ma_cons (me_v 1) (ma_cons (me_op o_addY (me_v 1) me_int) ma_nil))))) ma_nil))))
/-! pulse_ends -/
abbrev s_pulse_ends : Stmt := topS 59
abbrev N_pulse_ends : List Str := ["line", "level", "low", "high", "runs", "own", "begin", "end"]
theorem sc_pulse_ends : FnScope N_pulse_ends ["line", "level", "low", "high"] (defScope s_pulse_ends) := ⟨rfl, rfl, rfl, by decide +kernel, rfl, by decide +kernel, by decide +kernel⟩
theorem b_pulse_ends {f : Addr} {cdv : Value} {A : Around} {outer : List Env} {s : Shared} {H : Hp} {E : XK} {F_placed : PFs} (B : BT mg) (h_placed : HasF P w K mg base C 1 "placed" 1 (pF F_placed)) (hr : Room 1 (DX P w K mg base N_pulse_ends "pulse_ends" s_pulse_ends f cdv A outer s H E).A) :
    MSs (DX P w K mg base N_pulse_ends "pulse_ends" s_pulse_ends f cdv A outer s H E) C (defBody s_pulse_ends) (d_pulse_ends realA realY F_placed) :=
    (mss_cons (ms_set (i := 4) sc_pulse_ends.nd (me_sl (me_callF h_placed (hr.mono (by decide)) (ma_cons (me_v 0) ma_nil)) mo_none (mo_some (me_un u_neg me_int))))
    (mss_one (ms_ret (me_lc (own := [("own", 5), ("begin", 6), ("end", 7)]) (t := (.tp [5, 6, 7])) rfl sc_pulse_ends.nd (mi_list (me_v 4)) (blkOk_by (N := N_pulse_ends) (sc := defScope s_pulse_ends) (by decide +kernel)) rfl (fun _ _ _ _ _ => tg_tup rfl (tgs_cons (i := 5) sc_pulse_ends.nd (tgs_cons (i := 6) sc_pulse_ends.nd (tgs_cons (i := 7) sc_pulse_ends.nd tgs_nil)))) (fun _ _ _ _ _ => mts_one (PW.pt (mw_and (mt_cmp (o_eq hr.units) (me_v 5) (me_v 1)) (mw_and (mt_cmp o_gtZ (me_v 6) me_int) (mw_and1 (mt_chain o_leZ o_leZ (me_v 2) (me_op o_subZ (me_v 7) (me_v 6)) (me_v 3))))))) (fun _ _ _ _ _ => (me_v 7))))))
/-! counted -/
abbrev s_counted : Stmt := topS 60
abbrev N_counted : List Str := ["moments", "many", "low", "high", "long", "steps", "found", "here", "count", "moment", "step", "until"]
theorem sc_counted : FnScope N_counted ["moments", "many", "low", "high", "long"] (defScope s_counted) := ⟨rfl, rfl, rfl, by decide +kernel, rfl, by decide +kernel, by decide +kernel⟩
theorem b_counted {f : Addr} {cdv : Value} {A : Around} {outer : List Env} {s : Shared} {H : Hp} {E : XK} {F_spans_of : PFs} (B : BT mg) (h_spans_of : HasF P w K mg base C 1 "spans_of" 1 (pF F_spans_of)) (hr : Room 1 (DX P w K mg base N_counted "counted" s_counted f cdv A outer s H E).A) :
    MSs (DX P w K mg base N_counted "counted" s_counted f cdv A outer s H E) C (defBody s_counted) (d_counted realA realY F_spans_of) :=
    (mss_cons (ms_set (i := 5) sc_counted.nd (me_op o_addY (me_lc (own := [("moment", 9)]) (t := (.nm 9)) rfl sc_counted.nd (mi_tup (me_v 0)) (blkOk_by (N := N_counted) (sc := defScope s_counted) (by decide +kernel)) rfl (fun _ _ _ _ _ => tg_name (i := 9) sc_counted.nd) (fun _ _ _ _ _ => mts_nil) (fun _ _ _ _ _ => (me_tup (ma_cons (me_v 9) (ma_cons me_int ma_nil))))) (me_lc (own := [("moment", 9)]) (t := (.nm 9)) rfl sc_counted.nd (mi_tup (me_v 0)) (blkOk_by (N := N_counted) (sc := defScope s_counted) (by decide +kernel)) rfl (fun _ _ _ _ _ => tg_name (i := 9) sc_counted.nd) (fun _ _ _ _ _ => mts_nil) (fun _ _ _ _ _ => (me_tup (ma_cons (me_op o_addY (me_v 9) (me_v 1)) (ma_cons (me_un u_neg me_int) ma_nil)))))))
    (mss_cons (ms_par3 (i := 6) (j := 7) (l := 8) rfl sc_counted.nd (ma_cons (me_lstM ma_nil) (ma_cons me_int (ma_cons me_int ma_nil))))
    (mss_cons (ms_for PassesOwn.never rfl (mi_list (me_op o_addY (me_callB (c_sortedY) B.sorted (ma_cons (me_v 5) ma_nil)) (me_lst (ma_cons (me_tup (ma_cons (me_v 4) (ma_cons me_int ma_nil))) ma_nil)))) (mg_tup (n := 2) rfl (mgs_cons (mg_name (i := 9) sc_counted.nd) (mgs_cons (mg_name (i := 10) sc_counted.nd) mgs_nil))) (mss_cons (ms_set (i := 11) sc_counted.nd (me_callB (c_min2Z rfl) B.min (ma_cons (me_v 9) (ma_cons (me_v 4) ma_nil))))
    (mss_cons (ms_if (mt_chain o_leZ o_leZ (me_v 2) (me_v 8) (me_v 3)) (mss_one (ms_expr (me_append (me_v 6) (ma_cons (me_tup (ma_cons (me_v 7) (ma_cons (me_v 11) ma_nil))) ma_nil)))) mss_nil)
    (mss_cons (ms_set (i := 7) sc_counted.nd (me_v 11))
    (mss_one (ms_augadd (i := 8) sc_counted.nd (me_v 10)))))))
    (mss_one (ms_ret (me_callL h_spans_of (hr.mono (by decide)) (ma_cons (me_v 6) ma_nil)))))))
/-! line_spans -/
abbrev s_line_spans : Stmt := topS 62
abbrev N_line_spans : List Str := ["catch", "wish", "word", "x", "things", "line", "long"]
theorem sc_line_spans : FnScope N_line_spans ["catch", "wish"] (defScope s_line_spans) := ⟨rfl, rfl, rfl, by decide +kernel, rfl, by decide +kernel, by decide +kernel⟩
theorem b_line_spans {f : Addr} {cdv : Value} {A : Around} {outer : List Env} {s : Shared} {H : Hp} {E : XK} {F_rises : PFs} {F_falls : PFs} {F_counted : PFs} {F_pulse_ends : PFs} {F_points : PFs} {F_highs : PFs} {F_others : PFs} {F_moments_of : PFs} {F_line_in : PFs} (B : BT mg) (h_rises : HasF P w K mg base C 3 "rises" 1 (pF F_rises)) (h_falls : HasF P w K mg base C 3 "falls" 1 (pF F_falls)) (h_counted : HasF P w K mg base C 2 "counted" 5 (pF F_counted)) (h_pulse_ends : HasF P w K mg base C 2 "pulse_ends" 4 (pF F_pulse_ends)) (h_points : HasF P w K mg base C 2 "points" 1 (pF F_points)) (h_highs : HasF P w K mg base C 2 "highs" 1 (pF F_highs)) (h_others : HasF P w K mg base C 1 "others" 2 (pF F_others)) (h_moments_of : HasF P w K mg base C 2 "moments_of" 1 (pF F_moments_of)) (h_line_in : HasF P w K mg base C 1 "line_in" 2 (pF F_line_in)) (hr : Room 3 (DX P w K mg base N_line_spans "line_spans" s_line_spans f cdv A outer s H E).A) :
    MSs (DX P w K mg base N_line_spans "line_spans" s_line_spans f cdv A outer s H E) C (defBody s_line_spans) (d_line_spans realA realY F_rises F_falls F_counted F_pulse_ends F_points F_highs F_others F_moments_of F_line_in) :=
    (mss_cons (ms_asg (me_v 1) (mg_star (i := 2) rfl (mgs_cons (mg_name (i := 2) sc_line_spans.nd) (mgs_cons (mg_name (i := 3) sc_line_spans.nd) (mgs_star (mg_name (i := 4) sc_line_spans.nd) mgs_nil)))))
    (mss_cons (ms_par (i := 5) (j := 6) rfl sc_line_spans.nd (ma_cons (me_callF h_line_in (hr.mono (by decide)) (ma_cons (me_v 0) (ma_cons (me_v 3) ma_nil))) (ma_cons (me_callF h_moments_of (hr.mono (by decide)) (ma_cons (me_v 0) ma_nil)) ma_nil)))
    (mss_cons (ms_if (mt_cmp (o_eq hr.units) (me_v 2) me_str) (mss_one (ms_ret (me_callF h_highs (hr.mono (by decide)) (ma_cons (me_v 5) ma_nil)))) mss_nil)
    (mss_cons (ms_if (mt_cmp (o_eq hr.units) (me_v 2) me_str) (mss_one (ms_ret (me_callF h_others (hr.mono (by decide)) (ma_cons (me_callF h_highs (hr.mono (by decide)) (ma_cons (me_v 5) ma_nil)) (ma_cons (me_v 6) ma_nil))))) mss_nil)
    (mss_cons (ms_if (mt_cmp (o_eq hr.units) (me_v 2) me_str) (mss_one (ms_ret (me_callF h_points (hr.mono (by decide)) (ma_cons (me_callF h_rises (hr.mono (by decide)) (ma_cons (me_v 5) ma_nil)) ma_nil)))) mss_nil)
    (mss_cons (ms_if (mt_cmp (o_eq hr.units) (me_v 2) me_str) (mss_one (ms_ret (me_callF h_points (hr.mono (by decide)) (ma_cons (me_callF h_falls (hr.mono (by decide)) (ma_cons (me_v 5) ma_nil)) ma_nil)))) mss_nil)
    (mss_cons (ms_if (mt_cmp (o_eq hr.units) (me_v 2) me_str) (mss_one (ms_ret (me_callF h_points (hr.mono (by decide)) (ma_cons (me_callF h_pulse_ends (hr.mono (by decide)) (ma_cons (me_v 5) (ma_cons (me_ixY (me_v 4) me_int) (ma_cons (me_ixY (me_v 4) me_int) (ma_cons (me_ixY (me_v 4) me_int) ma_nil))))) ma_nil)))) mss_nil)
    (mss_one (ms_ret (me_callF h_counted (hr.mono (by decide)) (ma_cons (me_op o_addY (me_callF h_rises (hr.mono (by decide)) (ma_cons (me_v 5) ma_nil)) (me_callF h_falls (hr.mono (by decide)) (ma_cons (me_v 5) ma_nil))) (ma_cons (me_ixY (me_v 4) me_int) (ma_cons (me_ixY (me_v 4) me_int) (ma_cons (me_ixY (me_v 4) me_int) (ma_cons (me_v 6) ma_nil)))))))))))))))
/-! since_spans -/
abbrev s_since_spans : Stmt := topS 63
abbrev N_since_spans : List Str := ["one", "other", "found", "begin", "end", "first"]
theorem sc_since_spans : FnScope N_since_spans ["one", "other"] (defScope s_since_spans) := ⟨rfl, rfl, rfl, by decide +kernel, rfl, by decide +kernel, by decide +kernel⟩
theorem b_since_spans {f : Addr} {cdv : Value} {A : Around} {outer : List Env} {s : Shared} {H : Hp} {E : XK} {F_spans_of : PFs} {F_between : PFs} {F_first_of : PFs} (B : BT mg) (h_spans_of : HasF P w K mg base C 1 "spans_of" 1 (pF F_spans_of)) (h_between : HasF P w K mg base C 2 "between" 3 (pF F_between)) (h_first_of : HasF P w K mg base C 1 "first_of" 1 (pF F_first_of)) (hr : Room 2 (DX P w K mg base N_since_spans "since_spans" s_since_spans f cdv A outer s H E).A) :
    MSs (DX P w K mg base N_since_spans "since_spans" s_since_spans f cdv A outer s H E) C (defBody s_since_spans) (d_since_spans realA realY F_spans_of F_between F_first_of) :=
    (mss_cons (ms_set (i := 2) sc_since_spans.nd (me_callT c_listM B.list (ma_cons (me_v 1) ma_nil)))
    (mss_cons (ms_for PassesOwn.never rfl (mi_tup (me_v 0)) (mg_tup (n := 2) rfl (mgs_cons (mg_name (i := 3) sc_since_spans.nd) (mgs_cons (mg_name (i := 4) sc_since_spans.nd) mgs_nil))) (mss_cons (ms_set (i := 5) sc_since_spans.nd (me_callF h_first_of (hr.mono (by decide)) (ma_cons (me_callF h_between (hr.mono (by decide)) (ma_cons (me_v 1) (ma_cons (me_callB (c_max2Z rfl) B.max (ma_cons me_int (ma_cons (me_op o_subZ (me_v 3) me_int) ma_nil))) (ma_cons (me_v 4) ma_nil)))) ma_nil)))
    (mss_one (ms_if (mt_cmp o_isnot (me_v 5) me_non) (mss_one (ms_expr (me_append (me_v 2) (ma_cons (me_tup (ma_cons (me_callB (c_max2Z rfl) B.max (ma_cons (me_v 3) (ma_cons (me_v 5) ma_nil))) (ma_cons (me_v 4) ma_nil))) ma_nil)))) mss_nil))))
    (mss_one (ms_ret (me_callL h_spans_of (hr.mono (by decide)) (ma_cons (me_v 2) ma_nil))))))
/-! timed_spans -/
abbrev s_timed_spans : Stmt := topS 64
abbrev N_timed_spans : List Str := ["word", "n", "some", "long", "begin", "end"]
theorem sc_timed_spans : FnScope N_timed_spans ["word", "n", "some", "long"] (defScope s_timed_spans) := ⟨rfl, rfl, rfl, by decide +kernel, rfl, by decide +kernel, by decide +kernel⟩
theorem b_timed_spans {f : Addr} {cdv : Value} {A : Around} {outer : List Env} {s : Shared} {H : Hp} {E : XK} {F_between : PFs} {F_worn : PFs} {F_grown : PFs} {F_later : PFs} {F_points : PFs} (B : BT mg) (h_between : HasF P w K mg base C 2 "between" 3 (pF F_between)) (h_worn : HasF P w K mg base C 1 "worn" 2 (pF F_worn)) (h_grown : HasF P w K mg base C 2 "grown" 2 (pF F_grown)) (h_later : HasF P w K mg base C 1 "later" 2 (pF F_later)) (h_points : HasF P w K mg base C 2 "points" 1 (pF F_points)) (hr : Room 2 (DX P w K mg base N_timed_spans "timed_spans" s_timed_spans f cdv A outer s H E).A) :
    MSs (DX P w K mg base N_timed_spans "timed_spans" s_timed_spans f cdv A outer s H E) C (defBody s_timed_spans) (d_timed_spans realA realY F_between F_worn F_grown F_later F_points) :=
    (mss_cons (ms_if (mt_cmp (o_eq hr.units) (me_v 0) me_str) (mss_one (ms_ret (me_callF h_points (hr.mono (by decide)) (ma_cons (me_lc (own := [("begin", 4), ("end", 5)]) (t := (.tp [4, 5])) rfl sc_timed_spans.nd (mi_tup (me_sl (me_v 2) (mo_some (me_op o_subZ (me_v 1) me_int)) (mo_some (me_v 1)))) (blkOk_by (N := N_timed_spans) (sc := defScope s_timed_spans) (by decide +kernel)) rfl (fun _ _ _ _ _ => tg_tup rfl (tgs_cons (i := 4) sc_timed_spans.nd (tgs_cons (i := 5) sc_timed_spans.nd tgs_nil))) (fun _ _ _ _ _ => mts_nil) (fun _ _ _ _ _ => (me_v 4))) ma_nil)))) mss_nil)
    (mss_cons (ms_if (mt_cmp (o_eq hr.units) (me_v 0) me_str) (mss_one (ms_set (i := 2) sc_timed_spans.nd (me_callF h_later (hr.mono (by decide)) (ma_cons (me_v 2) (ma_cons (me_v 1) ma_nil))))) mss_nil)
    (mss_cons (ms_if (mt_cmp (o_eq hr.units) (me_v 0) me_str) (mss_one (ms_set (i := 2) sc_timed_spans.nd (me_callF h_grown (hr.mono (by decide)) (ma_cons (me_v 2) (ma_cons (me_v 1) ma_nil))))) mss_nil)
    (mss_cons (ms_if (mt_cmp (o_eq hr.units) (me_v 0) me_str) (mss_one (ms_set (i := 2) sc_timed_spans.nd (me_callF h_worn (hr.mono (by decide)) (ma_cons (me_v 2) (ma_cons (me_op o_subZ (me_v 1) me_int) ma_nil))))) mss_nil)
    (mss_one (ms_ret (me_callF h_between (hr.mono (by decide)) (ma_cons (me_v 2) (ma_cons me_int (ma_cons (me_v 3) ma_nil))))))))))
/-! when -/
abbrev s_when : Stmt := topS 65
abbrev N_when : List Str := ["catch", "wish", "word", "things", "long", "one", "other"]
theorem sc_when : FnScope N_when ["catch", "wish"] (defScope s_when) := ⟨rfl, rfl, rfl, by decide +kernel, rfl, by decide +kernel, by decide +kernel⟩
theorem b_when {f : Addr} {cdv : Value} {A : Around} {outer : List Env} {s : Shared} {H : Hp} {E : XK} {F_line_spans : PFs} {F_when : PFs} {F_timed_spans : PFs} {F_since_spans : PFs} {F_either_of : PFs} {F_both_of : PFs} {F_others : PFs} {F_spans_of : PFs} {F_moments_of : PFs} {k kr : Nat} (hkr : kr ≤ k) (hlo : 4 ≤ k) (B : BT mg) (h_line_spans : HasF P w K mg base C 4 "line_spans" 2 (pF F_line_spans)) (h_when : HasF P w K mg base C kr "when" 2 (pF F_when)) (h_timed_spans : HasF P w K mg base C 3 "timed_spans" 4 (pF F_timed_spans)) (h_since_spans : HasF P w K mg base C 3 "since_spans" 2 (pF F_since_spans)) (h_either_of : HasF P w K mg base C 2 "either_of" 2 (pF F_either_of)) (h_both_of : HasF P w K mg base C 1 "both_of" 2 (pF F_both_of)) (h_others : HasF P w K mg base C 1 "others" 2 (pF F_others)) (h_spans_of : HasF P w K mg base C 1 "spans_of" 1 (pF F_spans_of)) (h_moments_of : HasF P w K mg base C 2 "moments_of" 1 (pF F_moments_of)) (hr : Room k (DX P w K mg base N_when "when" s_when f cdv A outer s H E).A) :
    MSs (DX P w K mg base N_when "when" s_when f cdv A outer s H E) C (defBody s_when) (d_when realA realY F_line_spans F_when F_timed_spans F_since_spans F_either_of F_both_of F_others F_spans_of F_moments_of) :=
    (mss_cons (ms_asg (me_v 1) (mg_star (i := 1) rfl (mgs_cons (mg_name (i := 2) sc_when.nd) (mgs_star (mg_name (i := 3) sc_when.nd) mgs_nil))))
    (mss_cons (ms_set (i := 4) sc_when.nd (me_callF h_moments_of (hr.mono (by omega)) (ma_cons (me_v 0) ma_nil)))
    (mss_cons (ms_if (mt_cmp (o_eq hr.units) (me_v 2) me_str) (mss_one (ms_ret (me_callF h_spans_of (hr.mono (by omega)) (ma_cons (me_lst (ma_cons (me_tup (ma_cons me_int (ma_cons (me_v 4) ma_nil))) ma_nil)) ma_nil)))) mss_nil)
    (mss_cons (ms_if (mt_cmp (o_eq hr.units) (me_v 2) me_str) mss_never mss_nil)
    (mss_cons (ms_if (mt_cmp (o_eq hr.units) (me_v 2) me_str) (mss_one (ms_ret (me_callF h_others (hr.mono (by omega)) (ma_cons (me_callF h_when (hr.mono (by omega)) (ma_cons (me_v 0) (ma_cons (me_ixY (me_v 3) me_int) ma_nil))) (ma_cons (me_v 4) ma_nil))))) mss_nil)
    (mss_cons (ms_if (mt_cmp o_inS (me_v 2) (me_tup (ma_cons me_str (ma_cons me_str (ma_cons me_str ma_nil))))) (mss_cons (ms_par (i := 5) (j := 6) rfl sc_when.nd (ma_cons (me_callF h_when (hr.mono (by omega)) (ma_cons (me_v 0) (ma_cons (me_ixY (me_v 3) me_int) ma_nil))) (ma_cons (me_callF h_when (hr.mono (by omega)) (ma_cons (me_v 0) (ma_cons (me_ixY (me_v 3) me_int) ma_nil))) ma_nil)))
    (mss_cons (ms_if (mt_cmp (o_eq hr.units) (me_v 2) me_str) (mss_one (ms_ret (me_callF h_both_of (hr.mono (by omega)) (ma_cons (me_v 5) (ma_cons (me_v 6) ma_nil))))) mss_nil)
    (mss_cons (ms_if (mt_cmp (o_eq hr.units) (me_v 2) me_str) (mss_one (ms_ret (me_callF h_either_of (hr.mono (by omega)) (ma_cons (me_v 5) (ma_cons (me_v 6) ma_nil))))) mss_nil)
    (mss_one (ms_ret (me_callF h_since_spans (hr.mono (by omega)) (ma_cons (me_v 5) (ma_cons (me_v 6) ma_nil)))))))) mss_nil)
    (mss_cons (ms_if (mt_cmp o_inS (me_v 2) (me_tup (ma_cons me_str (ma_cons me_str (ma_cons me_str (ma_cons me_str ma_nil)))))) (mss_one (ms_ret (me_callF h_timed_spans (hr.mono (by omega)) (ma_cons (me_v 2) (ma_cons (me_ixY (me_v 3) me_int) (ma_cons (me_callF h_when (hr.mono (by omega)) (ma_cons (me_v 0) (ma_cons (me_ixY (me_v 3) me_int) ma_nil))) (ma_cons (me_v 4) ma_nil))))))) mss_nil)
    (mss_one (ms_ret (me_callF h_line_spans (hr.mono (by omega)) (ma_cons (me_v 0) (ma_cons (me_v 1) ma_nil))))))))))))
/-! lw_box -/
abbrev s_lw_box : Stmt := topS 67
abbrev N_lw_box : List Str := ["_law_script", "_law_k", "_law_cell", "_law_seed"]
theorem sc_lw_box : FnScope N_lw_box ["_law_script", "_law_k"] (defScope s_lw_box) := ⟨rfl, rfl, rfl, by decide +kernel, rfl, by decide +kernel, by decide +kernel⟩
theorem b_lw_box {f : Addr} {cdv : Value} {A : Around} {outer : List Env} {s : Shared} {H : Hp} {E : XK} (B : BT mg) (hr : Room 0 (DX P w K mg base N_lw_box "_law_box" s_lw_box f cdv A outer s H E).A) :
    MSs (DX P w K mg base N_lw_box "_law_box" s_lw_box f cdv A outer s H E) C (defBody s_lw_box) (d_lw_box realA realY ) :=
    (mss_cons (ms_set (i := 2) sc_lw_box.nd (me_op o_addY (me_op o_mulZ me_int (me_v 1)) me_int))
    (mss_cons (ms_if (mt_cmp o_ltZ (me_v 1) (me_callB (c_lenY) B.len (ma_cons (me_v 0) ma_nil))) (mss_one (ms_set (i := 2) sc_lw_box.nd (me_ixY (me_v 0) (me_v 1)))) (mss_one (ms_if (mt_cmp o_gtZ (me_callB (c_lenY) B.len (ma_cons (me_v 0) ma_nil)) me_int) (mss_one (ms_set (i := 2) sc_lw_box.nd (me_op o_addY (me_v 2) (me_op o_mulZ (me_op o_modZ (me_callT c_int B.int (ma_cons (me_ixY (me_v 0) (me_op o_modZ (me_callT c_int B.int (ma_cons (me_v 1) ma_nil)) (me_callB (c_lenY) B.len (ma_cons (me_v 0) ma_nil)))) ma_nil)) me_int) me_int)))) mss_nil)))
    (mss_cons (ms_set (i := 3) sc_lw_box.nd (me_op o_addY (me_op o_modZ (me_op o_addY (me_op o_mulZ (me_op o_modZ (me_callT c_int B.int (ma_cons (me_v 2) ma_nil)) me_int) me_int) (me_op o_mulZ me_int (me_v 1))) me_int) me_int))
    (mss_one (ms_ret (me_lstM (ma_cons (me_ixY (me_lst (ma_cons me_int (ma_cons (me_v 2) ma_nil))) (me_callT c_int B.int (ma_cons (me_cmp o_geZ (me_v 2) (me_op o_pow me_int me_int)) ma_nil))) (ma_cons (me_v 3) (ma_cons me_int ma_nil)))))))))
/-! lw_take -/
abbrev s_lw_take : Stmt := topS 68
abbrev N_lw_take : List Str := ["_law_box_here", "_law_many_here", "_law_digit", "_law_one"]
theorem sc_lw_take : FnScope N_lw_take ["_law_box_here", "_law_many_here"] (defScope s_lw_take) := ⟨rfl, rfl, rfl, by decide +kernel, rfl, by decide +kernel, by decide +kernel⟩
theorem b_lw_take {f : Addr} {cdv : Value} {A : Around} {outer : List Env} {s : Shared} {H : Hp} {E : XK} (B : BT mg) (hr : Room 0 (DX P w K mg base N_lw_take "_law_take" s_lw_take f cdv A outer s H E).A) :
    MSs (DX P w K mg base N_lw_take "_law_take" s_lw_take f cdv A outer s H E) C (defBody s_lw_take) (d_lw_take realA realY ) :=
    (mss_cons (ms_if (mt_cmp o_gtZ (me_ixY (me_v 0) me_int) me_int) (mss_cons (ms_set (i := 2) sc_lw_take.nd (me_op o_modZ (me_callT c_int B.int (ma_cons (me_ixY (me_v 0) me_int) ma_nil)) (me_v 1)))
    (mss_cons (ms_asg (me_op o_fdivZ (me_ixY (me_v 0) me_int) (me_v 1)) (mg_sub (me_v 0) me_int p_setLY))
    (mss_one (ms_ret (me_v 2))))) mss_nil)
    (mss_cons (ms_asg (me_op o_addY (me_ixY (me_v 0) me_int) me_int) (mg_sub (me_v 0) me_int p_setLY))
    (mss_cons (ms_set (i := 3) sc_lw_take.nd (me_op o_modZ (me_callT c_int B.int (ma_cons (me_op o_mulZ (me_op o_addY (me_ixY (me_v 0) me_int) (me_op o_mulZ me_int (me_ixY (me_v 0) me_int))) me_int) ma_nil)) me_int))
    (mss_cons (ms_asg (me_op o_addY (me_op o_modZ (me_op o_addY (me_op o_mulZ (me_v 3) me_int) me_int) me_int) me_int) (mg_sub (me_v 0) me_int p_setLY))
    (mss_one (ms_ret (me_op o_modZ (me_op o_fdivZ (me_op o_addY (me_op o_mulZ (me_v 3) me_int) (me_ixY (me_v 0) me_int)) me_int) (me_v 1))))))))
/-! lw_names -/
abbrev s_lw_names : Stmt := topS 69
abbrev N_lw_names : List Str := ["_law_box_here", "_law_many_here", "_law_letters", "_law_words", "_law_stem", "_law_at", "_law_turn", "_law_found", "_law_k", "_law_name"]
theorem sc_lw_names : FnScope N_lw_names ["_law_box_here", "_law_many_here"] (defScope s_lw_names) := ⟨rfl, rfl, rfl, by decide +kernel, rfl, by decide +kernel, by decide +kernel⟩
theorem b_lw_names {f : Addr} {cdv : Value} {A : Around} {outer : List Env} {s : Shared} {H : Hp} {E : XK} {F_lw_take : BFs} (B : BT mg) (h_lw_take : HasF P w K mg base C 1 "_law_take" 2 (bF F_lw_take)) (hr : Room 1 (DX P w K mg base N_lw_names "_law_names" s_lw_names f cdv A outer s H E).A) :
    MSs (DX P w K mg base N_lw_names "_law_names" s_lw_names f cdv A outer s H E) C (defBody s_lw_names) (d_lw_names realA realY F_lw_take) :=
    (mss_cons (ms_set (i := 2) sc_lw_names.nd me_str)
    (mss_cons (ms_set (i := 3) sc_lw_names.nd (me_lst (ma_cons me_str (ma_cons me_str (ma_cons me_str (ma_cons me_str (ma_cons me_str (ma_cons me_str (ma_cons me_str (ma_cons me_str (ma_cons me_str (ma_cons me_str (ma_cons me_str (ma_cons me_str ma_nil))))))))))))))
    (mss_cons (ms_set (i := 4) sc_lw_names.nd (me_join me_str (me_lc (own := [("_law_k", 8)]) (t := (.nm 8)) rfl sc_lw_names.nd (mi_range1Y B.range (ma_cons (me_callB1 h_lw_take (hr.mono (by decide)) (ma_cons (me_v 0) (ma_cons me_int ma_nil))) ma_nil)) (blkOk_by (N := N_lw_names) (sc := defScope s_lw_names) (by decide +kernel)) rfl (fun _ _ _ _ _ => tg_name (i := 8) sc_lw_names.nd) (fun _ _ _ _ _ => mts_nil) (fun _ _ _ _ _ => (me_ixY (me_v 2) (me_callB1 h_lw_take (hr.mono (by decide)) (ma_cons (me_v 0) (ma_cons me_int ma_nil))))))))
    (mss_cons (ms_par (i := 5) (j := 6) rfl sc_lw_names.nd (ma_cons (me_callB1 h_lw_take (hr.mono (by decide)) (ma_cons (me_v 0) (ma_cons (me_op o_addY (me_callB (c_lenY) B.len (ma_cons (me_v 4) ma_nil)) me_int) ma_nil))) (ma_cons (me_callB1 h_lw_take (hr.mono (by decide)) (ma_cons (me_v 0) (ma_cons me_int ma_nil))) ma_nil)))
    (mss_cons (ms_set (i := 7) sc_lw_names.nd (me_lstM ma_nil))
    (mss_cons (ms_for PassesOwn.never rfl (mi_range1Y B.range (ma_cons (me_v 1) ma_nil)) (mg_name (i := 8) sc_lw_names.nd) (mss_cons (ms_set (i := 9) sc_lw_names.nd (me_op o_addY (me_op o_addY (me_sl (me_v 4) mo_none (mo_some (me_v 5))) (me_ixY (me_v 2) (me_op o_modZ (me_op o_addY (me_v 6) (me_op o_mulZ me_int (me_v 8))) me_int))) (me_sl (me_v 4) (mo_some (me_v 5)) mo_none)))
    (mss_cons (ms_if (mt_cmp (o_eq hr.units) (me_callB1 h_lw_take (hr.mono (by decide)) (ma_cons (me_v 0) (ma_cons me_int ma_nil))) me_int) (mss_one (ms_set (i := 9) sc_lw_names.nd (me_ixY (me_v 3) (me_callB1 h_lw_take (hr.mono (by decide)) (ma_cons (me_v 0) (ma_cons me_int ma_nil)))))) mss_nil)
    (mss_cons (ms_while PassesOwn.never (mt_cmp o_inSY (me_v 9) (me_v 7)) (mss_one (ms_set (i := 9) sc_lw_names.nd (me_op o_addY (me_ixY (me_v 2) (me_op o_modZ (me_op o_addY (me_index rfl (me_v 2) (ma_cons (me_ixY (me_v 9) me_int) ma_nil)) me_int) me_int)) (me_sl (me_v 9) (mo_some me_int) mo_none)))))
    (mss_one (ms_expr (me_append (me_v 7) (ma_cons (me_v 9) ma_nil))))))))
    (mss_one (ms_ret (me_v 7)))))))))
/-! lw_inner -/
abbrev s_lw_inner : Stmt := topS 70
abbrev N_lw_inner : List Str := ["_law_wish", "_law_thing"]
theorem sc_lw_inner : FnScope N_lw_inner ["_law_wish"] (defScope s_lw_inner) := ⟨rfl, rfl, rfl, by decide +kernel, rfl, by decide +kernel, by decide +kernel⟩
theorem b_lw_inner {f : Addr} {cdv : Value} {A : Around} {outer : List Env} {s : Shared} {H : Hp} {E : XK} (B : BT mg) (hr : Room 0 (DX P w K mg base N_lw_inner "_law_inner" s_lw_inner f cdv A outer s H E).A) :
    MSs (DX P w K mg base N_lw_inner "_law_inner" s_lw_inner f cdv A outer s H E) C (defBody s_lw_inner) (d_lw_inner realA realY ) :=
    (mss_one (ms_ret (me_lc (own := [("_law_thing", 1)]) (t := (.nm 1)) rfl sc_lw_inner.nd (mi_tup (me_sl (me_v 0) (mo_some me_int) mo_none)) (blkOk_by (N := N_lw_inner) (sc := defScope s_lw_inner) (by decide +kernel)) rfl (fun _ _ _ _ _ => tg_name (i := 1) sc_lw_inner.nd) (fun _ _ _ _ _ => mts_one (PW.pt (mw_and (mt_val (me_isi B.isinstance (me_v 1) B.tuple)) (mw_and1 (mt_cmp (o_ne hr.units) (me_ixY (me_v 0) me_int) me_str))))) (fun _ _ _ _ _ => (me_v 1)))))
/-! lw_same -/
abbrev s_lw_same : Stmt := topS 71
abbrev N_lw_same : List Str := ["_law_found", "_law_due_here", "_law_left", "_law_one", "_law_other"]
theorem sc_lw_same : FnScope N_lw_same ["_law_found", "_law_due_here"] (defScope s_lw_same) := ⟨rfl, rfl, rfl, by decide +kernel, rfl, by decide +kernel, by decide +kernel⟩
theorem b_lw_same {f : Addr} {cdv : Value} {A : Around} {outer : List Env} {s : Shared} {H : Hp} {E : XK} (B : BT mg) (hr : Room 0 (DX P w K mg base N_lw_same "_law_same" s_lw_same f cdv A outer s H E).A) :
    MSs (DX P w K mg base N_lw_same "_law_same" s_lw_same f cdv A outer s H E) C (defBody s_lw_same) (d_lw_same realA realY ) :=
    (mss_cons (ms_set (i := 2) sc_lw_same.nd (me_lstM (ma_cons (me_tup (ma_cons (me_v 0) (ma_cons (me_v 1) ma_nil))) ma_nil)))
    (mss_cons (ms_while PassesOwn.never (mt_cmp o_gtZ (me_callB (c_lenY) B.len (ma_cons (me_v 2) ma_nil)) me_int) (mss_cons (ms_asg (me_pop (me_v 2)) (mg_tup (n := 2) rfl (mgs_cons (mg_name (i := 3) sc_lw_same.nd) (mgs_cons (mg_name (i := 4) sc_lw_same.nd) mgs_nil))))
    (mss_one (ms_if (mt_val (me_isi2 B.isinstance (me_v 4) B.tuple B.list)) mss_never (mss_one (ms_if (PW.pt (mw_or (mt_val (me_isi2 B.isinstance (me_v 3) B.tuple B.list)) (mw_or1 (mt_cmp (o_ne hr.units) (me_isi B.isinstance (me_v 3) B.bool) (me_isi B.isinstance (me_v 4) B.bool))))) (mss_one (ms_ret me_bl)) (mss_one (ms_if (PW.pt (mw_or (mt_cmp (o_ne hr.units) (me_isi B.isinstance (me_v 3) B.int) (me_isi B.isinstance (me_v 4) B.int)) (mw_or1 (mt_cmp (o_ne hr.units) (me_v 3) (me_v 4))))) (mss_one (ms_ret me_bl)) mss_nil))))))))
    (mss_one (ms_ret me_bl))))
/-! lw_small_leaf -/
abbrev s_lw_small_leaf : Stmt := topS 72
abbrev N_lw_small_leaf : List Str := ["_law_box_here", "_law_names_here", "_law_x", "_law_form", "_law_low", "_law_high"]
theorem sc_lw_small_leaf : FnScope N_lw_small_leaf ["_law_box_here", "_law_names_here"] (defScope s_lw_small_leaf) := ⟨rfl, rfl, rfl, by decide +kernel, rfl, by decide +kernel, by decide +kernel⟩
theorem b_lw_small_leaf {f : Addr} {cdv : Value} {A : Around} {outer : List Env} {s : Shared} {H : Hp} {E : XK} {F_lw_take : BFs} (B : BT mg) (h_lw_take : HasF P w K mg base C 1 "_law_take" 2 (bF F_lw_take)) (hr : Room 1 (DX P w K mg base N_lw_small_leaf "_law_small_leaf" s_lw_small_leaf f cdv A outer s H E).A) :
    MSs (DX P w K mg base N_lw_small_leaf "_law_small_leaf" s_lw_small_leaf f cdv A outer s H E) C (defBody s_lw_small_leaf) (d_lw_small_leaf realA realY F_lw_take) :=
    (mss_cons (ms_par3 (i := 2) (j := 3) (l := 4) rfl sc_lw_small_leaf.nd (ma_cons (me_ixY (me_v 1) (me_callB1 h_lw_take (hr.mono (by decide)) (ma_cons (me_v 0) (ma_cons (me_callB (c_lenY) B.len (ma_cons (me_v 1) ma_nil)) ma_nil)))) (ma_cons (me_callB1 h_lw_take (hr.mono (by decide)) (ma_cons (me_v 0) (ma_cons me_int ma_nil))) (ma_cons (me_callB1 h_lw_take (hr.mono (by decide)) (ma_cons (me_v 0) (ma_cons me_int ma_nil))) ma_nil))))
    (mss_cons (ms_set (i := 5) sc_lw_small_leaf.nd (me_op o_addY (me_v 4) (me_callB1 h_lw_take (hr.mono (by decide)) (ma_cons (me_v 0) (ma_cons (me_op o_subZ me_int (me_v 4)) ma_nil)))))
    (mss_cons (ms_if (mt_cmp (o_eq hr.units) (me_v 3) me_int) (mss_one (ms_ret (me_tup (ma_cons me_str ma_nil)))) mss_nil)
    (mss_cons (ms_if (mt_cmp (o_eq hr.units) (me_v 3) me_int) (mss_one (ms_ret (me_tup (ma_cons me_str (ma_cons (me_v 2) (ma_cons (me_callB1 h_lw_take (hr.mono (by decide)) (ma_cons (me_v 0) (ma_cons me_int ma_nil))) (ma_cons (me_v 4) (ma_cons (me_v 5) ma_nil)))))))) mss_nil)
    (mss_cons (ms_if (mt_cmp (o_eq hr.units) (me_v 3) me_int) (mss_one (ms_ret (me_tup (ma_cons me_str (ma_cons (me_v 2) (ma_cons (me_op o_addY me_int (me_callB1 h_lw_take (hr.mono (by decide)) (ma_cons (me_v 0) (ma_cons me_int ma_nil)))) (ma_cons (me_v 4) (ma_cons (me_v 5) ma_nil)))))))) mss_nil)
    (mss_one (ms_ret (me_tup (ma_cons (me_ixY (me_lst (ma_cons me_str (ma_cons me_str (ma_cons me_str (ma_cons me_str ma_nil))))) (me_op o_modZ (me_callT c_int B.int (ma_cons (me_v 3) ma_nil)) me_int)) (ma_cons (me_v 2) ma_nil))))))))))
/-! lw_small -/
abbrev s_lw_small : Stmt := topS 73
abbrev N_lw_small : List Str := ["_law_box_here", "_law_names_here", "_law_room", "_law_form", "_law_word", "_law_inner_here", "_law_n", "_law_left", "_law_one", "_law_other"]
theorem sc_lw_small : FnScope N_lw_small ["_law_box_here", "_law_names_here", "_law_room"] (defScope s_lw_small) := ⟨rfl, rfl, rfl, by decide +kernel, rfl, by decide +kernel, by decide +kernel⟩
theorem b_lw_small {f : Addr} {cdv : Value} {A : Around} {outer : List Env} {s : Shared} {H : Hp} {E : XK} {F_lw_small : BFs} {F_lw_take : BFs} {F_lw_small_leaf : BFs} {k kr : Nat} (hkr : kr ≤ k) (hlo : 2 ≤ k) (B : BT mg) (h_lw_small : HasF P w K mg base C kr "_law_small" 3 (bF F_lw_small)) (h_lw_take : HasF P w K mg base C 1 "_law_take" 2 (bF F_lw_take)) (h_lw_small_leaf : HasF P w K mg base C 2 "_law_small_leaf" 2 (bF F_lw_small_leaf)) (hr : Room k (DX P w K mg base N_lw_small "_law_small" s_lw_small f cdv A outer s H E).A) :
    MSs (DX P w K mg base N_lw_small "_law_small" s_lw_small f cdv A outer s H E) C (defBody s_lw_small) (d_lw_small realA realY F_lw_small F_lw_take F_lw_small_leaf) :=
    (mss_cons (ms_set (i := 3) sc_lw_small.nd (me_callB1 h_lw_take (hr.mono (by omega)) (ma_cons (me_v 0) (ma_cons me_int ma_nil))))
    (mss_cons (ms_if (PW.pt (mw_or (mt_cmp o_ltZ (me_v 2) me_int) (mw_or1 (mt_cmp (o_eq hr.units) (me_v 3) me_int)))) (mss_one (ms_ret (me_callB1 h_lw_small_leaf (hr.mono (by omega)) (ma_cons (me_v 0) (ma_cons (me_v 1) ma_nil))))) mss_nil)
    (mss_cons (ms_if (PW.pt (mw_or (mt_cmp o_ltZ (me_v 3) me_int) (mw_or1 (mt_cmp o_ltZ (me_v 2) me_int)))) (mss_cons (ms_set (i := 4) sc_lw_small.nd (me_ixY (me_lst (ma_cons me_str (ma_cons me_str (ma_cons me_str (ma_cons me_str (ma_cons me_str ma_nil)))))) (me_op o_modZ (me_callT c_int B.int (ma_cons (me_v 3) ma_nil)) me_int)))
    (mss_cons (ms_set (i := 5) sc_lw_small.nd (me_callB1 h_lw_small (hr.mono (by omega)) (ma_cons (me_v 0) (ma_cons (me_v 1) (ma_cons (me_op o_subZ (me_v 2) me_int) ma_nil)))))
    (mss_cons (ms_set (i := 6) sc_lw_small.nd (me_ixY (me_lst (ma_cons (me_callB1 h_lw_take (hr.mono (by omega)) (ma_cons (me_v 0) (ma_cons me_int ma_nil))) (ma_cons (me_op o_addY me_int (me_callB1 h_lw_take (hr.mono (by omega)) (ma_cons (me_v 0) (ma_cons me_int ma_nil)))) ma_nil))) (me_callT c_int B.int (ma_cons (me_cmp o_inS (me_v 4) (me_tup (ma_cons me_str (ma_cons me_str ma_nil)))) ma_nil))))
    (mss_one (ms_ret (me_ixY (me_lst (ma_cons (me_tup (ma_cons (me_v 4) (ma_cons (me_v 6) (ma_cons (me_v 5) ma_nil)))) (ma_cons (me_tup (ma_cons me_str (ma_cons (me_v 5) ma_nil))) ma_nil))) (me_callT c_int B.int (ma_cons (me_cmp (o_eq hr.units) (me_v 4) me_str) ma_nil)))))))) mss_nil)
    (mss_cons (ms_set (i := 7) sc_lw_small.nd (me_op o_addY me_int (me_callB1 h_lw_take (hr.mono (by omega)) (ma_cons (me_v 0) (ma_cons (me_op o_subZ (me_v 2) me_int) ma_nil)))))
    (mss_cons (ms_par (i := 8) (j := 9) rfl sc_lw_small.nd (ma_cons (me_callB1 h_lw_small (hr.mono (by omega)) (ma_cons (me_v 0) (ma_cons (me_v 1) (ma_cons (me_v 7) ma_nil)))) (ma_cons (me_callB1 h_lw_small (hr.mono (by omega)) (ma_cons (me_v 0) (ma_cons (me_v 1) (ma_cons (me_op o_subZ (me_op o_subZ (me_v 2) me_int) (me_v 7)) ma_nil)))) ma_nil)))
    (mss_one (ms_ret (me_tup (ma_cons (me_ixY (me_lst (ma_cons me_str (ma_cons me_str (ma_cons me_str ma_nil)))) (me_op o_modZ (me_callT c_int B.int (ma_cons (me_v 3) ma_nil)) me_int)) (ma_cons (me_v 8) (ma_cons (me_v 9) ma_nil)))))))))))
/-! lw_size -/
abbrev s_lw_size : Stmt := topS 74
abbrev N_lw_size : List Str := ["_law_wish", "_law_one"]
theorem sc_lw_size : FnScope N_lw_size ["_law_wish"] (defScope s_lw_size) := ⟨rfl, rfl, rfl, by decide +kernel, rfl, by decide +kernel, by decide +kernel⟩
theorem b_lw_size {f : Addr} {cdv : Value} {A : Around} {outer : List Env} {s : Shared} {H : Hp} {E : XK} {F_lw_inner : PFs} {F_lw_size : PFs} {k kr : Nat} (hkr : kr ≤ k) (hlo : 1 ≤ k) (B : BT mg) (h_lw_inner : HasF P w K mg base C 1 "_law_inner" 1 (pF F_lw_inner)) (h_lw_size : HasF P w K mg base C kr "_law_size" 1 (pF F_lw_size)) (hr : Room k (DX P w K mg base N_lw_size "_law_size" s_lw_size f cdv A outer s H E).A) :
    MSs (DX P w K mg base N_lw_size "_law_size" s_lw_size f cdv A outer s H E) C (defBody s_lw_size) (d_lw_size realA realY F_lw_inner F_lw_size) :=
    (mss_one (ms_ret (me_op o_addY me_int (me_callB (c_sumY rfl) B.sum (ma_cons (me_lc (own := [("_law_one", 1)]) (t := (.nm 1)) rfl sc_lw_size.nd (mi_list (me_callF h_lw_inner (hr.mono (by omega)) (ma_cons (me_v 0) ma_nil))) (blkOk_by (N := N_lw_size) (sc := defScope s_lw_size) (by decide +kernel)) rfl (fun _ _ _ _ _ => tg_name (i := 1) sc_lw_size.nd) (fun _ _ _ _ _ => mts_nil) (fun _ _ _ _ _ => (me_callF h_lw_size (hr.mono (by omega)) (ma_cons (me_v 1) ma_nil)))) ma_nil)))))
/-! lw_line -/
abbrev s_lw_line : Stmt := topS 75
abbrev N_lw_line : List Str := ["_law_box_here", "_law_moments", "_law_level", "_law_found", "_law_left", "_law_long"]
theorem sc_lw_line : FnScope N_lw_line ["_law_box_here", "_law_moments"] (defScope s_lw_line) := ⟨rfl, rfl, rfl, by decide +kernel, rfl, by decide +kernel, by decide +kernel⟩
theorem b_lw_line {f : Addr} {cdv : Value} {A : Around} {outer : List Env} {s : Shared} {H : Hp} {E : XK} {F_lw_take : BFs} (B : BT mg) (h_lw_take : HasF P w K mg base C 1 "_law_take" 2 (bF F_lw_take)) (hr : Room 1 (DX P w K mg base N_lw_line "_law_line" s_lw_line f cdv A outer s H E).A) :
    MSs (DX P w K mg base N_lw_line "_law_line" s_lw_line f cdv A outer s H E) C (defBody s_lw_line) (d_lw_line realA realY F_lw_take) :=
    (mss_cons (ms_par3 (i := 2) (j := 3) (l := 4) rfl sc_lw_line.nd (ma_cons (me_callB1 h_lw_take (hr.mono (by decide)) (ma_cons (me_v 0) (ma_cons me_int ma_nil))) (ma_cons (me_lstM ma_nil) (ma_cons (me_v 1) ma_nil))))
    (mss_cons (ms_while PassesOwn.never (mt_cmp o_gtZ (me_v 4) me_int) (mss_cons (ms_set (i := 5) sc_lw_line.nd (me_callB (c_min2Z rfl) B.min (ma_cons (me_v 4) (ma_cons (me_op o_addY me_int (me_callB1 h_lw_take (hr.mono (by decide)) (ma_cons (me_v 0) (ma_cons (me_ixY (me_lst (ma_cons me_int (ma_cons me_int (ma_cons me_int (ma_cons me_int ma_nil))))) (me_callB1 h_lw_take (hr.mono (by decide)) (ma_cons (me_v 0) (ma_cons me_int ma_nil)))) ma_nil)))) ma_nil))))
    (mss_cons (ms_expr (me_append (me_v 3) (ma_cons (me_tup (ma_cons (me_v 2) (ma_cons (me_v 5) ma_nil))) ma_nil)))
    (mss_one (ms_par (i := 2) (j := 4) rfl sc_lw_line.nd (ma_cons (me_op o_subZ me_int (me_v 2)) (ma_cons (me_op o_subZ (me_v 4) (me_v 5)) ma_nil)))))))
    (mss_one (ms_ret (me_callT c_tuple B.tuple (ma_cons (me_v 3) ma_nil))))))
/-! lw_many -/
abbrev s_lw_many : Stmt := topS 76
abbrev N_lw_many : List Str := ["_law_catch", "_law_level", "_law_long"]
theorem sc_lw_many : FnScope N_lw_many ["_law_catch"] (defScope s_lw_many) := ⟨rfl, rfl, rfl, by decide +kernel, rfl, by decide +kernel, by decide +kernel⟩
theorem b_lw_many {f : Addr} {cdv : Value} {A : Around} {outer : List Env} {s : Shared} {H : Hp} {E : XK} (B : BT mg) (hr : Room 0 (DX P w K mg base N_lw_many "_law_many" s_lw_many f cdv A outer s H E).A) :
    MSs (DX P w K mg base N_lw_many "_law_many" s_lw_many f cdv A outer s H E) C (defBody s_lw_many) (d_lw_many realA realY ) :=
    (mss_cons (ms_if (mt_cmp o_is (me_v 0) me_non) (mss_one (ms_ret me_non)) mss_nil)
    (mss_one (ms_ret (me_callB (c_sumY rfl) B.sum (ma_cons (me_lc (own := [("_law_level", 1), ("_law_long", 2)]) (t := (.tp [1, 2])) rfl sc_lw_many.nd (mi_tup (me_ixY (me_ixY (me_v 0) me_int) me_int)) (blkOk_by (N := N_lw_many) (sc := defScope s_lw_many) (by decide +kernel)) rfl (fun _ _ _ _ _ => tg_tup rfl (tgs_cons (i := 1) sc_lw_many.nd (tgs_cons (i := 2) sc_lw_many.nd tgs_nil))) (fun _ _ _ _ _ => mts_nil) (fun _ _ _ _ _ => (me_v 2))) ma_nil)))))
/-! lw_told -/
abbrev s_lw_told : Stmt := topS 77
abbrev N_lw_told : List Str := ["_law_names_here", "_law_one", "_law_other", "_law_found"]
theorem sc_lw_told : FnScope N_lw_told ["_law_names_here", "_law_one", "_law_other"] (defScope s_lw_told) := ⟨rfl, rfl, rfl, by decide +kernel, rfl, by decide +kernel, by decide +kernel⟩
theorem b_lw_told {f : Addr} {cdv : Value} {A : Around} {outer : List Env} {s : Shared} {H : Hp} {E : XK} {F_lw_many : PFs} {F_wishes_alike : PFs} (B : BT mg) (h_lw_many : HasF P w K mg base C 1 "_law_many" 1 (pF F_lw_many)) (h_wishes_alike : HasF P w K mg base C 15 "wishes_alike" 3 (pF F_wishes_alike)) (hr : Room 15 (DX P w K mg base N_lw_told "_law_told" s_lw_told f cdv A outer s H E).A) :
    MSs (DX P w K mg base N_lw_told "_law_told" s_lw_told f cdv A outer s H E) C (defBody s_lw_told) (d_lw_told realA realY F_lw_many F_wishes_alike) :=
    (mss_cons (ms_set (i := 3) sc_lw_told.nd (me_callF h_wishes_alike (hr.mono (by decide)) (ma_cons (me_v 0) (ma_cons (me_v 1) (ma_cons (me_v 2) ma_nil)))))
    (mss_cons (ms_if (mt_cmp (o_eq hr.units) (me_v 3) (me_tup (ma_cons me_str ma_nil))) (mss_one (ms_ret me_non)) mss_nil)
    (mss_one (ms_ret (me_callF h_lw_many (hr.mono (by decide)) (ma_cons (me_ixY (me_v 3) me_int) ma_nil))))))
/-! lw_due -/
abbrev s_lw_due : Stmt := topS 78
abbrev N_lw_due : List Str := ["_law_names_here", "_law_one", "_law_other", "_law_some", "_law_longs", "_law_catch"]
theorem sc_lw_due : FnScope N_lw_due ["_law_names_here", "_law_one", "_law_other"] (defScope s_lw_due) := ⟨rfl, rfl, rfl, by decide +kernel, rfl, by decide +kernel, by decide +kernel⟩
theorem b_lw_due {f : Addr} {cdv : Value} {A : Around} {outer : List Env} {s : Shared} {H : Hp} {E : XK} {F_lw_many : PFs} {F_soonest : PFs} (B : BT mg) (h_lw_many : HasF P w K mg base C 1 "_law_many" 1 (pF F_lw_many)) (h_soonest : HasF P w K mg base C 15 "soonest" 2 (pF F_soonest)) (hr : Room 15 (DX P w K mg base N_lw_due "_law_due" s_lw_due f cdv A outer s H E).A) :
    MSs (DX P w K mg base N_lw_due "_law_due" s_lw_due f cdv A outer s H E) C (defBody s_lw_due) (d_lw_due realA realY F_lw_many F_soonest) :=
    (mss_cons (ms_set (i := 3) sc_lw_due.nd (me_lst (ma_cons (me_callF h_soonest (hr.mono (by decide)) (ma_cons (me_v 0) (ma_cons (me_tup (ma_cons me_str (ma_cons (me_v 1) (ma_cons (me_tup (ma_cons me_str (ma_cons (me_v 2) ma_nil))) ma_nil)))) ma_nil))) (ma_cons (me_callF h_soonest (hr.mono (by decide)) (ma_cons (me_v 0) (ma_cons (me_tup (ma_cons me_str (ma_cons (me_tup (ma_cons me_str (ma_cons (me_v 1) ma_nil))) (ma_cons (me_v 2) ma_nil)))) ma_nil))) ma_nil))))
    (mss_cons (ms_lc (own := [("_law_catch", 5)]) (t := (.nm 5)) rfl sc_lw_due.nd (mi_list (me_v 3)) (blkOk_by (N := N_lw_due) (sc := defScope s_lw_due) (by decide +kernel)) rfl (fun _ _ _ _ _ => tg_name (i := 5) sc_lw_due.nd) (fun _ _ _ _ _ => mts_one (mt_cmp o_isnot (me_v 5) me_non)) (fun _ _ _ _ _ => (me_callF h_lw_many (hr.mono (by decide)) (ma_cons (me_v 5) ma_nil))) (sw_true rfl rfl rfl (by decide +kernel)) (i := 4))
    (mss_one (ms_ret (me_if (mt_cmp (o_ne hr.units) (me_v 4) (me_lst ma_nil)) (me_callB (c_minLY rfl) B.min (ma_cons (me_op o_addY (me_v 4) (me_lst (ma_cons (me_op o_pow me_int me_int) ma_nil))) ma_nil)) me_non)))))
/-! law -/
abbrev s_law : Stmt := topS 79
abbrev N_law : List Str := ["_law_script", "_law_k", "_law_box_here", "_law_names_here", "_law_one", "_law_other", "_law_some", "_law_due_here", "_law_turn", "_law_moments", "_law_catch", "_law_name"]
theorem sc_law : FnScope N_law ["_law_script"] (defScope s_law) := ⟨rfl, rfl, rfl, by decide +kernel, rfl, by decide +kernel, by decide +kernel⟩
theorem b_law {f : Addr} {cdv : Value} {A : Around} {outer : List Env} {s : Shared} {H : Hp} {E : XK} {F_when : PFs} {F_lw_line : BFs} {F_lw_take : BFs} {F_lw_told : PFs} {F_lw_same : PFs} {F_lw_due : PFs} {F_lw_size : PFs} {F_lw_small : BFs} {F_lw_names : BFs} {F_lw_box : PFs} (B : BT mg) (h_when : HasF P w K mg base C 13 "when" 2 (pF F_when)) (h_lw_line : HasF P w K mg base C 2 "_law_line" 2 (bF F_lw_line)) (h_lw_take : HasF P w K mg base C 1 "_law_take" 2 (bF F_lw_take)) (h_lw_told : HasF P w K mg base C 16 "_law_told" 3 (pF F_lw_told)) (h_lw_same : HasF P w K mg base C 1 "_law_same" 2 (pF F_lw_same)) (h_lw_due : HasF P w K mg base C 16 "_law_due" 3 (pF F_lw_due)) (h_lw_size : HasF P w K mg base C 10 "_law_size" 1 (pF F_lw_size)) (h_lw_small : HasF P w K mg base C 8 "_law_small" 3 (bF F_lw_small)) (h_lw_names : HasF P w K mg base C 2 "_law_names" 2 (bF F_lw_names)) (h_lw_box : HasN P w K mg base C 1 "_law_box" 2 F_lw_box) (hr : Room 16 (DX P w K mg base N_law "law" s_law f cdv A outer s H E).A) :
    MSs (DX P w K mg base N_law "law" s_law f cdv A outer s H E) C (defBody s_law) (d_law realA realY F_when F_lw_line F_lw_take F_lw_told F_lw_same F_lw_due F_lw_size F_lw_small F_lw_names F_lw_box) :=
    (mss_cons (ms_for PassesOwn.never rfl (mi_range1Y B.range (ma_cons (me_callB (c_max2Z rfl) B.max (ma_cons me_int (ma_cons (me_callB (c_min2Z rfl) B.min (ma_cons me_int (ma_cons (me_callB (c_lenY) B.len (ma_cons (me_v 0) ma_nil)) ma_nil))) ma_nil))) ma_nil)) (mg_name (i := 1) sc_law.nd) (mss_cons (ms_set (i := 2) sc_law.nd (me_callN h_lw_box (hr.mono (by decide)) (ma_cons (me_v 0) (ma_cons (me_v 1) ma_nil))))
    (mss_cons (ms_set (i := 3) sc_law.nd (me_callB1 h_lw_names (hr.mono (by decide)) (ma_cons (me_v 2) (ma_cons (me_op o_addY me_int (me_callT c_int B.int (ma_cons (me_cmp (o_eq hr.units) (me_callB1 h_lw_take (hr.mono (by decide)) (ma_cons (me_v 2) (ma_cons me_int ma_nil))) me_int) ma_nil))) ma_nil))))
    (mss_cons (ms_set (i := 4) sc_law.nd (me_callB1 h_lw_small (hr.mono (by decide)) (ma_cons (me_v 2) (ma_cons (me_v 3) (ma_cons (me_op o_addY me_int (me_callB1 h_lw_take (hr.mono (by decide)) (ma_cons (me_v 2) (ma_cons me_int ma_nil)))) ma_nil)))))
    (mss_cons (ms_set (i := 5) sc_law.nd (me_callB1 h_lw_small (hr.mono (by decide)) (ma_cons (me_v 2) (ma_cons (me_v 3) (ma_cons (me_op o_subZ me_int (me_callF h_lw_size (hr.mono (by decide)) (ma_cons (me_v 4) ma_nil))) ma_nil)))))
    (mss_cons (ms_if (PW.pt (mw_and (mt_cmp (o_eq hr.units) (me_callB1 h_lw_take (hr.mono (by decide)) (ma_cons (me_v 2) (ma_cons me_int ma_nil))) me_int) (mw_and1 (mt_cmp (o_eq hr.units) (me_callF h_lw_size (hr.mono (by decide)) (ma_cons (me_v 4) ma_nil)) me_int)))) (mss_cons (ms_set (i := 6) sc_law.nd (me_lst (ma_cons (me_tup (ma_cons me_str (ma_cons me_int (ma_cons (me_v 4) ma_nil)))) (ma_cons (me_tup (ma_cons me_str (ma_cons (me_tup (ma_cons me_str (ma_cons (me_v 4) ma_nil))) ma_nil))) (ma_cons (me_tup (ma_cons me_str (ma_cons (me_v 4) (ma_cons (me_v 4) ma_nil)))) (ma_cons (me_tup (ma_cons me_str (ma_cons (me_v 4) (ma_cons (me_v 4) ma_nil)))) ma_nil))))))
    (mss_one (ms_set (i := 5) sc_law.nd (me_ixY (me_v 6) (me_callB1 h_lw_take (hr.mono (by decide)) (ma_cons (me_v 2) (ma_cons me_int ma_nil))))))) mss_nil)
    (mss_cons (ms_set (i := 7) sc_law.nd (me_callF h_lw_due (hr.mono (by decide)) (ma_cons (me_v 3) (ma_cons (me_v 4) (ma_cons (me_v 5) ma_nil)))))
    (mss_cons (ms_if (PW.pt (mw_or (mt_not (mt_val (me_callF h_lw_same (hr.mono (by decide)) (ma_cons (me_callF h_lw_told (hr.mono (by decide)) (ma_cons (me_v 3) (ma_cons (me_v 4) (ma_cons (me_v 5) ma_nil)))) (ma_cons (me_v 7) ma_nil))))) (mw_or1 (mt_not (mt_val (me_callF h_lw_same (hr.mono (by decide)) (ma_cons (me_callF h_lw_told (hr.mono (by decide)) (ma_cons (me_v 3) (ma_cons (me_v 5) (ma_cons (me_v 4) ma_nil)))) (ma_cons (me_v 7) ma_nil)))))))) (mss_one (ms_ret me_bl)) mss_nil)
    (mss_cons (ms_if (mt_not (mt_val (me_callF h_lw_same (hr.mono (by decide)) (ma_cons (me_callF h_lw_told (hr.mono (by decide)) (ma_cons (me_v 3) (ma_cons (me_tup (ma_cons me_str (ma_cons (me_v 4) ma_nil))) (ma_cons (me_tup (ma_cons me_str (ma_cons (me_v 5) ma_nil))) ma_nil)))) (ma_cons (me_v 7) ma_nil))))) (mss_one (ms_ret me_bl)) mss_nil)
    (mss_cons (ms_if (mt_cmp o_isnot (me_callF h_lw_told (hr.mono (by decide)) (ma_cons (me_v 3) (ma_cons (me_v 4) (ma_cons (me_v 4) ma_nil)))) me_non) (mss_one (ms_ret me_bl)) mss_nil)
    (mss_one (ms_for PassesOwn.never rfl (mi_range1Y B.range (ma_cons me_int ma_nil)) (mg_name (i := 8) sc_law.nd) (mss_cons (ms_set (i := 9) sc_law.nd (me_callB1 h_lw_take (hr.mono (by decide)) (ma_cons (me_v 2) (ma_cons me_int ma_nil))))
    (mss_cons (ms_set (i := 10) sc_law.nd (me_callT c_tuple B.tuple (ma_cons (me_lc (own := [("_law_name", 11)]) (t := (.nm 11)) rfl sc_law.nd (mi_list (me_v 3)) (blkOk_by (N := N_law) (sc := defScope s_law) (by decide +kernel)) rfl (fun _ _ _ _ _ => tg_name (i := 11) sc_law.nd) (fun _ _ _ _ _ => mts_nil) (fun _ _ _ _ _ => (me_tup (ma_cons (me_v 11) (ma_cons (me_callB1 h_lw_line (hr.mono (by decide)) (ma_cons (me_v 2) (ma_cons (me_v 9) ma_nil))) ma_nil))))) ma_nil)))
    (mss_one (ms_if (PW.pt (mw_and (mt_cmp o_is (me_v 7) me_non) (mw_and1 (mt_cmp (o_ne hr.units) (me_callF h_when (hr.mono (by decide)) (ma_cons (me_v 10) (ma_cons (me_v 4) ma_nil))) (me_callF h_when (hr.mono (by decide)) (ma_cons (me_v 10) (ma_cons (me_v 5) ma_nil))))))) (mss_one (ms_ret me_bl)) mss_nil))))))))))))))))
    (mss_one (ms_ret me_bl)))
end AL
end
section
set_option Elab.async false
set_option linter.all false
set_option maxRecDepth 100000
set_option maxHeartbeats 1000000
namespace AL
open PySem PySem.Spec PyProof.Rows L2
/-- a def of the text, by its name -/
def DF (K : PySem.W.Frag) (mg : Str → Option Value) (x qual : Str) (st : Stmt) : Prop := ∃ f fd, mg x = some (.ref f) ∧ Fun K x qual st f fd
/-- a method of the text -/
def DM (K : PySem.W.Frag) (C : Addr) (x qual : Str) (st : Stmt) : Prop := ∃ f fd, Meth K C x f ∧ Fun K x qual st f fd
/-- what the top has written -/
structure Tx (K : PySem.W.Frag) (mg : Str → Option Value) (w : World) (C : Addr) : Prop where
  B : BT mg
  cls : Cls K C
  na_rows_of : NoAttr K C "rows_of"
  na_tops : NoAttr K C "tops"
  sorts : ∃ S, HSorts K w S ∧ mg "SORTS" = some (.ref S)
  mC : mg "Stepper" = some (.ref C)
  init : ∃ f fd, Mk K C f ∧ Fun K "__init__" "Stepper.__init__" s___init__ f fd
  put : DM K C "put_part" "Stepper.put_part" s_put_part
  step : DM K C "step" "Stepper.step" s_step
  long_of : DF K mg "long_of" "long_of" s_long_of
  placed : DF K mg "placed" "placed" s_placed
  highs : DF K mg "highs" "highs" s_highs
  runs_of : DF K mg "runs_of" "runs_of" s_runs_of
  comings : DF K mg "comings" "comings" s_comings
  rises : DF K mg "rises" "rises" s_rises
  falls : DF K mg "falls" "falls" s_falls
  moments_of : DF K mg "moments_of" "moments_of" s_moments_of
  line_in : DF K mg "line_in" "line_in" s_line_in
  things_of : DF K mg "things_of" "things_of" s_things_of
  parts_in : DF K mg "parts_in" "parts_in" s_parts_in
  last_of : DF K mg "last_of" "last_of" s_last_of
  step_line : DF K mg "step_line" "step_line" s_step_line
  step_timed : DF K mg "step_timed" "step_timed" s_step_timed
  step_part : DF K mg "step_part" "step_part" s_step_part
  level_rows : DF K mg "level_rows" "level_rows" s_level_rows
  catch_of : DF K mg "catch_of" "catch_of" s_catch_of
  shortest : DF K mg "shortest" "shortest" s_shortest
  wishes_alike : DF K mg "wishes_alike" "wishes_alike" s_wishes_alike
  soonest : DF K mg "soonest" "soonest" s_soonest
  spans_of : DF K mg "spans_of" "spans_of" s_spans_of
  both_of : DF K mg "both_of" "both_of" s_both_of
  either_of : DF K mg "either_of" "either_of" s_either_of
  others : DF K mg "others" "others" s_others
  later : DF K mg "later" "later" s_later
  grown : DF K mg "grown" "grown" s_grown
  worn : DF K mg "worn" "worn" s_worn
  between : DF K mg "between" "between" s_between
  first_of : DF K mg "first_of" "first_of" s_first_of
  points : DF K mg "points" "points" s_points
  pulse_ends : DF K mg "pulse_ends" "pulse_ends" s_pulse_ends
  counted : DF K mg "counted" "counted" s_counted
  line_spans : DF K mg "line_spans" "line_spans" s_line_spans
  since_spans : DF K mg "since_spans" "since_spans" s_since_spans
  timed_spans : DF K mg "timed_spans" "timed_spans" s_timed_spans
  when : DF K mg "when" "when" s_when
  lw_box : DF K mg "_law_box" "_law_box" s_lw_box
  lw_take : DF K mg "_law_take" "_law_take" s_lw_take
  lw_names : DF K mg "_law_names" "_law_names" s_lw_names
  lw_inner : DF K mg "_law_inner" "_law_inner" s_lw_inner
  lw_same : DF K mg "_law_same" "_law_same" s_lw_same
  lw_small_leaf : DF K mg "_law_small_leaf" "_law_small_leaf" s_lw_small_leaf
  lw_small : DF K mg "_law_small" "_law_small" s_lw_small
  lw_size : DF K mg "_law_size" "_law_size" s_lw_size
  lw_line : DF K mg "_law_line" "_law_line" s_lw_line
  lw_many : DF K mg "_law_many" "_law_many" s_lw_many
  lw_told : DF K mg "_law_told" "_law_told" s_lw_told
  lw_due : DF K mg "_law_due" "_law_due" s_lw_due
  law : DF K mg "law" "law" s_law
section
variable {P : Program} {w : World} {K : PySem.W.Frag} {mg : Str → Option Value} {base : Heap} {C : Addr}
theorem k_long_of (T : Tx K mg w C) : HasF P w K mg base C 1 "long_of" 1 (pF F_long_of) := by
  obtain ⟨f, fd, hm, G⟩ := T.long_of
  exact ⟨f, fd, ["line"], hm, G.kp, G.binds (fun _ _ _ _ _ _ us hl => match us, hl with | [_], _ => rfl), rfl, hf_of G sc_long_of (fun cdv A outer s H E hr => b_long_of T.B hr) (SpecP.to (sp_long_of realA_ok realY_ok) N_long_of rfl)⟩
theorem k_placed (T : Tx K mg w C) : HasF P w K mg base C 1 "placed" 1 (pF F_placed) := by
  obtain ⟨f, fd, hm, G⟩ := T.placed
  exact ⟨f, fd, ["line"], hm, G.kp, G.binds (fun _ _ _ _ _ _ us hl => match us, hl with | [_], _ => rfl), rfl, hf_of G sc_placed (fun cdv A outer s H E hr => b_placed T.B hr) (SpecP.to (sp_placed realA_ok realY_ok) N_placed rfl)⟩
theorem k_highs (T : Tx K mg w C) : HasF P w K mg base C 2 "highs" 1 (pF F_highs) := by
  obtain ⟨f, fd, hm, G⟩ := T.highs
  exact ⟨f, fd, ["line"], hm, G.kp, G.binds (fun _ _ _ _ _ _ us hl => match us, hl with | [_], _ => rfl), rfl, hf_of G sc_highs (fun cdv A outer s H E hr => b_highs T.B (k_placed T) hr) (SpecP.to (sp_highs realA_ok realY_ok u_placed) N_highs rfl)⟩
theorem k_runs_of (T : Tx K mg w C) : HasF P w K mg base C 1 "runs_of" 1 (pF F_runs_of) := by
  obtain ⟨f, fd, hm, G⟩ := T.runs_of
  exact ⟨f, fd, ["pieces"], hm, G.kp, G.binds (fun _ _ _ _ _ _ us hl => match us, hl with | [_], _ => rfl), rfl, hf_of G sc_runs_of (fun cdv A outer s H E hr => b_runs_of T.B hr) (SpecP.to (sp_runs_of realA_ok realY_ok) N_runs_of rfl)⟩
theorem k_comings (T : Tx K mg w C) : HasF P w K mg base C 2 "comings" 2 (pF F_comings) := by
  obtain ⟨f, fd, hm, G⟩ := T.comings
  exact ⟨f, fd, ["line", "level"], hm, G.kp, G.binds (fun _ _ _ _ _ _ us hl => match us, hl with | [_, _], _ => rfl), rfl, hf_of G sc_comings (fun cdv A outer s H E hr => b_comings T.B (k_placed T) hr) (SpecP.to (sp_comings realA_ok realY_ok u_placed) N_comings rfl)⟩
theorem k_rises (T : Tx K mg w C) : HasF P w K mg base C 3 "rises" 1 (pF F_rises) := by
  obtain ⟨f, fd, hm, G⟩ := T.rises
  exact ⟨f, fd, ["line"], hm, G.kp, G.binds (fun _ _ _ _ _ _ us hl => match us, hl with | [_], _ => rfl), rfl, hf_of G sc_rises (fun cdv A outer s H E hr => b_rises T.B (k_comings T) hr) (SpecP.to (sp_rises realA_ok realY_ok u_comings) N_rises rfl)⟩
theorem k_falls (T : Tx K mg w C) : HasF P w K mg base C 3 "falls" 1 (pF F_falls) := by
  obtain ⟨f, fd, hm, G⟩ := T.falls
  exact ⟨f, fd, ["line"], hm, G.kp, G.binds (fun _ _ _ _ _ _ us hl => match us, hl with | [_], _ => rfl), rfl, hf_of G sc_falls (fun cdv A outer s H E hr => b_falls T.B (k_comings T) hr) (SpecP.to (sp_falls realA_ok realY_ok u_comings) N_falls rfl)⟩
theorem k_moments_of (T : Tx K mg w C) : HasF P w K mg base C 2 "moments_of" 1 (pF F_moments_of) := by
  obtain ⟨f, fd, hm, G⟩ := T.moments_of
  exact ⟨f, fd, ["catch"], hm, G.kp, G.binds (fun _ _ _ _ _ _ us hl => match us, hl with | [_], _ => rfl), rfl, hf_of G sc_moments_of (fun cdv A outer s H E hr => b_moments_of T.B (k_long_of T) hr) (SpecP.to (sp_moments_of realA_ok realY_ok u_long_of) N_moments_of rfl)⟩
theorem k_line_in (T : Tx K mg w C) : HasF P w K mg base C 1 "line_in" 2 (pF F_line_in) := by
  obtain ⟨f, fd, hm, G⟩ := T.line_in
  exact ⟨f, fd, ["catch", "name"], hm, G.kp, G.binds (fun _ _ _ _ _ _ us hl => match us, hl with | [_, _], _ => rfl), rfl, hf_of G sc_line_in (fun cdv A outer s H E hr => b_line_in T.B hr) (SpecP.to (sp_line_in realA_ok realY_ok) N_line_in rfl)⟩
theorem k_last_of (T : Tx K mg w C) : HasF P w K mg base C 1 "last_of" 2 (pF F_last_of) := by
  obtain ⟨f, fd, hm, G⟩ := T.last_of
  exact ⟨f, fd, ["row", "many"], hm, G.kp, G.binds (fun _ _ _ _ _ _ us hl => match us, hl with | [_, _], _ => rfl), rfl, hf_of G sc_last_of (fun cdv A outer s H E hr => b_last_of T.B hr) (SpecP.to (sp_last_of realA_ok) N_last_of rfl)⟩
theorem k_step_line (T : Tx K mg w C) : HasF P w K mg base C 2 "step_line" 3 (pF F_step_line) := by
  obtain ⟨f, fd, hm, G⟩ := T.step_line
  exact ⟨f, fd, ["wish", "own", "level"], hm, G.kp, G.binds (fun _ _ _ _ _ _ us hl => match us, hl with | [_, _, _], _ => rfl), rfl, hf_of G sc_step_line (fun cdv A outer s H E hr => b_step_line T.B (k_last_of T) hr) (SpecP.to (sp_step_line realA_ok u_last_of) N_step_line rfl)⟩
theorem k_step_timed (T : Tx K mg w C) : HasF P w K mg base C 2 "step_timed" 4 (pF F_step_timed) := by
  obtain ⟨f, fd, hm, G⟩ := T.step_timed
  exact ⟨f, fd, ["word", "n", "own", "now"], hm, G.kp, G.binds (fun _ _ _ _ _ _ us hl => match us, hl with | [_, _, _, _], _ => rfl), rfl, hf_of G sc_step_timed (fun cdv A outer s H E hr => b_step_timed T.B (k_last_of T) hr) (SpecP.to (sp_step_timed realA_ok u_last_of) N_step_timed rfl)⟩
theorem k_step_part (T : Tx K mg w C) : HasF P w K mg base C 3 "step_part" 4 (pF F_step_part) := by
  obtain ⟨f, fd, hm, G⟩ := T.step_part
  exact ⟨f, fd, ["wish", "own", "inner", "levels"], hm, G.kp, G.binds (fun _ _ _ _ _ _ us hl => match us, hl with | [_, _, _, _], _ => rfl), rfl, hf_of G sc_step_part (fun cdv A outer s H E hr => b_step_part T.B (k_step_line T) (k_step_timed T) hr) (SpecP.to (sp_step_part realA_ok u_step_line u_step_timed) N_step_part rfl)⟩
theorem k_level_rows (T : Tx K mg w C) : HasF P w K mg base C 1 "level_rows" 1 (pF F_level_rows) := by
  obtain ⟨f, fd, hm, G⟩ := T.level_rows
  exact ⟨f, fd, ["many"], hm, G.kp, G.binds (fun _ _ _ _ _ _ us hl => match us, hl with | [_], _ => rfl), rfl, hf_of G sc_level_rows (fun cdv A outer s H E hr => b_level_rows T.B hr) (SpecP.to (sp_level_rows realA_ok realY_ok) N_level_rows rfl)⟩
theorem k_catch_of (T : Tx K mg w C) : HasF P w K mg base C 2 "catch_of" 2 (pF F_catch_of) := by
  obtain ⟨f, fd, hm, G⟩ := T.catch_of
  exact ⟨f, fd, ["names", "rows"], hm, G.kp, G.binds (fun _ _ _ _ _ _ us hl => match us, hl with | [_, _], _ => rfl), rfl, hf_of G sc_catch_of (fun cdv A outer s H E hr => b_catch_of T.B (k_runs_of T) hr) (SpecP.to (sp_catch_of realA_ok realY_ok u_runs_of) N_catch_of rfl)⟩
theorem k_spans_of (T : Tx K mg w C) : HasF P w K mg base C 1 "spans_of" 1 (pF F_spans_of) := by
  obtain ⟨f, fd, hm, G⟩ := T.spans_of
  exact ⟨f, fd, ["pairs"], hm, G.kp, G.binds (fun _ _ _ _ _ _ us hl => match us, hl with | [_], _ => rfl), rfl, hf_of G sc_spans_of (fun cdv A outer s H E hr => b_spans_of T.B hr) (SpecP.to (sp_spans_of realA_ok realY_ok) N_spans_of rfl)⟩
theorem k_both_of (T : Tx K mg w C) : HasF P w K mg base C 1 "both_of" 2 (pF F_both_of) := by
  obtain ⟨f, fd, hm, G⟩ := T.both_of
  exact ⟨f, fd, ["one", "other"], hm, G.kp, G.binds (fun _ _ _ _ _ _ us hl => match us, hl with | [_, _], _ => rfl), rfl, hf_of G sc_both_of (fun cdv A outer s H E hr => b_both_of T.B hr) (SpecP.to (sp_both_of realA_ok realY_ok) N_both_of rfl)⟩
theorem k_either_of (T : Tx K mg w C) : HasF P w K mg base C 2 "either_of" 2 (pF F_either_of) := by
  obtain ⟨f, fd, hm, G⟩ := T.either_of
  exact ⟨f, fd, ["one", "other"], hm, G.kp, G.binds (fun _ _ _ _ _ _ us hl => match us, hl with | [_, _], _ => rfl), rfl, hf_of G sc_either_of (fun cdv A outer s H E hr => b_either_of T.B (k_spans_of T) hr) (SpecP.to (sp_either_of realA_ok realY_ok u_spans_of) N_either_of rfl)⟩
theorem k_others (T : Tx K mg w C) : HasF P w K mg base C 1 "others" 2 (pF F_others) := by
  obtain ⟨f, fd, hm, G⟩ := T.others
  exact ⟨f, fd, ["some", "below"], hm, G.kp, G.binds (fun _ _ _ _ _ _ us hl => match us, hl with | [_, _], _ => rfl), rfl, hf_of G sc_others (fun cdv A outer s H E hr => b_others T.B hr) (SpecP.to (sp_others realA_ok realY_ok) N_others rfl)⟩
theorem k_later (T : Tx K mg w C) : HasF P w K mg base C 1 "later" 2 (pF F_later) := by
  obtain ⟨f, fd, hm, G⟩ := T.later
  exact ⟨f, fd, ["some", "n"], hm, G.kp, G.binds (fun _ _ _ _ _ _ us hl => match us, hl with | [_, _], _ => rfl), rfl, hf_of G sc_later (fun cdv A outer s H E hr => b_later T.B hr) (SpecP.to (sp_later realA_ok realY_ok) N_later rfl)⟩
theorem k_grown (T : Tx K mg w C) : HasF P w K mg base C 2 "grown" 2 (pF F_grown) := by
  obtain ⟨f, fd, hm, G⟩ := T.grown
  exact ⟨f, fd, ["some", "n"], hm, G.kp, G.binds (fun _ _ _ _ _ _ us hl => match us, hl with | [_, _], _ => rfl), rfl, hf_of G sc_grown (fun cdv A outer s H E hr => b_grown T.B (k_spans_of T) hr) (SpecP.to (sp_grown realA_ok realY_ok u_spans_of) N_grown rfl)⟩
theorem k_worn (T : Tx K mg w C) : HasF P w K mg base C 1 "worn" 2 (pF F_worn) := by
  obtain ⟨f, fd, hm, G⟩ := T.worn
  exact ⟨f, fd, ["some", "n"], hm, G.kp, G.binds (fun _ _ _ _ _ _ us hl => match us, hl with | [_, _], _ => rfl), rfl, hf_of G sc_worn (fun cdv A outer s H E hr => b_worn T.B hr) (SpecP.to (sp_worn realA_ok realY_ok) N_worn rfl)⟩
theorem k_between (T : Tx K mg w C) : HasF P w K mg base C 2 "between" 3 (pF F_between) := by
  obtain ⟨f, fd, hm, G⟩ := T.between
  exact ⟨f, fd, ["some", "begin", "end"], hm, G.kp, G.binds (fun _ _ _ _ _ _ us hl => match us, hl with | [_, _, _], _ => rfl), rfl, hf_of G sc_between (fun cdv A outer s H E hr => b_between T.B (k_spans_of T) (k_both_of T) hr) (SpecP.to (sp_between realA_ok realY_ok u_spans_of u_both_of) N_between rfl)⟩
theorem k_first_of (T : Tx K mg w C) : HasF P w K mg base C 1 "first_of" 1 (pF F_first_of) := by
  obtain ⟨f, fd, hm, G⟩ := T.first_of
  exact ⟨f, fd, ["some"], hm, G.kp, G.binds (fun _ _ _ _ _ _ us hl => match us, hl with | [_], _ => rfl), rfl, hf_of G sc_first_of (fun cdv A outer s H E hr => b_first_of T.B hr) (SpecP.to (sp_first_of realA_ok realY_ok) N_first_of rfl)⟩
theorem k_points (T : Tx K mg w C) : HasF P w K mg base C 2 "points" 1 (pF F_points) := by
  obtain ⟨f, fd, hm, G⟩ := T.points
  exact ⟨f, fd, ["moments"], hm, G.kp, G.binds (fun _ _ _ _ _ _ us hl => match us, hl with | [_], _ => rfl), rfl, hf_of G sc_points (fun cdv A outer s H E hr => b_points T.B (k_spans_of T) hr) (SpecP.to (sp_points realA_ok realY_ok u_spans_of) N_points rfl)⟩
theorem k_pulse_ends (T : Tx K mg w C) : HasF P w K mg base C 2 "pulse_ends" 4 (pF F_pulse_ends) := by
  obtain ⟨f, fd, hm, G⟩ := T.pulse_ends
  exact ⟨f, fd, ["line", "level", "low", "high"], hm, G.kp, G.binds (fun _ _ _ _ _ _ us hl => match us, hl with | [_, _, _, _], _ => rfl), rfl, hf_of G sc_pulse_ends (fun cdv A outer s H E hr => b_pulse_ends T.B (k_placed T) hr) (SpecP.to (sp_pulse_ends realA_ok realY_ok u_placed) N_pulse_ends rfl)⟩
theorem k_counted (T : Tx K mg w C) : HasF P w K mg base C 2 "counted" 5 (pF F_counted) := by
  obtain ⟨f, fd, hm, G⟩ := T.counted
  exact ⟨f, fd, ["moments", "many", "low", "high", "long"], hm, G.kp, G.binds (fun _ _ _ _ _ _ us hl => match us, hl with | [_, _, _, _, _], _ => rfl), rfl, hf_of G sc_counted (fun cdv A outer s H E hr => b_counted T.B (k_spans_of T) hr) (SpecP.to (sp_counted realA_ok realY_ok u_spans_of) N_counted rfl)⟩
theorem k_line_spans (T : Tx K mg w C) : HasF P w K mg base C 4 "line_spans" 2 (pF F_line_spans) := by
  obtain ⟨f, fd, hm, G⟩ := T.line_spans
  exact ⟨f, fd, ["catch", "wish"], hm, G.kp, G.binds (fun _ _ _ _ _ _ us hl => match us, hl with | [_, _], _ => rfl), rfl, hf_of G sc_line_spans (fun cdv A outer s H E hr => b_line_spans T.B (k_rises T) (k_falls T) (k_counted T) (k_pulse_ends T) (k_points T) (k_highs T) (k_others T) (k_moments_of T) (k_line_in T) hr) (SpecP.to (sp_line_spans realA_ok realY_ok u_rises u_falls u_counted u_pulse_ends u_points u_highs u_others u_moments_of u_line_in) N_line_spans rfl)⟩
theorem k_since_spans (T : Tx K mg w C) : HasF P w K mg base C 3 "since_spans" 2 (pF F_since_spans) := by
  obtain ⟨f, fd, hm, G⟩ := T.since_spans
  exact ⟨f, fd, ["one", "other"], hm, G.kp, G.binds (fun _ _ _ _ _ _ us hl => match us, hl with | [_, _], _ => rfl), rfl, hf_of G sc_since_spans (fun cdv A outer s H E hr => b_since_spans T.B (k_spans_of T) (k_between T) (k_first_of T) hr) (SpecP.to (sp_since_spans realA_ok realY_ok u_spans_of u_between u_first_of) N_since_spans rfl)⟩
theorem k_timed_spans (T : Tx K mg w C) : HasF P w K mg base C 3 "timed_spans" 4 (pF F_timed_spans) := by
  obtain ⟨f, fd, hm, G⟩ := T.timed_spans
  exact ⟨f, fd, ["word", "n", "some", "long"], hm, G.kp, G.binds (fun _ _ _ _ _ _ us hl => match us, hl with | [_, _, _, _], _ => rfl), rfl, hf_of G sc_timed_spans (fun cdv A outer s H E hr => b_timed_spans T.B (k_between T) (k_worn T) (k_grown T) (k_later T) (k_points T) hr) (SpecP.to (sp_timed_spans realA_ok realY_ok u_between u_worn u_grown u_later u_points) N_timed_spans rfl)⟩
theorem k_lw_take (T : Tx K mg w C) : HasF P w K mg base C 1 "_law_take" 2 (bF F_take) := by
  obtain ⟨f, fd, hm, G⟩ := T.lw_take
  exact ⟨f, fd, ["_law_box_here", "_law_many_here"], hm, G.kp, G.binds (fun _ _ _ _ _ _ us hl => match us, hl with | [_, _], _ => rfl), rfl, hf_of G sc_lw_take (fun cdv A outer s H E hr => b_lw_take T.B hr) (SpecB.to (sp_take realA_ok realY_ok) N_lw_take rfl)⟩
theorem k_lw_names (T : Tx K mg w C) : HasF P w K mg base C 2 "_law_names" 2 (bF F_names) := by
  obtain ⟨f, fd, hm, G⟩ := T.lw_names
  exact ⟨f, fd, ["_law_box_here", "_law_many_here"], hm, G.kp, G.binds (fun _ _ _ _ _ _ us hl => match us, hl with | [_, _], _ => rfl), rfl, hf_of G sc_lw_names (fun cdv A outer s H E hr => b_lw_names T.B (k_lw_take T) hr) (SpecB.to (sp_names realA_ok realY_ok u_take) N_lw_names rfl)⟩
theorem k_lw_inner (T : Tx K mg w C) : HasF P w K mg base C 1 "_law_inner" 1 (pF F_inner) := by
  obtain ⟨f, fd, hm, G⟩ := T.lw_inner
  exact ⟨f, fd, ["_law_wish"], hm, G.kp, G.binds (fun _ _ _ _ _ _ us hl => match us, hl with | [_], _ => rfl), rfl, hf_of G sc_lw_inner (fun cdv A outer s H E hr => b_lw_inner T.B hr) (SpecP.to (sp_inner realA_ok realY_ok) N_lw_inner rfl)⟩
theorem k_lw_same (T : Tx K mg w C) : HasF P w K mg base C 1 "_law_same" 2 (pF F_same) := by
  obtain ⟨f, fd, hm, G⟩ := T.lw_same
  exact ⟨f, fd, ["_law_found", "_law_due_here"], hm, G.kp, G.binds (fun _ _ _ _ _ _ us hl => match us, hl with | [_, _], _ => rfl), rfl, hf_of G sc_lw_same (fun cdv A outer s H E hr => b_lw_same T.B hr) (SpecP.to (sp_same realA_ok realY_ok) N_lw_same rfl)⟩
theorem k_lw_small_leaf (T : Tx K mg w C) : HasF P w K mg base C 2 "_law_small_leaf" 2 (bF F_leaf) := by
  obtain ⟨f, fd, hm, G⟩ := T.lw_small_leaf
  exact ⟨f, fd, ["_law_box_here", "_law_names_here"], hm, G.kp, G.binds (fun _ _ _ _ _ _ us hl => match us, hl with | [_, _], _ => rfl), rfl, hf_of G sc_lw_small_leaf (fun cdv A outer s H E hr => b_lw_small_leaf T.B (k_lw_take T) hr) (SpecB.to (sp_leaf realA_ok realY_ok u_take) N_lw_small_leaf rfl)⟩
theorem k_lw_line (T : Tx K mg w C) : HasF P w K mg base C 2 "_law_line" 2 (bF F_line) := by
  obtain ⟨f, fd, hm, G⟩ := T.lw_line
  exact ⟨f, fd, ["_law_box_here", "_law_moments"], hm, G.kp, G.binds (fun _ _ _ _ _ _ us hl => match us, hl with | [_, _], _ => rfl), rfl, hf_of G sc_lw_line (fun cdv A outer s H E hr => b_lw_line T.B (k_lw_take T) hr) (SpecB.to (sp_line realA_ok realY_ok u_take) N_lw_line rfl)⟩
theorem k_lw_many (T : Tx K mg w C) : HasF P w K mg base C 1 "_law_many" 1 (pF F_many) := by
  obtain ⟨f, fd, hm, G⟩ := T.lw_many
  exact ⟨f, fd, ["_law_catch"], hm, G.kp, G.binds (fun _ _ _ _ _ _ us hl => match us, hl with | [_], _ => rfl), rfl, hf_of G sc_lw_many (fun cdv A outer s H E hr => b_lw_many T.B hr) (SpecP.to (sp_many realA_ok realY_ok) N_lw_many rfl)⟩

end
end AL
end
section
set_option Elab.async false
set_option linter.all false
set_option maxRecDepth 100000
set_option maxHeartbeats 1000000
namespace AL
open PySem PySem.Spec PyProof.Rows L2
section
variable {P : Program} {w : World} {K : PySem.W.Frag} {mg : Str → Option Value} {base : Heap} {C : Addr}
/-- a def that is asked for nothing -/
theorem fn_none {x qual : Str} {st : Stmt} {f : Addr} {fd : FuncData} {N ps : List Str} {k n : Nat} {F : HFs} (G : Fun K x qual st f fd) (S : FnScope N ps (defScope st)) (hn : ps.length = n) (hF : ∀ as hs R, ¬ F as hs R) :
    FnOk P w K mg base CX0 (k + 1) f fd ps (cHF ⟨P, w, K, C⟩ n F) := by
  refine G.ok S (fun vs H Q E h => ?_) (fun cdv A outer s H vs Q E hr h => ?_)
  · obtain ⟨g, hs, as, R, m, r, hl, hf, _⟩ := h
    exact absurd hf (hF _ _ _)
  · obtain ⟨g, hs, as, R, m, r, hl, hf, _⟩ := h
    exact absurd hf (hF _ _ _)
theorem pF_none {F : PFs} (h : ∀ ds R, ¬ F ds R) : ∀ as hs R, ¬ pF F as hs R := fun as hs R q => by
  unfold pF at q
  split at q
  · exact h _ _ q
  · exact q
theorem bF_none {F : BFs} (h : ∀ ds bs R, ¬ F ds bs R) : ∀ as hs R, ¬ bF F as hs R := fun as hs R q => by
  unfold bF at q
  split at q
  · split at q
    · exact h _ _ _ q
    · exact q
  · exact q
theorem k_when (T : Tx K mg w C) : ∀ n, HasF P w K mg base C (4 + n) "when" 2 (pF (F_when n))
  | 0 => by
    obtain ⟨f, fd, hm, G⟩ := T.when
    exact ⟨f, fd, ["catch", "wish"], hm, G.kp, G.binds (fun _ _ _ _ _ _ us hl => match us, hl with | [_, _], _ => rfl), rfl, fn_none G sc_when rfl (pF_none fun ds R ⟨_, _, _, _, w, _, _, h, _⟩ => by have := size_pos w; omega)⟩
  | n + 1 => by
    have ih := k_when T n
    obtain ⟨f, fd, hm, G⟩ := T.when
    exact ⟨f, fd, ["catch", "wish"], hm, G.kp, G.binds (fun _ _ _ _ _ _ us hl => match us, hl with | [_, _], _ => rfl), rfl, hf_of G sc_when (fun cdv A outer s H E hr => b_when (k := 4 + n) (Nat.le_refl _) (by omega) T.B (k_line_spans T) ih (k_timed_spans T) (k_since_spans T) (k_either_of T) (k_both_of T) (k_others T) (k_spans_of T) (k_moments_of T) hr)
      (SpecP.to (sp_when realA_ok realY_ok u_line_spans (u_when n) u_timed_spans u_since_spans u_either_of u_both_of u_others u_spans_of u_moments_of) N_when rfl)⟩
theorem k_lw_size (T : Tx K mg w C) : ∀ n, HasF P w K mg base C (1 + n) "_law_size" 1 (pF (F_size n))
  | 0 => by
    obtain ⟨f, fd, hm, G⟩ := T.lw_size
    exact ⟨f, fd, ["_law_wish"], hm, G.kp, G.binds (fun _ _ _ _ _ _ us hl => match us, hl with | [_], _ => rfl), rfl, fn_none (k := 0) G sc_lw_size rfl (pF_none fun ds R ⟨w, h, _⟩ => by have := size_pos w; omega)⟩
  | n + 1 => by
    have ih := k_lw_size T n
    obtain ⟨f, fd, hm, G⟩ := T.lw_size
    exact ⟨f, fd, ["_law_wish"], hm, G.kp, G.binds (fun _ _ _ _ _ _ us hl => match us, hl with | [_], _ => rfl), rfl, hf_of G sc_lw_size (fun cdv A outer s H E hr => b_lw_size (k := 1 + n) (Nat.le_refl _) (by omega) T.B (k_lw_inner T) ih hr)
      (SpecP.to (sp_size realA_ok realY_ok u_inner (u_size n)) N_lw_size rfl)⟩
theorem k_lw_small (T : Tx K mg w C) : ∀ n, HasF P w K mg base C (2 + n) "_law_small" 3 (bF (F_small n))
  | 0 => by
    obtain ⟨f, fd, hm, G⟩ := T.lw_small
    exact ⟨f, fd, ["_law_box_here", "_law_names_here", "_law_room"], hm, G.kp, G.binds (fun _ _ _ _ _ _ us hl => match us, hl with | [_, _, _], _ => rfl), rfl, fn_none (k := 1) G sc_lw_small rfl (bF_none fun ds bs R ⟨_, room, _, _, _, _, h1, h2, _⟩ => by have : room ≤ 0 := h2; omega)⟩
  | n + 1 => by
    have ih := k_lw_small T n
    obtain ⟨f, fd, hm, G⟩ := T.lw_small
    exact ⟨f, fd, ["_law_box_here", "_law_names_here", "_law_room"], hm, G.kp, G.binds (fun _ _ _ _ _ _ us hl => match us, hl with | [_, _, _], _ => rfl), rfl, hf_of G sc_lw_small (fun cdv A outer s H E hr => b_lw_small (k := 2 + n) (Nat.le_refl _) (by omega) T.B ih (k_lw_take T) (k_lw_small_leaf T) hr)
      (SpecB.to (sp_small realA_ok realY_ok (u_small n) u_take u_leaf) N_lw_small rfl)⟩
theorem k_lw_box (T : Tx K mg w C) : HasN P w K mg base C 1 "_law_box" 2 F_box := by
  obtain ⟨f, fd, hm, G⟩ := T.lw_box
  exact ⟨f, fd, ["_law_script", "_law_k"], hm, G.kp, G.binds (fun _ _ _ _ _ _ us hl => match us, hl with | [_, _], _ => rfl), rfl, hn_of G sc_lw_box (fun cdv A outer s H E hr => b_lw_box T.B hr) (SpecN.to (sp_box realA_ok realY_ok) N_lw_box rfl)⟩
theorem u_size3 : U_size 3 (F_size 9) := fun w R h q => u_size 9 w R (by omega) q
theorem u_small3 : U_small 3 (F_small 6) := fun ns room a b c R h1 h2 h3 h4 q => u_small 6 ns room a b c R h1 h2 (by omega) h4 q
end
end AL
end
section
set_option Elab.async false
set_option linter.all false
set_option maxRecDepth 100000
set_option maxHeartbeats 1000000
namespace AL
open PySem PySem.Spec PyProof.Rows L2
theorem SpecM.to {n m : Nat} {t : AS} {F : BFs} (s : SpecM n m t F) (N : List Str) (hN : N.length = m) : ∀ as hs (R : D → AH → Prop), as.length = n → mF F as hs R → t (fun _ h => finA hs.length R (.dat .non) h) (finA hs.length R) (startA N as) hs := by
  intro as hs R hl h
  unfold mF at h
  split at h
  · rename_i r f bs
    obtain ⟨ef, h⟩ := h
    subst ef
    split at h
    · rename_i ds hd
      have e := datL_eq hd
      subst e
      have hl' : ds.length + 1 = n := by simpa using hl
      have q := s ds bs R hl' h
      have e1 : startA N (.ref 0 :: ds.map .dat) = some (.ref 0) :: (ds.map (fun d => some (AV.dat d)) ++ List.replicate (m - n) none) := by
        unfold startA
        rw [List.length_cons, List.length_map, hN, hl', List.map_cons, List.map_map]; rfl
      rw [e1]
      exact q
    · cases h
  · cases h
theorem mF_none {F : BFs} (h : ∀ ds bs R, ¬ F ds bs R) : ∀ as hs R, ¬ mF F as hs R := fun as hs R q => by
  unfold mF at q
  split at q
  · obtain ⟨_, q⟩ := q
    split at q
    · exact h _ _ _ q
    · exact q
  · exact q
section
variable {P : Program} {w : World} {K : PySem.W.Frag} {mg : Str → Option Value} {base : Heap} {C : Addr}
theorem k_step (T : Tx K mg w C) : HasM P w K mg base C 4 "step" 3 (pF F_step) := by
  obtain ⟨f, fd, hm, G⟩ := T.step
  exact ⟨f, fd, ["self", "state", "levels"], hm, G.binds (fun _ _ _ _ _ _ us hl => match us, hl with | [_, _, _], _ => rfl), rfl, hf_of G sc_step (fun cdv A outer s H E hr => b_step T.B T.cls T.na_rows_of T.na_tops (k_step_part T) hr) (SpecP.to (sp_step realA_ok realY_ok u_step_part) N_step rfl)⟩
theorem k_put (T : Tx K mg w C) (hp : HasF P w K mg base C 2 "parts_in" 1 (pF F_parts_in)) : ∀ n, HasM P w K mg base C (2 + n) "put_part" 2 (mF (F_put n))
  | 0 => by
    obtain ⟨f, fd, hm, G⟩ := T.put
    exact ⟨f, fd, ["self", "wish"], hm, G.binds (fun _ _ _ _ _ _ us hl => match us, hl with | [_, _], _ => rfl), rfl, fn_none (k := 1) G sc_put_part rfl (mF_none fun ds bs R ⟨w, _, h, _⟩ => by have := size_pos w; omega)⟩
  | n + 1 => by
    have ih := k_put T hp n
    obtain ⟨f, fd, hm, G⟩ := T.put
    exact ⟨f, fd, ["self", "wish"], hm, G.binds (fun _ _ _ _ _ _ us hl => match us, hl with | [_, _], _ => rfl), rfl, hf_of G sc_put_part (fun cdv A outer s H E hr => b_put_part (k := 2 + n) (Nat.le_refl _) (by omega) T.B T.cls T.na_rows_of T.na_tops hp ih (put_mono n) hr)
      (SpecM.to (sp_put_part realA_ok u_parts_in (u_put n)) N_put_part rfl)⟩
theorem k_Stepper (T : Tx K mg w C) (hp : HasF P w K mg base C 2 "parts_in" 1 (pF F_parts_in)) : HasI P w K mg base C 12 "Stepper" (F_Stepper 9) := by
  obtain ⟨f, fd, hm, G⟩ := T.init
  exact ⟨f, fd, ["self", "wishes"], T.mC, hm, G.binds (fun _ _ _ _ _ _ us hl => match us, hl with | [_, _], _ => rfl), hi_of G sc___init__ rfl (fun cdv A outer s H E hr => b___init__ T.B T.cls T.na_rows_of T.na_tops (k_put T hp 9) (put_mono 9) hr) (fun d R h => sp_init (u_put 9) d R h)⟩
end
end AL
end
section
set_option Elab.async false
set_option linter.all false
set_option maxRecDepth 100000
set_option maxHeartbeats 1000000
namespace AL
open PySem PySem.Spec PyProof.Rows L2
section
variable {P : Program} {w : World} {K : PySem.W.Frag} {mg : Str → Option Value} {base : Heap} {C : Addr}
theorem k_things_of (T : Tx K mg w C) : HasK P w K mg base C 1 "things_of" "sort" (pF F_things_of) := by
  obtain ⟨f, fd, hm, G⟩ := T.things_of
  obtain ⟨S, hS, mS⟩ := T.sorts
  refine ⟨f, fd, ["wish", "sort"], hm, G.kp, rfl, ⟨fun s us ws hin hl => ?_, fun {vs us zs ws} r1 r2 => ?_⟩, hf_of G sc_things_of (fun cdv A outer s H E hr => b_things_of T.B hS mS hr) (SpecP.to (sp_things_of (Z := realA)) N_things_of rfl)⟩
  · obtain ⟨oc, od, kV, doc, pm, an, cdv, ct, osl, rfl, lk, hcd⟩ := G.ex
    match us, ws, hl with
    | [a], [b], _ => exact .of_eq rfl
  · cases r1 with
    | nil => cases r2 <;> exact .nil
    | cons a r1 => cases r1 with
      | nil => cases r2 with
        | nil => exact .nil
        | cons b r2 => cases r2 with
          | nil => exact .cons a (.cons b .nil)
          | cons _ _ => exact .nil
      | cons _ _ => cases r2 <;> exact .nil
theorem k_parts_in (T : Tx K mg w C) : HasF P w K mg base C 2 "parts_in" 1 (pF F_parts_in) := by
  obtain ⟨f, fd, hm, G⟩ := T.parts_in
  exact ⟨f, fd, ["wish"], hm, G.kp, G.binds (fun _ _ _ _ _ _ us hl => match us, hl with | [_], _ => rfl), rfl, hf_of G sc_parts_in (fun cdv A outer s H E hr => b_parts_in T.B (k_things_of T) hr) (SpecP.to (sp_parts_in (Z := realA)) N_parts_in rfl)⟩
end
end AL
end
section
set_option Elab.async false
set_option linter.all false
set_option maxRecDepth 100000
set_option maxHeartbeats 1000000
namespace AL
open PySem PySem.Spec PyProof.Rows L2
section
variable {P : Program} {w : World} {K : PySem.W.Frag} {mg : Str → Option Value} {base : Heap} {C : Addr}
theorem k_shortest (T : Tx K mg w C) : HasF P w K mg base C 14 "shortest" 2 (pF (F_shortest 9)) := by
  obtain ⟨f, fd, hm, G⟩ := T.shortest
  exact ⟨f, fd, ["names", "wishes"], hm, G.kp, G.binds (fun _ _ _ _ _ _ us hl => match us, hl with | [_, _], _ => rfl), rfl, hf_of G sc_shortest (fun cdv A outer s H E hr => b_shortest T.B T.cls T.na_rows_of T.na_tops (k_level_rows T) (k_catch_of T) (k_step T) (k_Stepper T (k_parts_in T)) hr) (SpecP.to (sp_shortest realA_ok realY_ok u_level_rows u_catch_of u_step (u_Stepper 9)) N_shortest rfl)⟩
theorem k_wishes_alike (T : Tx K mg w C) : HasF P w K mg base C 15 "wishes_alike" 3 (pF (F_wishes_alike 9)) := by
  obtain ⟨f, fd, hm, G⟩ := T.wishes_alike
  exact ⟨f, fd, ["names", "one", "other"], hm, G.kp, G.binds (fun _ _ _ _ _ _ us hl => match us, hl with | [_, _, _], _ => rfl), rfl, hf_of G sc_wishes_alike (fun cdv A outer s H E hr => b_wishes_alike T.B (k_shortest T) hr) (SpecP.to (sp_wishes_alike realA_ok realY_ok (u_shortest 9)) N_wishes_alike rfl)⟩
theorem k_soonest (T : Tx K mg w C) : HasF P w K mg base C 15 "soonest" 2 (pF (F_soonest 9)) := by
  obtain ⟨f, fd, hm, G⟩ := T.soonest
  exact ⟨f, fd, ["names", "wish"], hm, G.kp, G.binds (fun _ _ _ _ _ _ us hl => match us, hl with | [_, _], _ => rfl), rfl, hf_of G sc_soonest (fun cdv A outer s H E hr => b_soonest T.B (k_shortest T) hr) (SpecP.to (sp_soonest realA_ok realY_ok (u_shortest 9)) N_soonest rfl)⟩
theorem k_lw_told (T : Tx K mg w C) : HasF P w K mg base C 16 "_law_told" 3 (pF (F_told 9)) := by
  obtain ⟨f, fd, hm, G⟩ := T.lw_told
  exact ⟨f, fd, ["_law_names_here", "_law_one", "_law_other"], hm, G.kp, G.binds (fun _ _ _ _ _ _ us hl => match us, hl with | [_, _, _], _ => rfl), rfl, hf_of G sc_lw_told (fun cdv A outer s H E hr => b_lw_told T.B (k_lw_many T) (k_wishes_alike T) hr) (SpecP.to (sp_told realA_ok realY_ok (u_wishes_alike 9) u_many) N_lw_told rfl)⟩
theorem k_lw_due (T : Tx K mg w C) : HasF P w K mg base C 16 "_law_due" 3 (pF (F_due 9)) := by
  obtain ⟨f, fd, hm, G⟩ := T.lw_due
  exact ⟨f, fd, ["_law_names_here", "_law_one", "_law_other"], hm, G.kp, G.binds (fun _ _ _ _ _ _ us hl => match us, hl with | [_, _, _], _ => rfl), rfl, hf_of G sc_lw_due (fun cdv A outer s H E hr => b_lw_due T.B (k_lw_many T) (k_soonest T) hr) (SpecP.to (sp_due realA_ok realY_ok (u_soonest 9) u_many) N_lw_due rfl)⟩
theorem k_law (T : Tx K mg w C) : HasF P w K mg base C 17 "law" 1 (pF F_law) := by
  obtain ⟨f, fd, hm, G⟩ := T.law
  exact ⟨f, fd, ["_law_script"], hm, G.kp, G.binds (fun _ _ _ _ _ _ us hl => match us, hl with | [_], _ => rfl), rfl, hf_of G sc_law (fun cdv A outer s H E hr => b_law T.B (k_when T 9) (k_lw_line T) (k_lw_take T) (k_lw_told T) (k_lw_same T) (k_lw_due T) (k_lw_size T 9) (k_lw_small T 6) (k_lw_names T) (k_lw_box T) hr) (SpecP.to (sp_law realA_ok realY_ok (u_when 9) u_line u_take (u_told 9) u_same (u_due 9) (u_size3) (u_small3) u_names u_box) N_law rfl)⟩

end
end AL
end
section
set_option Elab.async false
set_option linter.all false
set_option maxRecDepth 100000
set_option maxHeartbeats 1000000
namespace AL
open PySem PySem.Spec PyProof.Rows L2
/-- law's: a list of ints is handed in, True comes out -/
def spL (K : PySem.W.Frag) : L2.Sp := fun vs H Q _ => ∃ (a : Addr) (ns : List Int), vs = [.ref a] ∧ SqL K H a (ns.map V.int) ∧ ∀ H', Q (.bl true) H'
section
variable {P : Program} {w : World} {K : PySem.W.Frag} {mg : Str → Option Value} {base : Heap} {C : Addr}
theorem rvs_ints {W : Wo} {N : NS} {H : Hp} : ∀ ns : List Int, RVs W N H (ns.map .int) (ns.map V.int)
  | [] => .nil
  | i :: ns => .cons (.int i) (rvs_ints ns)
theorem law_fn (T : Tx K mg w C) {f : Addr} {fd : FuncData} (G : Fun K "law" "law" s_law f fd) : FnOk P w K mg base CX0 17 f fd ["_law_script"] (spL K) := by
  refine FnOk.imp (hf_of (F := pF F_law) G sc_law (fun cdv A outer s H E hr => b_law T.B (k_when T 9) (k_lw_line T) (k_lw_take T) (k_lw_told T) (k_lw_same T) (k_lw_due T) (k_lw_size T 9) (k_lw_small T 6) (k_lw_names T) (k_lw_box T) hr) (SpecP.to (sp_law realA_ok realY_ok (u_when 9) u_line u_take (u_told 9) u_same (u_due 9) (u_size3) (u_small3) u_names u_box) N_law rfl)) fun vs H Q E h => ?_
  obtain ⟨a, ns, rfl, hs, q⟩ := h
  refine ⟨⟨fun _ => False, []⟩, [], [.dat (.lst (ns.map .int))], (fun d _ => d = .bl true), ⟨rfl, .nil, (fun _ x => by cases x), (fun _ x => x.elim), fun n a o e => by simp at e⟩, .cons (.dat (.lst ?_ (rvs_ints ns))) .nil, rfl, ⟨ns, rfl, rfl⟩, fun v H' N' d hs' e m r hd => ?_⟩
  · rcases hs with hs | hs
    · exact .inl ⟨hs, id⟩
    · exact .inr hs
  · subst hd
    cases r
    exact q _
end
end AL
end
section
set_option Elab.async false
set_option linter.all false
set_option maxRecDepth 100000
set_option maxHeartbeats 1000000
namespace AL
open PySem PySem.Spec PyProof.Rows L2
/-- a def as the top has written it -/
structure FAt (K : PySem.W.Frag) (x qual : Str) (st : Stmt) (f : Addr) (oc : Value) (od : Option Addr) (sl : Array (Option Value)) (kV dc pm : Value) (an : Option Addr) (cd ct : Value) : Prop where
  l : K.lookup f = some ⟨oc, od, .func (PySem.W.fnOf x qual (defArgs st) (defBody st) (defScope st) .none kV dc pm an cd ct), sl⟩
  c : PySem.W.codeIn K cd qual = true
  k : PySem.W.keepIn K (.ref f) = true
def FA (K : PySem.W.Frag) (x qual : Str) (st : Stmt) : Prop := ∃ f oc od sl kV dc pm an cd ct, PySem.W.nsIn K mainGlobals x = some (some (.ref f)) ∧ FAt K x qual st f oc od sl kV dc pm an cd ct
def FM (K : PySem.W.Frag) (C : Addr) (x qual : Str) (st : Stmt) : Prop := ∃ f oc od sl kV dc pm an cd ct, PySem.W.findIn K (.ref C) x = some (some (.ref f)) ∧ PySem.W.isFn K (.ref f) = true ∧ FAt K x qual st f oc od sl kV dc pm an cd ct
section
variable {w : World} {K : PySem.W.Frag} {h : Heap} {mg : Str → Option Value}
theorem FA.df (X : K.In h) (G : h.Ns mainGlobals mg) {x qual : Str} {st : Stmt} (a : FA K x qual st) : DF K mg x qual st := by
  obtain ⟨f, oc, od, sl, kV, dc, pm, an, cd, ct, e, F⟩ := a
  exact ⟨f, _, PySem.W.mg_of X G e, fun_mk F.l F.c F.k⟩
theorem FM.dm {C : Addr} {x qual : Str} {st : Stmt} (a : FM K C x qual st) : DM K C x qual st := by
  obtain ⟨f, oc, od, sl, kV, dc, pm, an, cd, ct, e, i, F⟩ := a
  exact ⟨f, _, ⟨e, i, F.k⟩, fun_mk F.l F.c F.k⟩
theorem all_mk {P : Program} {fa C S : Addr} (X : K.In h) (G : h.Ns mainGlobals mg) (hfa : mg "law" = some (.ref fa))
    (aC : PySem.W.nsIn K mainGlobals "Stepper" = some (some (.ref C))) (aS : PySem.W.nsIn K mainGlobals "SORTS" = some (some (.ref S))) (hS : HSorts K w S)
    (pg : PySem.W.plainGet K C Str.empty = true) (hd : PySem.W.hasDictIn K C = true) (po : PySem.W.plainOver K C = true) (sa : PySem.W.findIn K (.ref C) "__setattr__" = some (some (.builtin "object.__setattr__"))) (mk : PySem.W.makesIn K C = true) (kc : PySem.W.keepIn K (.ref C) = true)
    (n1 : PySem.W.findIn K (.ref C) "rows_of" = some none) (n2 : PySem.W.findIn K (.ref C) "tops" = some none)
    (mi : FM K C "__init__" "Stepper.__init__" s___init__) (mp : FM K C "put_part" "Stepper.put_part" s_put_part) (ms : FM K C "step" "Stepper.step" s_step)
    (z_len : PySem.W.nsIn K mainGlobals "len" = some none)
    (z_sum : PySem.W.nsIn K mainGlobals "sum" = some none)
    (z_any : PySem.W.nsIn K mainGlobals "any" = some none)
    (z_int : PySem.W.nsIn K mainGlobals "int" = some none)
    (z_max : PySem.W.nsIn K mainGlobals "max" = some none)
    (z_min : PySem.W.nsIn K mainGlobals "min" = some none)
    (z_tuple : PySem.W.nsIn K mainGlobals "tuple" = some none)
    (z_list : PySem.W.nsIn K mainGlobals "list" = some none)
    (z_range : PySem.W.nsIn K mainGlobals "range" = some none)
    (z_zip : PySem.W.nsIn K mainGlobals "zip" = some none)
    (z_enumerate : PySem.W.nsIn K mainGlobals "enumerate" = some none)
    (z_sorted : PySem.W.nsIn K mainGlobals "sorted" = some none)
    (z_dict : PySem.W.nsIn K mainGlobals "dict" = some none)
    (z_isinstance : PySem.W.nsIn K mainGlobals "isinstance" = some none)
    (z_bool : PySem.W.nsIn K mainGlobals "bool" = some none)
    (d_long_of : FA K "long_of" "long_of" s_long_of)
    (d_placed : FA K "placed" "placed" s_placed)
    (d_highs : FA K "highs" "highs" s_highs)
    (d_runs_of : FA K "runs_of" "runs_of" s_runs_of)
    (d_comings : FA K "comings" "comings" s_comings)
    (d_rises : FA K "rises" "rises" s_rises)
    (d_falls : FA K "falls" "falls" s_falls)
    (d_moments_of : FA K "moments_of" "moments_of" s_moments_of)
    (d_line_in : FA K "line_in" "line_in" s_line_in)
    (d_things_of : FA K "things_of" "things_of" s_things_of)
    (d_parts_in : FA K "parts_in" "parts_in" s_parts_in)
    (d_last_of : FA K "last_of" "last_of" s_last_of)
    (d_step_line : FA K "step_line" "step_line" s_step_line)
    (d_step_timed : FA K "step_timed" "step_timed" s_step_timed)
    (d_step_part : FA K "step_part" "step_part" s_step_part)
    (d_level_rows : FA K "level_rows" "level_rows" s_level_rows)
    (d_catch_of : FA K "catch_of" "catch_of" s_catch_of)
    (d_shortest : FA K "shortest" "shortest" s_shortest)
    (d_wishes_alike : FA K "wishes_alike" "wishes_alike" s_wishes_alike)
    (d_soonest : FA K "soonest" "soonest" s_soonest)
    (d_spans_of : FA K "spans_of" "spans_of" s_spans_of)
    (d_both_of : FA K "both_of" "both_of" s_both_of)
    (d_either_of : FA K "either_of" "either_of" s_either_of)
    (d_others : FA K "others" "others" s_others)
    (d_later : FA K "later" "later" s_later)
    (d_grown : FA K "grown" "grown" s_grown)
    (d_worn : FA K "worn" "worn" s_worn)
    (d_between : FA K "between" "between" s_between)
    (d_first_of : FA K "first_of" "first_of" s_first_of)
    (d_points : FA K "points" "points" s_points)
    (d_pulse_ends : FA K "pulse_ends" "pulse_ends" s_pulse_ends)
    (d_counted : FA K "counted" "counted" s_counted)
    (d_line_spans : FA K "line_spans" "line_spans" s_line_spans)
    (d_since_spans : FA K "since_spans" "since_spans" s_since_spans)
    (d_timed_spans : FA K "timed_spans" "timed_spans" s_timed_spans)
    (d_when : FA K "when" "when" s_when)
    (d_lw_box : FA K "_law_box" "_law_box" s_lw_box)
    (d_lw_take : FA K "_law_take" "_law_take" s_lw_take)
    (d_lw_names : FA K "_law_names" "_law_names" s_lw_names)
    (d_lw_inner : FA K "_law_inner" "_law_inner" s_lw_inner)
    (d_lw_same : FA K "_law_same" "_law_same" s_lw_same)
    (d_lw_small_leaf : FA K "_law_small_leaf" "_law_small_leaf" s_lw_small_leaf)
    (d_lw_small : FA K "_law_small" "_law_small" s_lw_small)
    (d_lw_size : FA K "_law_size" "_law_size" s_lw_size)
    (d_lw_line : FA K "_law_line" "_law_line" s_lw_line)
    (d_lw_many : FA K "_law_many" "_law_many" s_lw_many)
    (d_lw_told : FA K "_law_told" "_law_told" s_lw_told)
    (d_lw_due : FA K "_law_due" "_law_due" s_lw_due)
    (d_law : FA K "law" "law" s_law)
    : ∃ fd : FuncData, (∀ (s : Shared) (v : Value), BindsTo s fd ⟨[v], []⟩ [("_law_script", v)]) ∧ ∀ base : Heap, K.In base → base.Ns mainGlobals mg → FnOk P w K mg base CX0 17 fa fd ["_law_script"] (spL K) := by
  have cls : Cls K C := ⟨pg, hd, po, sa⟩
  have init : ∃ f fd, Mk K C f ∧ Fun K "__init__" "Stepper.__init__" s___init__ f fd := by
    obtain ⟨f, oc, od, sl, kV, dc, pm, an, cd, ct, e, i, F⟩ := mi
    exact ⟨f, _, ⟨mk, e, i, kc⟩, fun_mk F.l F.c F.k⟩
  have T : Tx K mg w C := ⟨⟨PySem.W.mg_none_of X G z_len, PySem.W.mg_none_of X G z_sum, PySem.W.mg_none_of X G z_any, PySem.W.mg_none_of X G z_int, PySem.W.mg_none_of X G z_max, PySem.W.mg_none_of X G z_min, PySem.W.mg_none_of X G z_tuple, PySem.W.mg_none_of X G z_list, PySem.W.mg_none_of X G z_range, PySem.W.mg_none_of X G z_zip, PySem.W.mg_none_of X G z_enumerate, PySem.W.mg_none_of X G z_sorted, PySem.W.mg_none_of X G z_dict, PySem.W.mg_none_of X G z_isinstance, PySem.W.mg_none_of X G z_bool⟩, cls, n1, n2, ⟨S, hS, PySem.W.mg_of X G aS⟩, PySem.W.mg_of X G aC, init, mp.dm, ms.dm, d_long_of.df X G, d_placed.df X G, d_highs.df X G, d_runs_of.df X G, d_comings.df X G, d_rises.df X G, d_falls.df X G, d_moments_of.df X G, d_line_in.df X G, d_things_of.df X G, d_parts_in.df X G, d_last_of.df X G, d_step_line.df X G, d_step_timed.df X G, d_step_part.df X G, d_level_rows.df X G, d_catch_of.df X G, d_shortest.df X G, d_wishes_alike.df X G, d_soonest.df X G, d_spans_of.df X G, d_both_of.df X G, d_either_of.df X G, d_others.df X G, d_later.df X G, d_grown.df X G, d_worn.df X G, d_between.df X G, d_first_of.df X G, d_points.df X G, d_pulse_ends.df X G, d_counted.df X G, d_line_spans.df X G, d_since_spans.df X G, d_timed_spans.df X G, d_when.df X G, d_lw_box.df X G, d_lw_take.df X G, d_lw_names.df X G, d_lw_inner.df X G, d_lw_same.df X G, d_lw_small_leaf.df X G, d_lw_small.df X G, d_lw_size.df X G, d_lw_line.df X G, d_lw_many.df X G, d_lw_told.df X G, d_lw_due.df X G, d_law.df X G⟩
  obtain ⟨f, oc, od, sl, kV, dc, pm, an, cd, ct, e, F⟩ := d_law
  have e2 := hfa.symm.trans (PySem.W.mg_of X G e)
  cases e2
  exact ⟨PySem.W.fnOf "law" "law" (defArgs s_law) (defBody s_law) (defScope s_law) .none kV dc pm an cd ct, fun s v => .of_eq rfl, fun base _ _ => law_fn T (fun_mk F.l F.c F.k)⟩
end
end AL
end
section
set_option Elab.async false
set_option linter.all false
set_option maxRecDepth 100000
set_option maxHeartbeats 1000000
namespace AL
open PySem PySem.Spec PyProof.Rows L2
theorem walkL {l : PySem.W.OpenLaw} {q : Program} {loose : List Str} {XP : (Str → Option Value) → Heap → Prop} {YP : World → Heap → Prop} {d : DefRec} {K : Params → PySem.W.Frag} (hn : l.most = some 63) (hdf : d.params.defaults = [])
    (hY : ∀ (w : World) (h : Heap), YP w h → (K w.params).In h)
    (F : ∀ (w : World) (mg : Str → Option Value) (fa : Addr) (h : Heap), (K w.params).In h → h.Ns mainGlobals mg → mg d.name = some (.ref fa) →
      ∃ fd : FuncData, (∀ (s : Shared) (u : Value), BindsTo s fd ⟨[u], []⟩ [("_law_script", u)]) ∧ ∀ base : Heap, (K w.params).In base → base.Ns mainGlobals mg → FnOk l.prog w (K w.params) mg base CX0 17 fa fd ["_law_script"] (spL (K w.params))) :
    PySem.W.WalkO q loose XP YP l.row.toRowW d [] (fun f vs => PySem.call f vs) :=
  L2.walk_of (n := 63) (k := 17) (x := "_law_script") (CX := fun _ => CX0) (sp := fun w => spL (K w.params)) hn (by decide) hdf ⟨rfl, by decide, by decide⟩ hY F (fun _ _ a ns hl _ hS => ⟨a, ns, rfl, hS, fun _ => rfl⟩) fun _ _ _ _ _ z => z
end AL
end
section
set_option Elab.async false
set_option linter.all false
set_option maxRecDepth 100000
set_option maxHeartbeats 1000000
namespace AL
open PySem PySem.Spec PyProof.Rows L2
/-- a row of the dict of sorts, as the top has written it -/
def RowOf (K : PySem.W.Frag) (S : Addr) (x : Str) (ss : List Str) : Prop := ∃ (a : Addr) (od : Option Addr) (its : Array Value) (m : Nat) (sl : Array (Option Value)),
  PySem.W.nsIn K S x = some (some (.ref a)) ∧ K.lookup a = some ⟨.type "tuple", od, .seq its m, sl⟩ ∧ its.size ≤ sizeLine ∧ Vals (ss.map V.str) its.toList
theorem RowOf.of {K : PySem.W.Frag} {S : Addr} {x : Str} {ss : List Str} {a : Addr} {od : Option Addr} {its : Array Value} {m : Nat} {sl : Array (Option Value)} (e : PySem.W.nsIn K S x = some (some (.ref a))) (l : K.lookup a = some ⟨.type "tuple", od, .seq its m, sl⟩) (z : its.size ≤ sizeLine) (v : Vals (ss.map V.str) its.toList) : RowOf K S x ss := ⟨a, od, its, m, sl, e, l, z, v⟩
theorem FA.of {K : PySem.W.Frag} {x qual : Str} {st : Stmt} {f : Addr} {oc : Value} {od : Option Addr} {sl : Array (Option Value)} {kV dc pm : Value} {an : Option Addr} {cd ct : Value} (e : PySem.W.nsIn K mainGlobals x = some (some (.ref f)))
    (l : K.lookup f = some ⟨oc, od, .func (PySem.W.fnOf x qual (defArgs st) (defBody st) (defScope st) .none kV dc pm an cd ct), sl⟩) (c : PySem.W.codeIn K cd qual = true) (k : PySem.W.keepIn K (.ref f) = true) : FA K x qual st :=
  ⟨f, oc, od, sl, kV, dc, pm, an, cd, ct, e, ⟨l, c, k⟩⟩
theorem FM.of {K : PySem.W.Frag} {C : Addr} {x qual : Str} {st : Stmt} {f : Addr} {oc : Value} {od : Option Addr} {sl : Array (Option Value)} {kV dc pm : Value} {an : Option Addr} {cd ct : Value} (e : PySem.W.findIn K (.ref C) x = some (some (.ref f)))
    (i : PySem.W.isFn K (.ref f) = true) (l : K.lookup f = some ⟨oc, od, .func (PySem.W.fnOf x qual (defArgs st) (defBody st) (defScope st) .none kV dc pm an cd ct), sl⟩) (c : PySem.W.codeIn K cd qual = true) (k : PySem.W.keepIn K (.ref f) = true) : FM K C x qual st :=
  ⟨f, oc, od, sl, kV, dc, pm, an, cd, ct, e, i, ⟨l, c, k⟩⟩
theorem hsorts_of {K : PySem.W.Frag} {w : World} {S : Addr} {es : Array DictEntry} {n : Nat} (l : K.lookup S = some ⟨.type "dict", none, .dict es n, #[]⟩) (k : PySem.W.KeysLit w.params es.toList)
    (r_yes : RowOf K S "yes" [])
    (r_high : RowOf K S "high" ["line"])
    (r_low : RowOf K S "low" ["line"])
    (r_rise : RowOf K S "rise" ["line"])
    (r_fall : RowOf K S "fall" ["line"])
    (r_pulse : RowOf K S "pulse" ["line", "level", "number", "number"])
    (r_edges : RowOf K S "edges" ["line", "count", "number", "number"])
    (r_not : RowOf K S "not" ["wish"])
    (r_both : RowOf K S "both" ["wish", "wish"])
    (r_either : RowOf K S "either" ["wish", "wish"])
    (r_ago : RowOf K S "ago" ["number", "wish"])
    (r_within : RowOf K S "within" ["number", "wish"])
    (r_held : RowOf K S "held" ["count", "wish"])
    (r_since : RowOf K S "since" ["wish", "wish"])
    (r_nth : RowOf K S "nth" ["count", "wish"])
    : HSorts K w S := by
  have go : ∀ {x : Str} {ss : List Str}, RowOf K S x ss → ∃ a, KDct K w S x (.ref a) ∧ KT K a (ss.map V.str) := fun ⟨a, od, its, m, sl, e, la, z, v⟩ => ⟨a, ⟨es, n, _, l, k, e, rfl⟩, ⟨_, its, m, la, rfl, rfl, z, v⟩⟩
  intro x ss h
  unfold sortsOf at h
  by_cases e : x = "yes"
  · rw [if_pos e] at h; cases h; rw [e]; exact go r_yes
  rw [if_neg e] at h; clear e
  by_cases e : x = "high"
  · rw [if_pos e] at h; cases h; rw [e]; exact go r_high
  rw [if_neg e] at h; clear e
  by_cases e : x = "low"
  · rw [if_pos e] at h; cases h; rw [e]; exact go r_low
  rw [if_neg e] at h; clear e
  by_cases e : x = "rise"
  · rw [if_pos e] at h; cases h; rw [e]; exact go r_rise
  rw [if_neg e] at h; clear e
  by_cases e : x = "fall"
  · rw [if_pos e] at h; cases h; rw [e]; exact go r_fall
  rw [if_neg e] at h; clear e
  by_cases e : x = "pulse"
  · rw [if_pos e] at h; cases h; rw [e]; exact go r_pulse
  rw [if_neg e] at h; clear e
  by_cases e : x = "edges"
  · rw [if_pos e] at h; cases h; rw [e]; exact go r_edges
  rw [if_neg e] at h; clear e
  by_cases e : x = "not"
  · rw [if_pos e] at h; cases h; rw [e]; exact go r_not
  rw [if_neg e] at h; clear e
  by_cases e : x = "both"
  · rw [if_pos e] at h; cases h; rw [e]; exact go r_both
  rw [if_neg e] at h; clear e
  by_cases e : x = "either"
  · rw [if_pos e] at h; cases h; rw [e]; exact go r_either
  rw [if_neg e] at h; clear e
  by_cases e : x = "ago"
  · rw [if_pos e] at h; cases h; rw [e]; exact go r_ago
  rw [if_neg e] at h; clear e
  by_cases e : x = "within"
  · rw [if_pos e] at h; cases h; rw [e]; exact go r_within
  rw [if_neg e] at h; clear e
  by_cases e : x = "held"
  · rw [if_pos e] at h; cases h; rw [e]; exact go r_held
  rw [if_neg e] at h; clear e
  by_cases e : x = "since"
  · rw [if_pos e] at h; cases h; rw [e]; exact go r_since
  rw [if_neg e] at h; clear e
  by_cases e : x = "nth"
  · rw [if_pos e] at h; cases h; rw [e]; exact go r_nth
  rw [if_neg e] at h; clear e
  cases h
end AL
end
set_option Elab.async false
set_option linter.all false
set_option maxRecDepth 100000
open PySem PySem.W PyProof.Rows
set_option maxRecDepth 100000 in
set_option maxHeartbeats 0 in
theorem PySem.Challenge.cw_wirelooker_k79_whole_unlike_by_soonest_holds : PySem.Challenge.rw_wirelooker_k79_whole_unlike_by_soonest.Holds := by
  w_on; o_law; k_head; (case hw => w_witness2)
  k_fill
  refine AL.walkL (l := PySem.Challenge.rw_wirelooker_k79_whole_unlike_by_soonest) rfl rfl (fun w h Y => PySem.W.kIn_of Y) ?F
  case F =>
    intro w mg fa h KX G hmg
    replace hmg : mg "law" = some (.ref fa) := hmg
    refine' AL.all_mk KX G hmg ?aC ?aS ?hS ?pg ?hd ?po ?sa ?mk ?kc ?n1 ?n2 ?mi ?mp ?ms ?z_len ?z_sum ?z_any ?z_int ?z_max ?z_min ?z_tuple ?z_list ?z_range ?z_zip ?z_enumerate ?z_sorted ?z_dict ?z_isinstance ?z_bool ?d_long_of ?d_placed ?d_highs ?d_runs_of ?d_comings ?d_rises ?d_falls ?d_moments_of ?d_line_in ?d_things_of ?d_parts_in ?d_last_of ?d_step_line ?d_step_timed ?d_step_part ?d_level_rows ?d_catch_of ?d_shortest ?d_wishes_alike ?d_soonest ?d_spans_of ?d_both_of ?d_either_of ?d_others ?d_later ?d_grown ?d_worn ?d_between ?d_first_of ?d_points ?d_pulse_ends ?d_counted ?d_line_spans ?d_since_spans ?d_timed_spans ?d_when ?d_lw_box ?d_lw_take ?d_lw_names ?d_lw_inner ?d_lw_same ?d_lw_small_leaf ?d_lw_small ?d_lw_size ?d_lw_line ?d_lw_many ?d_lw_told ?d_lw_due ?d_law
    (case aC => k_is)
    (case aS => k_is)
    (case pg => k_is)
    (case hd => k_is)
    (case po => k_is)
    (case sa => k_is)
    (case mk => k_is)
    (case kc => k_is)
    (case n1 => k_is)
    (case n2 => k_is)
    (case z_len => k_is)
    (case z_sum => k_is)
    (case z_any => k_is)
    (case z_int => k_is)
    (case z_max => k_is)
    (case z_min => k_is)
    (case z_tuple => k_is)
    (case z_list => k_is)
    (case z_range => k_is)
    (case z_zip => k_is)
    (case z_enumerate => k_is)
    (case z_sorted => k_is)
    (case z_dict => k_is)
    (case z_isinstance => k_is)
    (case z_bool => k_is)
    (case mi => refine' AL.FM.of ?e ?i ?l ?c ?k; (case e => k_is); (case i => k_is); (case l => k_is); (case c => k_is); (case k => k_is))
    (case mp => refine' AL.FM.of ?e ?i ?l ?c ?k; (case e => k_is); (case i => k_is); (case l => k_is); (case c => k_is); (case k => k_is))
    (case ms => refine' AL.FM.of ?e ?i ?l ?c ?k; (case e => k_is); (case i => k_is); (case l => k_is); (case c => k_is); (case k => k_is))
    (case d_long_of => refine' AL.FA.of ?e ?l ?c ?k; (case e => k_is); (case l => k_is); (case c => k_is); (case k => k_is))
    (case d_placed => refine' AL.FA.of ?e ?l ?c ?k; (case e => k_is); (case l => k_is); (case c => k_is); (case k => k_is))
    (case d_highs => refine' AL.FA.of ?e ?l ?c ?k; (case e => k_is); (case l => k_is); (case c => k_is); (case k => k_is))
    (case d_runs_of => refine' AL.FA.of ?e ?l ?c ?k; (case e => k_is); (case l => k_is); (case c => k_is); (case k => k_is))
    (case d_comings => refine' AL.FA.of ?e ?l ?c ?k; (case e => k_is); (case l => k_is); (case c => k_is); (case k => k_is))
    (case d_rises => refine' AL.FA.of ?e ?l ?c ?k; (case e => k_is); (case l => k_is); (case c => k_is); (case k => k_is))
    (case d_falls => refine' AL.FA.of ?e ?l ?c ?k; (case e => k_is); (case l => k_is); (case c => k_is); (case k => k_is))
    (case d_moments_of => refine' AL.FA.of ?e ?l ?c ?k; (case e => k_is); (case l => k_is); (case c => k_is); (case k => k_is))
    (case d_line_in => refine' AL.FA.of ?e ?l ?c ?k; (case e => k_is); (case l => k_is); (case c => k_is); (case k => k_is))
    (case d_things_of => refine' AL.FA.of ?e ?l ?c ?k; (case e => k_is); (case l => k_is); (case c => k_is); (case k => k_is))
    (case d_parts_in => refine' AL.FA.of ?e ?l ?c ?k; (case e => k_is); (case l => k_is); (case c => k_is); (case k => k_is))
    (case d_last_of => refine' AL.FA.of ?e ?l ?c ?k; (case e => k_is); (case l => k_is); (case c => k_is); (case k => k_is))
    (case d_step_line => refine' AL.FA.of ?e ?l ?c ?k; (case e => k_is); (case l => k_is); (case c => k_is); (case k => k_is))
    (case d_step_timed => refine' AL.FA.of ?e ?l ?c ?k; (case e => k_is); (case l => k_is); (case c => k_is); (case k => k_is))
    (case d_step_part => refine' AL.FA.of ?e ?l ?c ?k; (case e => k_is); (case l => k_is); (case c => k_is); (case k => k_is))
    (case d_level_rows => refine' AL.FA.of ?e ?l ?c ?k; (case e => k_is); (case l => k_is); (case c => k_is); (case k => k_is))
    (case d_catch_of => refine' AL.FA.of ?e ?l ?c ?k; (case e => k_is); (case l => k_is); (case c => k_is); (case k => k_is))
    (case d_shortest => refine' AL.FA.of ?e ?l ?c ?k; (case e => k_is); (case l => k_is); (case c => k_is); (case k => k_is))
    (case d_wishes_alike => refine' AL.FA.of ?e ?l ?c ?k; (case e => k_is); (case l => k_is); (case c => k_is); (case k => k_is))
    (case d_soonest => refine' AL.FA.of ?e ?l ?c ?k; (case e => k_is); (case l => k_is); (case c => k_is); (case k => k_is))
    (case d_spans_of => refine' AL.FA.of ?e ?l ?c ?k; (case e => k_is); (case l => k_is); (case c => k_is); (case k => k_is))
    (case d_both_of => refine' AL.FA.of ?e ?l ?c ?k; (case e => k_is); (case l => k_is); (case c => k_is); (case k => k_is))
    (case d_either_of => refine' AL.FA.of ?e ?l ?c ?k; (case e => k_is); (case l => k_is); (case c => k_is); (case k => k_is))
    (case d_others => refine' AL.FA.of ?e ?l ?c ?k; (case e => k_is); (case l => k_is); (case c => k_is); (case k => k_is))
    (case d_later => refine' AL.FA.of ?e ?l ?c ?k; (case e => k_is); (case l => k_is); (case c => k_is); (case k => k_is))
    (case d_grown => refine' AL.FA.of ?e ?l ?c ?k; (case e => k_is); (case l => k_is); (case c => k_is); (case k => k_is))
    (case d_worn => refine' AL.FA.of ?e ?l ?c ?k; (case e => k_is); (case l => k_is); (case c => k_is); (case k => k_is))
    (case d_between => refine' AL.FA.of ?e ?l ?c ?k; (case e => k_is); (case l => k_is); (case c => k_is); (case k => k_is))
    (case d_first_of => refine' AL.FA.of ?e ?l ?c ?k; (case e => k_is); (case l => k_is); (case c => k_is); (case k => k_is))
    (case d_points => refine' AL.FA.of ?e ?l ?c ?k; (case e => k_is); (case l => k_is); (case c => k_is); (case k => k_is))
    (case d_pulse_ends => refine' AL.FA.of ?e ?l ?c ?k; (case e => k_is); (case l => k_is); (case c => k_is); (case k => k_is))
    (case d_counted => refine' AL.FA.of ?e ?l ?c ?k; (case e => k_is); (case l => k_is); (case c => k_is); (case k => k_is))
    (case d_line_spans => refine' AL.FA.of ?e ?l ?c ?k; (case e => k_is); (case l => k_is); (case c => k_is); (case k => k_is))
    (case d_since_spans => refine' AL.FA.of ?e ?l ?c ?k; (case e => k_is); (case l => k_is); (case c => k_is); (case k => k_is))
    (case d_timed_spans => refine' AL.FA.of ?e ?l ?c ?k; (case e => k_is); (case l => k_is); (case c => k_is); (case k => k_is))
    (case d_when => refine' AL.FA.of ?e ?l ?c ?k; (case e => k_is); (case l => k_is); (case c => k_is); (case k => k_is))
    (case d_lw_box => refine' AL.FA.of ?e ?l ?c ?k; (case e => k_is); (case l => k_is); (case c => k_is); (case k => k_is))
    (case d_lw_take => refine' AL.FA.of ?e ?l ?c ?k; (case e => k_is); (case l => k_is); (case c => k_is); (case k => k_is))
    (case d_lw_names => refine' AL.FA.of ?e ?l ?c ?k; (case e => k_is); (case l => k_is); (case c => k_is); (case k => k_is))
    (case d_lw_inner => refine' AL.FA.of ?e ?l ?c ?k; (case e => k_is); (case l => k_is); (case c => k_is); (case k => k_is))
    (case d_lw_same => refine' AL.FA.of ?e ?l ?c ?k; (case e => k_is); (case l => k_is); (case c => k_is); (case k => k_is))
    (case d_lw_small_leaf => refine' AL.FA.of ?e ?l ?c ?k; (case e => k_is); (case l => k_is); (case c => k_is); (case k => k_is))
    (case d_lw_small => refine' AL.FA.of ?e ?l ?c ?k; (case e => k_is); (case l => k_is); (case c => k_is); (case k => k_is))
    (case d_lw_size => refine' AL.FA.of ?e ?l ?c ?k; (case e => k_is); (case l => k_is); (case c => k_is); (case k => k_is))
    (case d_lw_line => refine' AL.FA.of ?e ?l ?c ?k; (case e => k_is); (case l => k_is); (case c => k_is); (case k => k_is))
    (case d_lw_many => refine' AL.FA.of ?e ?l ?c ?k; (case e => k_is); (case l => k_is); (case c => k_is); (case k => k_is))
    (case d_lw_told => refine' AL.FA.of ?e ?l ?c ?k; (case e => k_is); (case l => k_is); (case c => k_is); (case k => k_is))
    (case d_lw_due => refine' AL.FA.of ?e ?l ?c ?k; (case e => k_is); (case l => k_is); (case c => k_is); (case k => k_is))
    (case d_law => refine' AL.FA.of ?e ?l ?c ?k; (case e => k_is); (case l => k_is); (case c => k_is); (case k => k_is))
    (case hS =>
      refine' AL.hsorts_of ?l ?k ?r_yes ?r_high ?r_low ?r_rise ?r_fall ?r_pulse ?r_edges ?r_not ?r_both ?r_either ?r_ago ?r_within ?r_held ?r_since ?r_nth
      (case l => k_is)
      (case k => k_keys)
      (case r_yes => refine' AL.RowOf.of ?e ?l ?z ?v; (case e => k_is); (case l => k_is); (case z => decide); (case v => repeat (first | exact .nil | refine .cons ⟨_, rfl⟩ ?_)))
      (case r_high => refine' AL.RowOf.of ?e ?l ?z ?v; (case e => k_is); (case l => k_is); (case z => decide); (case v => repeat (first | exact .nil | refine .cons ⟨_, rfl⟩ ?_)))
      (case r_low => refine' AL.RowOf.of ?e ?l ?z ?v; (case e => k_is); (case l => k_is); (case z => decide); (case v => repeat (first | exact .nil | refine .cons ⟨_, rfl⟩ ?_)))
      (case r_rise => refine' AL.RowOf.of ?e ?l ?z ?v; (case e => k_is); (case l => k_is); (case z => decide); (case v => repeat (first | exact .nil | refine .cons ⟨_, rfl⟩ ?_)))
      (case r_fall => refine' AL.RowOf.of ?e ?l ?z ?v; (case e => k_is); (case l => k_is); (case z => decide); (case v => repeat (first | exact .nil | refine .cons ⟨_, rfl⟩ ?_)))
      (case r_pulse => refine' AL.RowOf.of ?e ?l ?z ?v; (case e => k_is); (case l => k_is); (case z => decide); (case v => repeat (first | exact .nil | refine .cons ⟨_, rfl⟩ ?_)))
      (case r_edges => refine' AL.RowOf.of ?e ?l ?z ?v; (case e => k_is); (case l => k_is); (case z => decide); (case v => repeat (first | exact .nil | refine .cons ⟨_, rfl⟩ ?_)))
      (case r_not => refine' AL.RowOf.of ?e ?l ?z ?v; (case e => k_is); (case l => k_is); (case z => decide); (case v => repeat (first | exact .nil | refine .cons ⟨_, rfl⟩ ?_)))
      (case r_both => refine' AL.RowOf.of ?e ?l ?z ?v; (case e => k_is); (case l => k_is); (case z => decide); (case v => repeat (first | exact .nil | refine .cons ⟨_, rfl⟩ ?_)))
      (case r_either => refine' AL.RowOf.of ?e ?l ?z ?v; (case e => k_is); (case l => k_is); (case z => decide); (case v => repeat (first | exact .nil | refine .cons ⟨_, rfl⟩ ?_)))
      (case r_ago => refine' AL.RowOf.of ?e ?l ?z ?v; (case e => k_is); (case l => k_is); (case z => decide); (case v => repeat (first | exact .nil | refine .cons ⟨_, rfl⟩ ?_)))
      (case r_within => refine' AL.RowOf.of ?e ?l ?z ?v; (case e => k_is); (case l => k_is); (case z => decide); (case v => repeat (first | exact .nil | refine .cons ⟨_, rfl⟩ ?_)))
      (case r_held => refine' AL.RowOf.of ?e ?l ?z ?v; (case e => k_is); (case l => k_is); (case z => decide); (case v => repeat (first | exact .nil | refine .cons ⟨_, rfl⟩ ?_)))
      (case r_since => refine' AL.RowOf.of ?e ?l ?z ?v; (case e => k_is); (case l => k_is); (case z => decide); (case v => repeat (first | exact .nil | refine .cons ⟨_, rfl⟩ ?_)))
      (case r_nth => refine' AL.RowOf.of ?e ?l ?z ?v; (case e => k_is); (case l => k_is); (case z => decide); (case v => repeat (first | exact .nil | refine .cons ⟨_, rfl⟩ ?_)))
    )
