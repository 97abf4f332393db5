import PyProof.Rows.All
import Wide.All
import OpenK.AllK
import Wide.FinOn
import HandS.ForMost
import HandS.Conv
import HandS.Style
import HandS.Flow
import HandS.TupAny
import HandS.Wide
import HandS.Gcd
import HandS.IsInst
import HandS.Zip
import HandS.Rev
import KE.KeyNested
import KE.KDictKeyed
import HandS.NoneIn
import KE.SortData
import HandS.SortOrd
import HandS.AnyAll
import HandS.Defaults
import HandS.HeadHook1
import HandS.HeadHook2
import HandS.HeadHook3
import HandS.HeadHook4
import HandS.EndTab
import HandS.HeadWalk
import HandS.TupMul
import HandS.Deep
import HandS.Iter
import KE.DataAny
import HandS.GenOver
import HandS.SetKeys
import HandS.More
import HandS.DictComp
import KE.KDictCopyH
import KE.KDictSum
import HandS.SortKw
import HandS.ExcValue
import KE.DatumOrd
import HandS.Head0
import HandS.Head1
import HandS.Head2
import HandS.Head3
import HandS.HeadEnd
import PySem.Challenge.RW_wayorring_k11_names_polynomials_places
set_option Elab.async false
set_option linter.all false
set_option maxRecDepth 100000
set_option maxHeartbeats 4000000
section
namespace DD
open PySem PySem.Spec PyProof.Rows L2

/-- data as values: tuples are values, what can change stands at an address -/
inductive D where
  | non | bl (b : Bool) | int (i : Int) | str (s : Str) | tup (xs : List D) | ref (a : Addr) | ty (n : String)
  /-- a list that is only read (the script) -/
  | rol (xs : List D)
  /-- a tuple whose object is known (it has no attributes of its own) -/
  | pup (xs : List D)
  deriving Inhabited
/-- what stands at an address -/
inductive MO where
  | lst (xs : List D)
  | dK (kvs : List (Key × D))
  /-- an instance of the class at C: the names of its attributes in their order, the values of the first of them -/
  | ins (C : Addr) (ns : List Str) (ds : List D)
  /-- a table of code objects: what is in it is not told -/
  | tbl
  /-- a dict: keys ints and texts, or tuples of ints, None and such tuples; one that is walked (not changed meanwhile) -/
  | dct (kvs : List (D × D)) | fct (kvs : List (D × D))
  deriving Inhabited
abbrev Mem := Addr → Option MO
def updM (M : Mem) (a : Addr) (o : MO) : Mem := fun b => if b = a then some o else M b
theorem updM_same {M : Mem} {a : Addr} {o : MO} : updM M a o a = some o := by unfold updM; rw [if_pos rfl]
theorem updM_ne {M : Mem} {a b : Addr} {o : MO} (h : b ≠ a) : updM M a o b = M b := by unfold updM; rw [if_neg h]
theorem updM_upd {M : Mem} {a : Addr} {o u : MO} : updM (updM M a o) a u = updM M a u := by
  funext b; unfold updM; split <;> rfl
/-- less is known -/
def Sub (M M' : Mem) : Prop := ∀ a o, M a = some o → M' a = some o
theorem Sub.refl (M : Mem) : Sub M M := fun _ _ h => h
theorem Sub.trans {M M1 M2 : Mem} (a : Sub M M1) (b : Sub M1 M2) : Sub M M2 := fun x o h => b x o (a x o h)
theorem Sub.new {M : Mem} {p : Addr} {o : MO} (h : M p = none) : Sub M (updM M p o) := fun a u e => by
  have : a ≠ p := fun z => by rw [z, h] at e; cases e
  rw [updM_ne this]; exact e

/-- a list that is only read -/
def RoL (K : PySem.W.Frag) (H : Hp) (a : Addr) (vs : List V) : Prop := (∃ o, H a = some (.frz o (.lst vs))) ∨
  ∃ (o : Obj) (its : Array Value) (n : Nat), K.lookup a = some o ∧ o.cls = .type "list" ∧ o.dict = none ∧ o.data = .seq its n ∧ its.size ≤ sizeLine ∧ Vals vs its.toList
theorem RoL.sq {K : PySem.W.Frag} {H : Hp} {a : Addr} {vs : List V} (h : RoL K H a vs) : SqL K H a vs := by
  rcases h with h | h
  · exact .inl (.inr h)
  · exact .inr h
section
variable (K : PySem.W.Frag) (H : Hp)
mutual
def RV : D → V → Prop
  | .non, v => v = .non
  | .bl b, v => v = .bl b
  | .int i, v => v = .int i
  | .str s, v => v = .str s
  | .ref a, v => v = .ref a
  | .ty n, v => v = .ty n
  | .tup ds, v => ∃ a vs, v = .ref a ∧ SqT K H a vs ∧ RVs ds vs
  | .rol ds, v => ∃ a vs, v = .ref a ∧ RoL K H a vs ∧ RVs ds vs
  | .pup ds, v => ∃ a vs, v = .ref a ∧ (∃ o, H a = some (.frz o (.tup vs)) ∧ o.dict = none) ∧ RVs ds vs
def RVs : List D → List V → Prop
  | [], vs => vs = []
  | d :: ds, vs => ∃ v ws, vs = v :: ws ∧ RV d v ∧ RVs ds ws
end
/-- an int or a text as a key -/
def keyD : Key → D
  | .inl i => .int i
  | .inr x => .str x
mutual
/-- a key of tuples -/
def nkD : D → Option NestedKey
  | .non => some .none
  | .int i => some (.num i)
  | .tup ds => (nkDs ds).map .tup
  | _ => none
def nkDs : List D → Option (List NestedKey)
  | [] => some []
  | d :: ds => match nkD d, nkDs ds with
    | some k, some ks => some (k :: ks)
    | _, _ => none
end
mutual
/-- no text within -/
def noTxt : NestedKey → Bool
  | .text _ => false
  | .tup ks => noTxts ks
  | _ => true
def noTxts : List NestedKey → Bool
  | [] => true
  | k :: ks => noTxt k && noTxts ks
end
/-- a dict of tuple keys: each key, where its tuple stands, the value -/
def dictN (a : Addr) (xs : List (NestedKey × Addr × V)) : HO := .ext fun h => (a == sysModules) = false ∧ xs.length ≤ sizeLine ∧ (∀ x ∈ xs, noTxt x.1 = true) ∧ (xs.map (·.1)).Nodup ∧
  ∃ ys : List (NestedKey × Addr × Value), Paired (fun (p : NestedKey × Addr × V) (q : NestedKey × Addr × Value) => p.1 = q.1 ∧ p.2.1 = q.2.1 ∧ RelV p.2.2 q.2.2) xs ys ∧
    ∃ o es ep, h.get? a = some o ∧ o.ExactDict ∧ o.data = .dict es ep ∧ ∀ w : World, es.toList = ys.map fun x => (⟨x.1.hash w, .ref x.2.1, x.2.2⟩ : DictEntry)
/-- the entries of a dict of tuple keys -/
def DN (p : D × D) (x : NestedKey × Addr × V) : Prop := nkD p.1 = some x.1 ∧ x.1.depth ≤ 8 ∧ RV K H p.1 (.ref x.2.1) ∧ RV K H p.2 x.2.2
/-- what a dict's object holds -/
def DicO (a : Addr) (u : HO → HO) (kvs : List (D × D)) : Prop :=
  (∃ ws : List (Key × V), H a = some (u (.dK ws)) ∧ Paired (fun (p : D × D) (q : Key × V) => p.1 = keyD q.1 ∧ RV K H p.2 q.2) kvs ws) ∨
  ∃ xs : List (NestedKey × Addr × V), H a = some (u (dictN a xs)) ∧ Paired (DN K H) kvs xs
/-- how a thing of the memory stands -/
def RO (a : Addr) : MO → Prop
  | .lst ds => ∃ vs, H a = some (.lst vs) ∧ RVs K H ds vs
  | .dK kvs => ∃ ws : List (Key × V), H a = some (.dK ws) ∧ kvs.map (·.1) = ws.map (·.1) ∧ RVs K H (kvs.map (·.2)) (ws.map (·.2))
  | .ins C ns ds => ∃ (dx : Addr) (ws : List (Str × V)), H a = some (.ins C dx ws) ∧ ws.map (·.1) = ns.take ds.length ∧ RVs K H ds (ws.map (·.2))
  | .tbl => ∃ ps : Array Value, H a = some (.tbl ps) ∧ TriplesOk ps.toList
  | .dct kvs => DicO K H a (fun u => u) kvs
  | .fct kvs => ∃ o, DicO K H a (.frz o) kvs
def RM (M : Mem) : Prop := ∀ a o, M a = some o → RO K H a o
end
/-- tuples are kept -/
structure Ext (K : PySem.W.Frag) (H H' : Hp) : Prop where
  t : ∀ a xs, H a = some (.tup xs) → H' a = some (.tup xs)
  f : ∀ a o xs, H a = some (.frz o xs) → H' a = some (.frz o xs)
theorem Ext.refl {K : PySem.W.Frag} (H : Hp) : Ext K H H := ⟨fun _ _ h => h, fun _ _ _ h => h⟩
theorem Ext.trans {K : PySem.W.Frag} {H H1 H2 : Hp} (a : Ext K H H1) (b : Ext K H1 H2) : Ext K H H2 := ⟨fun x o h => b.t x o (a.t x o h), fun x o u h => b.f x o u (a.f x o u h)⟩
theorem Ext.sqT {K : PySem.W.Frag} {H H' : Hp} (e : Ext K H H') {a : Addr} {xs : List V} (h : SqT K H a xs) : SqT K H' a xs := by
  rcases h with (h | ⟨u, h⟩) | h
  · exact .inl (.inl (e.t _ _ h))
  · exact .inl (.inr ⟨u, e.f _ _ _ h⟩)
  · exact .inr h
theorem Ext.rol {K : PySem.W.Frag} {H H' : Hp} (e : Ext K H H') {a : Addr} {xs : List V} (h : RoL K H a xs) : RoL K H' a xs := by
  rcases h with ⟨u, h⟩ | h
  · exact .inl ⟨u, e.f _ _ _ h⟩
  · exact .inr h
theorem Ext.new {K : PySem.W.Frag} {H : Hp} {p : Addr} {o : HO} (h : H p = none) : Ext K H (upd H p o) :=
  ⟨fun a xs e => by rw [upd_ne (ne_of_none e h)]; exact e, fun a u xs e => by rw [upd_ne (ne_of_none e h)]; exact e⟩
/-- a thing that is no tuple is changed -/
theorem Ext.mut {K : PySem.W.Frag} {H : Hp} {p : Addr} {u o : HO} (h : H p = some u) (n1 : ∀ xs, u ≠ .tup xs) (n2 : ∀ o xs, u ≠ .frz o xs) : Ext K H (upd H p o) :=
  ⟨fun a xs e => by rw [upd_ne (ne_of e h (fun q => n1 _ q.symm))]; exact e, fun a z xs e => by rw [upd_ne (ne_of e h (fun q => n2 _ _ q.symm))]; exact e⟩
section
variable {K : PySem.W.Frag} {H H' : Hp}
mutual
theorem RV.ext (e : Ext K H H') : ∀ {d : D} {v : V}, RV K H d v → RV K H' d v
  | .non, _, h => h
  | .bl _, _, h => h
  | .int _, _, h => h
  | .str _, _, h => h
  | .ref _, _, h => h
  | .ty _, _, h => h
  | .tup ds, v, h => by
    obtain ⟨a, vs, r, s, q⟩ := h
    exact ⟨a, vs, r, e.sqT s, RVs.ext e q⟩
  | .rol ds, v, h => by
    obtain ⟨a, vs, r, s, q⟩ := h
    exact ⟨a, vs, r, e.rol s, RVs.ext e q⟩
  | .pup ds, v, h => by
    obtain ⟨a, vs, r, ⟨o, s, n⟩, q⟩ := h
    exact ⟨a, vs, r, ⟨o, e.f _ _ _ s, n⟩, RVs.ext e q⟩
theorem RVs.ext (e : Ext K H H') : ∀ {ds : List D} {vs : List V}, RVs K H ds vs → RVs K H' ds vs
  | [], _, h => h
  | d :: ds, _, h => by
    obtain ⟨v, ws, r, q, t⟩ := h
    exact ⟨v, ws, r, RV.ext e q, RVs.ext e t⟩
end
theorem RVs.nil : RVs K H [] [] := rfl
theorem RVs.cons {d : D} {v : V} {ds : List D} {vs : List V} (h : RV K H d v) (t : RVs K H ds vs) : RVs K H (d :: ds) (v :: vs) := ⟨v, vs, rfl, h, t⟩
theorem RVs.length : ∀ {ds : List D} {vs : List V}, RVs K H ds vs → ds.length = vs.length
  | [], _, h => by cases h; rfl
  | _ :: _, _, h => by
    obtain ⟨v, ws, rfl, _, t⟩ := h
    simp [RVs.length t]
theorem RVs.get : ∀ {ds : List D} {vs : List V} {i : Nat} {d : D}, RVs K H ds vs → ds[i]? = some d → ∃ v, vs[i]? = some v ∧ RV K H d v
  | [], _, _, _, _, e => by simp at e
  | _ :: _, _, 0, _, h, e => by
    obtain ⟨v, ws, rfl, q, t⟩ := h
    simp at e; subst e
    exact ⟨v, rfl, q⟩
  | _ :: _, _, i + 1, _, h, e => by
    obtain ⟨v, ws, rfl, q, t⟩ := h
    obtain ⟨v', a, b⟩ := RVs.get (i := i) t (by simpa using e)
    exact ⟨v', by simpa using a, b⟩
theorem RVs.append : ∀ {ds es : List D} {vs ws : List V}, RVs K H ds vs → RVs K H es ws → RVs K H (ds ++ es) (vs ++ ws)
  | [], _, _, _, h, t => by cases h; exact t
  | _ :: _, _, _, _, h, t => by
    obtain ⟨v, ws, rfl, q, r⟩ := h
    exact .cons q (RVs.append r t)
theorem RVs.take : ∀ {ds : List D} {vs : List V} (n : Nat), RVs K H ds vs → RVs K H (ds.take n) (vs.take n)
  | _, _, 0, _ => .nil
  | [], _, _ + 1, h => by cases h; exact .nil
  | _ :: _, _, n + 1, h => by
    obtain ⟨v, ws, rfl, q, r⟩ := h
    exact .cons q (RVs.take n r)
theorem RVs.drop : ∀ {ds : List D} {vs : List V} (n : Nat), RVs K H ds vs → RVs K H (ds.drop n) (vs.drop n)
  | _, _, 0, h => h
  | [], _, _ + 1, h => by cases h; exact .nil
  | _ :: _, _, n + 1, h => by
    obtain ⟨v, ws, rfl, q, r⟩ := h
    exact RVs.drop n r
theorem RVs.set : ∀ {ds : List D} {vs : List V} {d : D} {v : V} (i : Nat), RVs K H ds vs → RV K H d v → RVs K H (ds.set i d) (vs.set i v)
  | [], _, _, _, _, h, _ => by cases h; exact .nil
  | _ :: _, _, _, _, 0, h, r => by
    obtain ⟨v, ws, rfl, q, t⟩ := h
    exact .cons r t
  | _ :: _, _, _, _, i + 1, h, r => by
    obtain ⟨v, ws, rfl, q, t⟩ := h
    exact .cons q (RVs.set i t r)
theorem RVs.reverse : ∀ {ds : List D} {vs : List V}, RVs K H ds vs → RVs K H ds.reverse vs.reverse
  | [], _, h => by cases h; exact .nil
  | _ :: _, _, h => by
    obtain ⟨v, ws, rfl, q, t⟩ := h
    rw [List.reverse_cons, List.reverse_cons]
    exact RVs.append (RVs.reverse t) (.cons q .nil)
theorem RVs.eraseIdx : ∀ {ds : List D} {vs : List V} (i : Nat), RVs K H ds vs → RVs K H (ds.eraseIdx i) (vs.eraseIdx i)
  | [], _, _, h => by cases h; exact .nil
  | _ :: _, _, 0, h => by
    obtain ⟨v, ws, rfl, q, t⟩ := h
    exact t
  | _ :: _, _, i + 1, h => by
    obtain ⟨v, ws, rfl, q, t⟩ := h
    exact .cons q (RVs.eraseIdx i t)
theorem RVs.dropLast {ds : List D} {vs : List V} (h : RVs K H ds vs) : RVs K H ds.dropLast vs.dropLast := by
  rw [List.dropLast_eq_take, List.dropLast_eq_take, ← h.length]
  exact h.take _
/-- ints -/
theorem RVs.ints : ∀ {ns : List Int} {vs : List V}, RVs K H (ns.map D.int) vs → vs = ns.map V.int
  | [], _, h => h
  | _ :: _, _, h => by
    obtain ⟨v, ws, rfl, q, t⟩ := h
    have q : v = .int _ := q
    rw [q, RVs.ints t]
    rfl
theorem RVs.of_ints : ∀ ns : List Int, RVs K H (ns.map D.int) (ns.map V.int)
  | [] => .nil
  | _ :: r => .cons rfl (RVs.of_ints r)
theorem RVs.bls : ∀ {ns : List Bool} {vs : List V}, RVs K H (ns.map D.bl) vs → vs = ns.map V.bl
  | [], _, h => h
  | _ :: _, _, h => by
    obtain ⟨v, ws, rfl, q, t⟩ := h
    have q : v = .bl _ := q
    rw [q, RVs.bls t]
    rfl

/-! ### the memory through a change -/
theorem DicO.ext {a : Addr} {u : HO → HO} {kvs : List (D × D)} (e : Ext K H H') (k : H' a = H a) (h : DicO K H a u kvs) : DicO K H' a u kvs := by
  rcases h with ⟨ws, h1, h2⟩ | ⟨xs, h1, h2⟩
  · exact .inl ⟨ws, by rw [k]; exact h1, Paired.mapP h2 fun p q z => ⟨z.1, z.2.ext e⟩⟩
  · exact .inr ⟨xs, by rw [k]; exact h1, Paired.mapP h2 fun p q z => ⟨z.1, z.2.1, z.2.2.1.ext e, z.2.2.2.ext e⟩⟩
theorem ro_some {a : Addr} {o : MO} (h : RO K H a o) : ∃ u, H a = some u ∧ (∀ xs, u ≠ .tup xs) := by
  cases o with
  | lst ds => obtain ⟨vs, h1, h2⟩ := h; exact ⟨_, h1, fun _ z => (by cases z)⟩
  | dK kvs => obtain ⟨vs, h1, h2⟩ := h; exact ⟨_, h1, fun _ z => (by cases z)⟩
  | ins C ns ds => obtain ⟨dx, vs, h1, h2⟩ := h; exact ⟨_, h1, fun _ z => (by cases z)⟩
  | tbl => obtain ⟨ps, h1, h2⟩ := h; exact ⟨_, h1, fun _ z => (by cases z)⟩
  | dct kvs => rcases h with ⟨ws, h1, _⟩ | ⟨xs, h1, _⟩ <;> exact ⟨_, h1, fun _ z => (by cases z)⟩
  | fct kvs => obtain ⟨o, h⟩ := h; rcases h with ⟨ws, h1, _⟩ | ⟨xs, h1, _⟩ <;> exact ⟨_, h1, fun _ z => (by cases z)⟩
/-- what it leans on is as it was -/
theorem ro_stay {a : Addr} {o : MO} (e : Ext K H H') (k : H' a = H a) (h : RO K H a o) : RO K H' a o := by
  cases o with
  | lst ds => obtain ⟨vs, h1, h2⟩ := h; exact ⟨vs, by rw [k]; exact h1, h2.ext e⟩
  | dK kvs => obtain ⟨vs, h1, h2, h3⟩ := h; exact ⟨vs, by rw [k]; exact h1, h2, h3.ext e⟩
  | ins C ns ds => obtain ⟨dx, vs, h1, h2, h3⟩ := h; exact ⟨dx, vs, by rw [k]; exact h1, h2, h3.ext e⟩
  | tbl => obtain ⟨ps, h1, h2⟩ := h; exact ⟨ps, by rw [k]; exact h1, h2⟩
  | dct kvs => exact DicO.ext (u := fun u => u) e k h
  | fct kvs => obtain ⟨o, h⟩ := h; exact ⟨o, DicO.ext (u := .frz o) e k h⟩
theorem rm_none {M : Mem} {p : Addr} (h : RM K H M) (hp : H p = none) : M p = none := by
  cases e : M p with
  | none => rfl
  | some o =>
    obtain ⟨u, q, _⟩ := ro_some (h p o e)
    rw [hp] at q; cases q
theorem rm_sub {M M' : Mem} (h : RM K H M') (s : Sub M M') : RM K H M := fun a o e => h a o (s a o e)
/-- a thing that the memory doesn't tell of is made -/
theorem rm_skip {M : Mem} {p : Addr} {u : HO} (h : RM K H M) (hp : H p = none) : RM K (upd H p u) M := fun a o e => by
  obtain ⟨w, q, _⟩ := ro_some (h a o e)
  exact ro_stay (Ext.new hp) (upd_ne (ne_of_none q hp)) (h a o e)
theorem rm_new {M : Mem} {p : Addr} {u : HO} {o : MO} (h : RM K H M) (hp : H p = none) (ho : RO K (upd H p u) p o) : RM K (upd H p u) (updM M p o) := fun a o' e => by
  by_cases ha : a = p
  · subst ha; rw [updM_same] at e; cases e; exact ho
  · rw [updM_ne ha] at e
    exact rm_skip h hp a o' e
theorem rm_put {M : Mem} {p : Addr} {w u : HO} {o : MO} (h : RM K H M) (hp : H p = some w) (e : Ext K H (upd H p u)) (ho : RO K (upd H p u) p o) : RM K (upd H p u) (updM M p o) := fun a o' q => by
  by_cases ha : a = p
  · subst ha; rw [updM_same] at q; cases q; exact ho
  · rw [updM_ne ha] at q
    exact ro_stay e (upd_ne ha) (h a o' q)
theorem ro_lst {p : Addr} {ds : List D} {vs : List V} (h : H p = some (.lst vs)) (r : RVs K H ds vs) : RO K H p (.lst ds) := ⟨vs, h, r⟩
theorem rm_newL {M : Mem} {p : Addr} {ds : List D} {vs : List V} (h : RM K H M) (hp : H p = none) (r : RVs K H ds vs) : RM K (upd H p (.lst vs)) (updM M p (.lst ds)) := rm_new h hp ⟨vs, upd_same, r.ext (Ext.new hp)⟩
theorem ext_lst {p : Addr} {vs : List V} {u : HO} (hp : H p = some (.lst vs)) : Ext K H (upd H p u) := Ext.mut hp (fun _ z => by cases z) (fun _ _ z => by cases z)
theorem rm_putL {M : Mem} {p : Addr} {ds : List D} {ws vs : List V} (h : RM K H M) (hp : H p = some (.lst ws)) (r : RVs K H ds vs) : RM K (upd H p (.lst vs)) (updM M p (.lst ds)) := rm_put h hp (ext_lst hp) ⟨vs, upd_same, r.ext (ext_lst hp)⟩
end

/-! ### the slots -/
abbrev DSt := List (Option D)
structure Sl (K : PySem.W.Frag) (σ : L2.St) (H : Hp) (δ : DSt) : Prop where
  len : δ.length = σ.length
  at_ : ∀ (i : Nat) (d : D), δ[i]? = some (some d) → ∃ v, σ[i]? = some (some v) ∧ RV K H d v
section
variable {K : PySem.W.Frag} {H H' : Hp} {σ : L2.St} {δ : DSt}
theorem Sl.ext (e : Ext K H H') (h : Sl K σ H δ) : Sl K σ H' δ := ⟨h.len, fun i d q => by
  obtain ⟨v, a, b⟩ := h.at_ i d q
  exact ⟨v, a, b.ext e⟩⟩
theorem Sl.set {i : Nat} {d : D} {v : V} (h : Sl K σ H δ) (r : RV K H d v) : Sl K (σ.set i (some v)) H (δ.set i (some d)) := ⟨by simp [h.len], fun j d' q => by
  by_cases hj : i = j
  · subst hj
    by_cases hi : i < δ.length
    · rw [List.getElem?_set_self hi] at q
      cases q
      exact ⟨v, List.getElem?_set_self (by rw [← h.len]; exact hi), r⟩
    · rw [List.getElem?_eq_none (by simpa using hi)] at q; cases q
  · rw [List.getElem?_set_ne hj] at q ⊢
    exact h.at_ j d' q⟩
def wipeD (δ : DSt) : List Nat → DSt
  | [] => δ
  | v :: vs => (wipeD δ vs).set v none
theorem Sl.wipe (h : Sl K σ H δ) : ∀ vs : List Nat, Sl K (wipe σ vs) H (wipeD δ vs)
  | [] => h
  | v :: vs => by
    have ih := h.wipe vs
    refine ⟨?_, fun j d' q => ?_⟩
    · show ((wipeD δ vs).set v none).length = ((L2.wipe σ vs).set v none).length
      simp [ih.len]
    · have q : ((wipeD δ vs).set v none)[j]? = some (some d') := q
      show ∃ w, ((L2.wipe σ vs).set v none)[j]? = some (some w) ∧ _
      by_cases hj : v = j
      · subst hj
        by_cases hi : v < (wipeD δ vs).length
        · rw [List.getElem?_set_self hi] at q; cases q
        · rw [List.getElem?_eq_none (by simpa using hi)] at q; cases q
      · rw [List.getElem?_set_ne hj] at q ⊢
        exact ih.at_ j d' q
end

/-! ### readings over data -/
abbrev DK := D → Mem → Prop
abbrev DE := DSt → Mem → DK → Prop
abbrev DT := DSt → Mem → (Bool → Mem → Prop) → Prop
abbrev DA := DSt → Mem → (List D → Mem → Prop) → Prop
structure DEnds where
  nx : DSt → Mem → Prop
  rt : DK
  bk : DSt → Mem → Prop := fun _ _ => False
  ct : DSt → Mem → Prop := fun _ _ => False
abbrev DS := DEnds → DSt → Mem → Prop
section
variable (K : PySem.W.Frag)
/-- what is wanted of a value behind a reading -/
def KQ (H : Hp) (R : DK) (Q : VK) : Prop := ∀ d M' v H', R d M' → Ext K H H' → RV K H' d v → RM K H' M' → Q v H'
def lift (t : DE) : TE := fun σ H Q => ∃ δ M R, Sl K σ H δ ∧ RM K H M ∧ t δ M R ∧ KQ K H R Q
def liftT (t : DT) : TT := fun σ H Q => ∃ δ M R, Sl K σ H δ ∧ RM K H M ∧ t δ M R ∧ ∀ b M' H', R b M' → Ext K H H' → RM K H' M' → Q b H'
def liftA (t : DA) : TA := fun σ H Q => ∃ δ M R, Sl K σ H δ ∧ RM K H M ∧ t δ M R ∧ ∀ ds M' vs H', R ds M' → Ext K H H' → RVs K H' ds vs → RM K H' M' → Q vs H'
structure EndsOk (H : Hp) (R : DEnds) (Dd : Ends) : Prop where
  nx : ∀ δ M σ H', R.nx δ M → Ext K H H' → Sl K σ H' δ → RM K H' M → Dd.nx σ H'
  bk : ∀ δ M σ H', R.bk δ M → Ext K H H' → Sl K σ H' δ → RM K H' M → Dd.bk σ H'
  ct : ∀ δ M σ H', R.ct δ M → Ext K H H' → Sl K σ H' δ → RM K H' M → Dd.ct σ H'
  rt : KQ K H R.rt Dd.rt
def liftS (t : DS) : TS := fun Dd σ H => ∃ δ M R, Sl K σ H δ ∧ RM K H M ∧ t R δ M ∧ EndsOk K H R Dd
end
theorem KQ.ext {K : PySem.W.Frag} {H H1 : Hp} {R : DK} {Q : VK} (k : KQ K H R Q) (e : Ext K H H1) : KQ K H1 R Q := fun d M' v H' r e' rv rm => k d M' v H' r (e.trans e') rv rm
theorem EndsOk.ext {K : PySem.W.Frag} {H H1 : Hp} {R : DEnds} {Dd : Ends} (k : EndsOk K H R Dd) (e : Ext K H H1) : EndsOk K H1 R Dd :=
  ⟨fun δ M σ H' r e' s m => k.nx δ M σ H' r (e.trans e') s m, fun δ M σ H' r e' s m => k.bk δ M σ H' r (e.trans e') s m, fun δ M σ H' r e' s m => k.ct δ M σ H' r (e.trans e') s m, k.rt.ext e⟩
structure PD (X : Cx) (e : Expr) (t : DE) : Prop where
  pe : PE X e (lift X.K t)
structure PDT (X : Cx) (e : Expr) (t : DT) : Prop where
  pt : PT X e (liftT X.K t)
structure PDA (X : Cx) (es : List Expr) (t : DA) : Prop where
  pa : PA X es (liftA X.K t)
structure PDS (X : Cx) (st : Stmt) (t : DS) : Prop where
  ps : PS X st (liftS X.K t)
structure PDSs (X : Cx) (st : List Stmt) (t : DS) : Prop where
  ps : PSs X st (liftS X.K t)
section
variable {X : Cx} {e : Expr} {es : List Expr} {st : Stmt} {sts : List Stmt}
theorem PE_imp {t t' : TE} (h : PE X e t) (f : ∀ σ H Q, t' σ H Q → t σ H Q) : PE X e t' := ⟨fun pins s σ H Q I q => h.run pins s σ H Q I (f _ _ _ q)⟩
theorem PT_imp {t t' : TT} (h : PT X e t) (f : ∀ σ H Q, t' σ H Q → t σ H Q) : PT X e t' := ⟨fun pins s σ H Q I q => h.run pins s σ H Q I (f _ _ _ q)⟩
theorem PA_imp {t t' : TA} (h : PA X es t) (f : ∀ σ H Q, t' σ H Q → t σ H Q) : PA X es t' := ⟨fun pos pins s σ H Q I q => h.run pos pins s σ H Q I (f _ _ _ q)⟩
theorem PS_imp {t t' : TS} (h : PS X st t) (f : ∀ Dd σ H, t' Dd σ H → t Dd σ H) : PS X st t' := ⟨fun pins s σ H Q I q => h.run pins s σ H Q I (f _ _ _ q)⟩
theorem PSs_imp {t t' : TS} (h : PSs X sts t) (f : ∀ Dd σ H, t' Dd σ H → t Dd σ H) : PSs X sts t' := ⟨fun pins s σ H Q I q => h.run pins s σ H Q I (f _ _ _ q)⟩
end

/-! ### names, constants -/
def dVar (i : Nat) : DE := fun δ M R => match δ[i]? with
  | some (some d) => R d M
  | _ => False
def dC (d : D) : DE := fun _ M R => R d M
section
variable {X : Cx} {pos : Pos}
theorem pd_var {i : Nat} {e : Expr} (h : PE X e (tVar i)) : PD X e (dVar i) := ⟨PE_imp h fun σ H Q q => by
  obtain ⟨δ, M, R, S, m, h, k⟩ := q
  unfold dVar at h
  split at h
  · rename_i d hd
    obtain ⟨v, a, b⟩ := S.at_ i d hd
    exact ⟨v, a, k d M v H h (Ext.refl H) b m⟩
  · exact h.elim⟩
theorem pd_c {e : Expr} {d : D} {v : V} (h : PE X e (tC v)) (r : ∀ H, RV X.K H d v) : PD X e (dC d) := ⟨PE_imp h fun σ H Q q => by
  obtain ⟨δ, M, R, S, m, h, k⟩ := q
  exact k d M v H h (Ext.refl H) (r H) m⟩
theorem pd_int {i : Int} {j : Nat} : PD X (.Constant (.int i) j pos) (dC (.int i)) := pd_c pe_int fun _ => rfl
theorem pd_bl {b : Bool} {j : Nat} : PD X (.Constant (.bool b) j pos) (dC (.bl b)) := pd_c pe_bl fun _ => rfl
theorem pd_non {j : Nat} : PD X (.Constant .none j pos) (dC .non) := pd_c pe_non fun _ => rfl
theorem pd_str {x : Str} {j : Nat} : PD X (.Constant (.str x) j pos) (dC (.str x)) := pd_c pe_str fun _ => rfl
end

/-! ### operators -/
/-- what an operator gives over data -/
abbrev D2 := D → D → Mem → DK → Prop
def OpD (K : PySem.W.Frag) (r : R2) (g : D2) : Prop := ∀ x y M R H v w Q, g x y M R → RM K H M → RV K H x v → RV K H y w → KQ K H R Q → r v w H Q
def dBin (g : D2) (ta tb : DE) : DE := fun δ M R => ta δ M fun x M1 => tb δ M1 fun y M2 => g x y M2 R
theorem bin_imp {K : PySem.W.Frag} {r : R2} {g : D2} {ta tb : DE} (hg : OpD K r g) (σ : L2.St) (H : Hp) (Q : VK) (h : lift K (dBin g ta tb) σ H Q) : tOp r (lift K ta) (lift K tb) σ H Q := by
  obtain ⟨δ, M, R, S, m, h, k⟩ := h
  refine ⟨δ, M, _, S, m, h, fun x M1 v H1 h1 e1 r1 m1 => ?_⟩
  refine ⟨δ, M1, _, S.ext e1, m1, h1, fun y M2 w H2 h2 e2 r2 m2 => ?_⟩
  exact hg x y M2 R H2 v w Q h2 m2 (r1.ext e2) r2 (k.ext (e1.trans e2))
section
variable {X : Cx} {a b : Expr} {ta tb : DE} {pos : Pos}
theorem pd_op {op : Operator} {r : R2} {g : D2} (ho : OpR X (binaryOp op) r) (hg : OpD X.K r g) (ha : PD X a ta) (hb : PD X b tb) : PD X (.BinOp a op b pos) (dBin g ta tb) := ⟨PE_imp (pe_op ho ha.pe hb.pe) (bin_imp hg)⟩
theorem pd_cmp {op : CmpOp} {r : R2} {g : D2} (ho : OpR X (compareOp op) r) (hg : OpD X.K r g) (ha : PD X a ta) (hb : PD X b tb) (hm : behindInMarks op b = false) : PD X (.Compare a [op] [b] pos) (dBin g ta tb) := ⟨PE_imp (pe_cmpR ho ha.pe hb.pe hm) (bin_imp hg)⟩
/-- an expression as a test: its value is a bool -/
def dTest (t : DE) : DT := fun δ M R => t δ M fun d M1 => match d with
  | .bl b => R b M1
  | _ => False
theorem test_imp {K : PySem.W.Frag} {t : DE} (σ : L2.St) (H : Hp) (Q : Bool → Hp → Prop) (h : liftT K (dTest t) σ H Q) : tB (lift K t) σ H Q := by
  obtain ⟨δ, M, R, S, m, h, k⟩ := h
  refine ⟨δ, M, _, S, m, h, fun d M1 v H1 h1 e1 r1 m1 => ?_⟩
  split at h1
  · exact ⟨_, r1, k _ M1 H1 h1 e1 m1⟩
  · exact h1.elim
theorem pdt_val {e : Expr} {t : DE} (h : PD X e t) (he : ∀ whole, isTrue e X.env whole = (do let v ← whole; standAt e.pos; holding [v] (truthy v)) := by intro _; rfl) : PDT X e (dTest t) := ⟨PT_imp (pt_val h.pe he) test_imp⟩
theorem pdt_cmp {op : CmpOp} {r : R2} {g : D2} (ho : OpR X (compareOp op) r) (hg : OpD X.K r g) (ha : PD X a ta) (hb : PD X b tb) (hm : behindInMarks op b = false) : PDT X (.Compare a [op] [b] pos) (dTest (dBin g ta tb)) :=
  ⟨PT_imp (pt_cmpR ho ha.pe hb.pe hm) fun σ H Q h => by
    obtain ⟨δ, M, R, S, m, h, k⟩ := h
    have q := bin_imp hg σ H (fun x H' => ∃ k, x = .bl k ∧ Q k H') ⟨δ, M, _, S, m, h, fun d M1 v H1 h1 e1 r1 m1 => by
      split at h1
      · exact ⟨_, r1, k _ M1 H1 h1 e1 m1⟩
      · exact h1.elim⟩
    exact q⟩
end
end DD
end
section
namespace DD
open PySem PySem.Spec PyProof.Rows L2

section
variable {X : Cx}
theorem opr_or {f : Value → Value → Sem Value} {r1 r2 : R2} (h1 : OpR X f r1) (h2 : OpR X f r2) : OpR X f (fun x y H Q => r1 x y H Q ∨ r2 x y H Q) := by
  intro pins s σ H x y v u Q I rx ry h
  rcases h with h | h
  · exact h1 pins s σ H x y v u Q I rx ry h
  · exact h2 pins s σ H x y v u Q I rx ry h
theorem kq_keep {K : PySem.W.Frag} {R : DK} {Q : VK} {H : Hp} {M : Mem} {d : D} {v : V} (k : KQ K H R Q) (m : RM K H M) (r : R d M) (rv : RV K H d v) : Q v H := k d M v H r (Ext.refl H) rv m
theorem kq_new {K : PySem.W.Frag} {R : DK} {Q : VK} {H : Hp} {M : Mem} {p : Addr} {ds : List D} {vs : List V} (k : KQ K H R Q) (m : RM K H M) (hp : H p = none) (rv : RVs K H ds vs) (r : R (.ref p) (updM M p (.lst ds))) : Q (.ref p) (upd H p (.lst vs)) :=
  k _ _ _ _ r (Ext.new hp) rfl (rm_newL m hp rv)
theorem kq_newT {K : PySem.W.Frag} {R : DK} {Q : VK} {H : Hp} {M : Mem} {p : Addr} {ds : List D} {vs : List V} (k : KQ K H R Q) (m : RM K H M) (hp : H p = none) (rv : RVs K H ds vs) (r : R (.tup ds) M) : Q (.ref p) (upd H p (.tup vs)) :=
  k _ _ _ _ r (Ext.new hp) ⟨p, vs, rfl, .inl (.inl upd_same), rv.ext (Ext.new hp)⟩ (rm_skip m hp)
theorem kq_put {K : PySem.W.Frag} {R : DK} {Q : VK} {H : Hp} {M : Mem} {p : Addr} {d : D} {v : V} {ds : List D} {ws vs : List V} (k : KQ K H R Q) (m : RM K H M) (hp : H p = some (.lst ws)) (rd : RV K H d v) (rv : RVs K H ds vs) (r : R d (updM M p (.lst ds))) : Q v (upd H p (.lst vs)) :=
  k _ _ _ _ r (ext_lst hp) (rd.ext (ext_lst hp)) (rm_putL m hp rv)
theorem rm_lst {K : PySem.W.Frag} {H : Hp} {M : Mem} {a : Addr} {ds : List D} (m : RM K H M) (h : M a = some (.lst ds)) : ∃ vs, H a = some (.lst vs) ∧ RVs K H ds vs := m a _ h

/-! ### + - * // % ** -/
def gAdd : D2 := fun x y M R => match x, y with
  | .int i, .int j => R (.int (i + j)) M
  | .int i, .bl b => R (.int (i + b2i b)) M
  | .str s, .str t => s.length + t.length ≤ sizeLine ∧ R (.str (s ++ t)) M
  | .tup xs, .tup ys => xs.length + ys.length ≤ sizeLine ∧ R (.tup (xs ++ ys)) M
  | .ref a, .ref b => match M a, M b with
    | some (.lst xs), some (.lst ys) => xs.length + ys.length ≤ sizeLine ∧ ∀ p, M p = none → R (.ref p) (updM M p (.lst (xs ++ ys)))
    | _, _ => False
  | _, _ => False
def rAddA (K : PySem.W.Frag) : R2 := fun x y H Q => (rI0 fun i j => V.int (i + j)) x y H Q ∨ (∃ i k, x = .int i ∧ y = .bl k ∧ Q (.int (i + b2i k)) H) ∨
  (∃ i j, x = .str i ∧ y = .str j ∧ i.length + j.length ≤ sizeLine ∧ Q (.str (i ++ j)) H) ∨ rCatA K x y H Q ∨ rCat x y H Q
theorem op_addA : OpR X (binaryOp .Add) (rAddA X.K) := opr_or op_add (opr_or op_add_ib (opr_or op_add_str (opr_or op_catA op_cat)))
theorem od_add {K : PySem.W.Frag} : OpD K (rAddA K) gAdd := by
  intro x y M R H v w Q g m rx ry k
  unfold gAdd at g
  split at g
  · cases rx; cases ry
    exact .inl ⟨_, _, rfl, rfl, kq_keep k m g rfl⟩
  · cases rx; cases ry
    exact .inr (.inl ⟨_, _, rfl, rfl, kq_keep k m g rfl⟩)
  · cases rx; cases ry
    exact .inr (.inr (.inl ⟨_, _, rfl, rfl, g.1, kq_keep k m g.2 rfl⟩))
  · obtain ⟨a, vs, rfl, s1, q1⟩ := rx
    obtain ⟨b, ws, rfl, s2, q2⟩ := ry
    refine .inr (.inr (.inr (.inl ⟨a, b, vs, ws, rfl, rfl, s1, s2, by rw [← q1.length, ← q2.length]; exact g.1, fun e => ?_, fun e1 e2 => ?_, fun e1 e2 p hp => ?_⟩)))
    · subst e
      have : _ = [] := List.length_eq_zero_iff.mp (q1.length.trans rfl)
      subst this
      exact kq_keep k m g.2 ⟨b, ws, rfl, s2, q2⟩
    · subst e2
      have : _ = [] := List.length_eq_zero_iff.mp (q2.length.trans rfl)
      subst this
      rw [List.append_nil] at g
      exact kq_keep k m g.2 ⟨a, vs, rfl, s1, q1⟩
    · exact kq_newT k m hp (q1.append q2) g.2
  · cases rx; cases ry
    split at g
    · rename_i xs ys h1 h2
      obtain ⟨vs, a1, q1⟩ := rm_lst m h1
      obtain ⟨ws, a2, q2⟩ := rm_lst m h2
      exact .inr (.inr (.inr (.inr ⟨_, _, vs, ws, rfl, rfl, a1, a2, by rw [← q1.length, ← q2.length]; exact g.1, fun p hp => kq_new k m hp (q1.append q2) (g.2 p (rm_none m hp))⟩)))
    · exact g.elim
  · exact g.elim
/-- ints in, under C, a value out -/
def gI (C : Int → Int → Prop) (f : Int → Int → D) : D2 := fun x y M R => match x, y with
  | .int i, .int j => C i j ∧ R (f i j) M
  | _, _ => False
def gI0 (f : Int → Int → D) : D2 := fun x y M R => match x, y with
  | .int i, .int j => R (f i j) M
  | _, _ => False
theorem od_I {K : PySem.W.Frag} {C : Int → Int → Prop} {g : Int → Int → V} {f : Int → Int → D} (h : ∀ H i j, RV K H (f i j) (g i j)) : OpD K (rI C g) (gI C f) := by
  intro x y M R H v w Q q m rx ry k
  unfold gI at q
  split at q
  · cases rx; cases ry
    exact ⟨_, _, rfl, rfl, q.1, kq_keep k m q.2 (h H _ _)⟩
  · exact q.elim
theorem od_I0 {K : PySem.W.Frag} {g : Int → Int → V} {f : Int → Int → D} (h : ∀ H i j, RV K H (f i j) (g i j)) : OpD K (rI0 g) (gI0 f) := by
  intro x y M R H v w Q q m rx ry k
  unfold gI0 at q
  split at q
  · cases rx; cases ry
    exact ⟨_, _, rfl, rfl, kq_keep k m q (h H _ _)⟩
  · exact q.elim
def MulOk (i j : Int) : Prop := i.natAbs.log2 + j.natAbs.log2 < 100000000
theorem MulOk.ok {i j : Int} (h : MulOk i j) : IntMulOk i j := by
  have b : ∀ x : Int, Builtin.Int.intBits x ≤ x.natAbs.log2 + 1 := fun x => by
    unfold Builtin.Int.intBits
    split <;> omega
  have h1 := b i
  have h2 := b j
  have h3 : i.natAbs.log2 + j.natAbs.log2 < 100000000 := h
  have e : bitsLine = 134217728 := by decide
  unfold IntMulOk
  intro z
  rw [Bool.and_eq_true] at z
  have z2 := z.2
  unfold Builtin.Int.intTooBig at z2
  have z3 := of_decide_eq_true z2
  rw [e] at z3
  omega
theorem op_mulG : OpR X (binaryOp .Mult) (rI MulOk fun i j => .int (i * j)) := opI fun _ _ _ _ _ _ _ hc q => mul_int q hc.ok
theorem iop_mulG : OpR X (inplaceOp .Mult) (rI MulOk fun i j => .int (i * j)) := opI fun _ _ _ _ _ _ _ hc q => imul_int q hc.ok
def DivOk (i j : Int) : Prop := j ≠ 0 ∧ (j.natAbs.log2 < 9000 ∨ i.natAbs.log2 ≤ j.natAbs.log2 + 4400)
theorem noPylong_of {x y : Int} (h : y.natAbs.log2 < 9000 ∨ x.natAbs.log2 ≤ y.natAbs.log2 + 4400) : Builtin.divisionGoesByPylong x y = false := by
  rcases h with h | h
  · exact PyProof.noPylong_of_log2 h
  · by_cases hy : (y == 0) = true
    · have : y = 0 := by simpa using hy
      subst this
      exact PyProof.noPylong_of_log2 (by decide +kernel)
    · have key : (if x == 0 then 0 else x.natAbs.log2 / 30 + 1) ≤ (if y == 0 then 0 else y.natAbs.log2 / 30 + 1) + 150 := by
        rw [if_neg hy]
        split <;> omega
      show (_ && decide ((if x == 0 then 0 else x.natAbs.log2 / 30 + 1) > (if y == 0 then 0 else y.natAbs.log2 / 30 + 1) + 150)) = false
      rw [decide_eq_false (Nat.not_lt.mpr key), Bool.and_false]
theorem op_fdivG : OpR X (binaryOp .FloorDiv) (rI DivOk fun i j => .int (i.fdiv j)) := opI fun _ _ _ _ _ _ _ hc q => floordiv_int hc.1 q (.inl (noPylong_of hc.2))
theorem iop_fdivG : OpR X (inplaceOp .FloorDiv) (rI DivOk fun i j => .int (i.fdiv j)) := opI fun _ _ _ _ _ _ _ hc q => ifloordiv_int hc.1 q (.inl (noPylong_of hc.2))
abbrev gSub : D2 := gI0 fun i j => .int (i - j)
abbrev gMul : D2 := gI MulOk fun i j => .int (i * j)
abbrev gDiv : D2 := gI DivOk fun i j => .int (i.fdiv j)
abbrev gMod : D2 := gI (fun _ j => j ≠ 0) fun i j => .int (i.fmod j)
abbrev gPow : D2 := gI CPow fun i j => .int (i ^ j.toNat)
theorem od_sub {K : PySem.W.Frag} : OpD K (rI0 fun i j => .int (i - j)) gSub := od_I0 fun _ _ _ => rfl
theorem od_mul {K : PySem.W.Frag} : OpD K (rI MulOk fun i j => .int (i * j)) gMul := od_I fun _ _ _ => rfl
theorem od_div {K : PySem.W.Frag} : OpD K (rI DivOk fun i j => .int (i.fdiv j)) gDiv := od_I fun _ _ _ => rfl
theorem od_mod {K : PySem.W.Frag} : OpD K (rI (fun _ j => j ≠ 0) fun i j => .int (i.fmod j)) gMod := od_I fun _ _ _ => rfl
theorem od_pow {K : PySem.W.Frag} : OpD K (rI CPow fun i j => .int (i ^ j.toNat)) gPow := od_I fun _ _ _ => rfl
/-! ### < <= > >= of ints -/
abbrev gLt : D2 := gI0 fun i j => .bl (decide (i < j))
abbrev gLe : D2 := gI0 fun i j => .bl (decide (i ≤ j))
abbrev gGt : D2 := gI0 fun i j => .bl (decide (j < i))
abbrev gGe : D2 := gI0 fun i j => .bl (decide (j ≤ i))
theorem od_lt {K : PySem.W.Frag} : OpD K (rI0 fun i j => .bl (decide (i < j))) gLt := od_I0 fun _ _ _ => rfl
theorem od_le {K : PySem.W.Frag} : OpD K (rI0 fun i j => .bl (decide (i ≤ j))) gLe := od_I0 fun _ _ _ => rfl
theorem od_gt {K : PySem.W.Frag} : OpD K (rI0 fun i j => .bl (decide (j < i))) gGt := od_I0 fun _ _ _ => rfl
theorem od_ge {K : PySem.W.Frag} : OpD K (rI0 fun i j => .bl (decide (j ≤ i))) gGe := od_I0 fun _ _ _ => rfl

/-! ### == != of data -/
mutual
def pyd : D → Option PyData
  | .non => some .none
  | .bl b => some (.bool b)
  | .int i => some (.int i)
  | .str s => some (.str s)
  | .tup ds => (pyds ds).map .tuple
  | .rol ds => (pyds ds).map .list
  | .pup _ => none
  | .ref _ => none
  | .ty _ => none
def pyds : List D → Option (List PyData)
  | [] => some []
  | d :: ds => match pyd d, pyds ds with
    | some x, some xs => some (x :: xs)
    | _, _ => none
end
/-- a list's items are looked up -/
def pydM (M : Mem) : D → Option PyData
  | .ref a => match M a with
    | some (.lst xs) => (pyds xs).map .list
    | _ => none
  | d => pyd d
mutual
theorem pyd_dp {K : PySem.W.Frag} {H : Hp} : ∀ {d : D} {x : PyData} {v : V}, pyd d = some x → RV K H d v → Dp K H v x
  | .non, _, _, e, h => by cases e; cases h; exact .non
  | .bl b, _, _, e, h => by cases e; cases h; exact .bl b
  | .int i, _, _, e, h => by cases e; cases h; exact .int i
  | .str s, _, _, e, h => by cases e; cases h; exact .str s
  | .tup ds, x, v, e, h => by
    obtain ⟨a, vs, rfl, s, q⟩ := h
    cases z : pyds ds with
    | none => simp [pyd, z] at e
    | some xs =>
      simp [pyd, z] at e
      subst e
      exact .tup s (pyds_dp z q)
  | .rol ds, x, v, e, h => by
    obtain ⟨a, vs, rfl, s, q⟩ := h
    cases z : pyds ds with
    | none => simp [pyd, z] at e
    | some xs =>
      simp [pyd, z] at e
      subst e
      exact .lst s.sq (pyds_dp z q)
  | .pup _, _, _, e, _ => by cases e
  | .ref _, _, _, e, _ => by cases e
  | .ty _, _, _, e, _ => by cases e
theorem pyds_dp {K : PySem.W.Frag} {H : Hp} : ∀ {ds : List D} {xs : List PyData} {vs : List V}, pyds ds = some xs → RVs K H ds vs → DpAll K H vs xs
  | [], _, _, e, h => by cases e; cases h; exact .nil
  | d :: ds, xs, vs, e, h => by
    obtain ⟨v, ws, rfl, q, t⟩ := h
    unfold pyds at e
    split at e
    · rename_i x xs' e1 e2
      cases e
      exact .cons (pyd_dp e1 q) (pyds_dp e2 t)
    · cases e
end
theorem pydM_dp {K : PySem.W.Frag} {H : Hp} {M : Mem} {d : D} {x : PyData} {v : V} (m : RM K H M) (e : pydM M d = some x) (h : RV K H d v) : Dp K H v x := by
  unfold pydM at e
  split at e
  · cases h
    split at e
    · rename_i xs he
      obtain ⟨vs, a1, q1⟩ := rm_lst m he
      cases z : pyds xs with
      | none => simp [z] at e
      | some ys =>
        simp [z] at e
        subst e
        exact .lst (.inl (.inl a1)) (pyds_dp z q1)
    · cases e
  · exact pyd_dp e h
def gEq : D2 := fun x y M R => match pydM M x, pydM M y with
  | some a, some b => SeqAt.shaped a = true ∧ SeqAt.shaped b = true ∧ R (.bl (PyData.eqv a b)) M
  | _, _ => False
def gNe : D2 := fun x y M R => match pydM M x, pydM M y with
  | some a, some b => SeqAt.shaped a = true ∧ SeqAt.shaped b = true ∧ R (.bl (!PyData.eqv a b)) M
  | _, _ => False
theorem od_eq {K : PySem.W.Frag} : OpD K (rEqD K) gEq := by
  intro x y M R H v w Q q m rx ry k
  unfold gEq at q
  split at q
  · rename_i a b e1 e2
    exact ⟨a, b, pydM_dp m e1 rx, pydM_dp m e2 ry, q.1, q.2.1, kq_keep k m q.2.2 rfl⟩
  · exact q.elim
theorem od_ne {K : PySem.W.Frag} : OpD K (rNeD K) gNe := by
  intro x y M R H v w Q q m rx ry k
  unfold gNe at q
  split at q
  · rename_i a b e1 e2
    exact ⟨a, b, pydM_dp m e1 rx, pydM_dp m e2 ry, q.1, q.2.1, kq_keep k m q.2.2 rfl⟩
  · exact q.elim
/-! ### is None -/
def isNon : D → Bool
  | .non => true
  | _ => false
def gIsN : D2 := fun x y M R => match y with
  | .non => R (.bl (isNon x)) M
  | _ => False
def gNotN : D2 := fun x y M R => match y with
  | .non => R (.bl (!isNon x)) M
  | _ => False
theorem isNon_rv {K : PySem.W.Frag} {H : Hp} {x : D} {v : V} (h : RV K H x v) : isNon x = decide (v = .non) := by
  cases x with
  | tup ds => obtain ⟨a, vs, rfl, _⟩ := h; rfl
  | rol ds => obtain ⟨a, vs, rfl, _⟩ := h; rfl
  | pup ds => obtain ⟨a, vs, rfl, _⟩ := h; rfl
  | non => cases h; rfl
  | bl b => cases h; rfl
  | int b => cases h; rfl
  | str b => cases h; rfl
  | ref b => cases h; rfl
  | ty b => cases h; rfl
theorem od_isN {K : PySem.W.Frag} : OpD K (fun x y H Q => y = .non ∧ Q (.bl (decide (x = .non))) H) gIsN := by
  intro x y M R H v w Q q m rx ry k
  unfold gIsN at q
  split at q
  · cases ry
    rw [isNon_rv rx] at q
    exact ⟨rfl, kq_keep k m q rfl⟩
  · exact q.elim
theorem od_notN {K : PySem.W.Frag} : OpD K (fun x y H Q => y = .non ∧ Q (.bl (!decide (x = .non))) H) gNotN := by
  intro x y M R H v w Q q m rx ry k
  unfold gNotN at q
  split at q
  · cases ry
    rw [isNon_rv rx] at q
    exact ⟨rfl, kq_keep k m q rfl⟩
  · exact q.elim

/-! ### one-place -/
abbrev D1 := D → Mem → DK → Prop
def UnD (K : PySem.W.Frag) (r : V → Hp → VK → Prop) (g : D1) : Prop := ∀ x M R H v Q, g x M R → RM K H M → RV K H x v → KQ K H R Q → r v H Q
def dUn (g : D1) (ta : DE) : DE := fun δ M R => ta δ M fun x M1 => g x M1 R
theorem un_imp {K : PySem.W.Frag} {r : V → Hp → VK → Prop} {g : D1} {ta : DE} (hg : UnD K r g) (σ : L2.St) (H : Hp) (Q : VK) (h : lift K (dUn g ta) σ H Q) : tUn r (lift K ta) σ H Q := by
  obtain ⟨δ, M, R, S, m, h, k⟩ := h
  exact ⟨δ, M, _, S, m, h, fun x M1 v H1 h1 e1 r1 m1 => hg x M1 R H1 v Q h1 m1 r1 (k.ext e1)⟩
theorem pd_un {op : UnaryOp} {r : V → Hp → VK → Prop} {g : D1} {a : Expr} {ta : DE} {pos : Pos} (ho : UnR X (unaryOp op) r) (hg : UnD X.K r g) (ha : PD X a ta) : PD X (.UnaryOp op a pos) (dUn g ta) := ⟨PE_imp (pe_un ho ha.pe) (un_imp hg)⟩
def gNeg : D1 := fun x M R => match x with
  | .int i => R (.int (-i)) M
  | _ => False
theorem ud_neg {K : PySem.W.Frag} : UnD K (rU fun i => .int (-i)) gNeg := by
  intro x M R H v Q q m rx k
  unfold gNeg at q
  split at q
  · cases rx
    exact ⟨_, rfl, kq_keep k m q rfl⟩
  · exact q.elim

/-! ### tuples, lists, argument lists -/
def aNil : DA := fun _ M R => R [] M
def aCons (ta : DE) (tr : DA) : DA := fun δ M R => ta δ M fun x M1 => tr δ M1 fun xs M2 => R (x :: xs) M2
theorem pda_nil : PDA X [] aNil := ⟨PA_imp pa_nil fun σ H Q h => by
  obtain ⟨δ, M, R, S, m, h, k⟩ := h
  exact k [] M [] H h (Ext.refl H) .nil m⟩
theorem pda_cons {e : Expr} {es : List Expr} {te : DE} {t : DA} (ha : PD X e te) (hr : PDA X es t) (hs : starEach (e :: es) X.env = (false, eval e X.env) :: starEach es X.env := by rfl) : PDA X (e :: es) (aCons te t) := ⟨PA_imp (pa_cons ha.pe hr.pa hs) fun σ H Q h => by
  obtain ⟨δ, M, R, S, m, h, k⟩ := h
  refine ⟨δ, M, _, S, m, h, fun x M1 v H1 h1 e1 r1 m1 => ?_⟩
  refine ⟨δ, M1, _, S.ext e1, m1, h1, fun xs M2 vs H2 h2 e2 r2 m2 => ?_⟩
  exact k _ M2 _ H2 h2 (e1.trans e2) (.cons (r1.ext e2) r2) m2⟩
def dTup (t : DA) : DE := fun δ M R => t δ M fun xs M1 => xs.length ≤ sizeLine ∧ R (.tup xs) M1
def dLst (t : DA) : DE := fun δ M R => t δ M fun xs M1 => xs.length ≤ sizeLine ∧ ∀ p, M1 p = none → R (.ref p) (updM M1 p (.lst xs))
theorem pd_tup {es : List Expr} {t : DA} {x1 : Nat} {pos : Pos} (h : PDA X es t) : PD X (.Tuple es x1 pos) (dTup t) := ⟨PE_imp (pe_tup h.pa) fun σ H Q h => by
  obtain ⟨δ, M, R, S, m, h, k⟩ := h
  exact ⟨δ, M, _, S, m, h, fun xs M1 vs H1 h1 e1 r1 m1 => ⟨by rw [← r1.length]; exact h1.1, fun p hp => kq_newT (k.ext e1) m1 hp r1 h1.2⟩⟩⟩
theorem pd_lst {es : List Expr} {t : DA} {pos : Pos} (h : PDA X es t) : PD X (.List es pos) (dLst t) := ⟨PE_imp (pe_lst h.pa) fun σ H Q h => by
  obtain ⟨δ, M, R, S, m, h, k⟩ := h
  exact ⟨δ, M, _, S, m, h, fun xs M1 vs H1 h1 e1 r1 m1 => ⟨by rw [← r1.length]; exact h1.1, fun p hp => kq_new (k.ext e1) m1 hp r1 (h1.2 p (rm_none m1 hp))⟩⟩⟩

/-! ### subscripts -/
theorem atI_rv {K : PySem.W.Frag} {H : Hp} {ds : List D} {vs : List V} {i : Int} {d : D} (r : RVs K H ds vs) (h : atI ds i = some d) : ∃ v, atI vs i = some v ∧ RV K H d v := by
  unfold atI at h ⊢
  rw [← r.length]
  cases e : ixN ds.length i with
  | none => rw [e] at h; cases h
  | some j =>
    rw [e] at h
    obtain ⟨v, a, b⟩ := r.get (i := j) h
    exact ⟨v, a, b⟩
def gIx : D2 := fun x y M R => match x, y with
  | .tup xs, .int i => match atI xs i with
    | some d => R d M
    | none => False
  | .rol xs, .int i => match atI xs i with
    | some d => R d M
    | none => False
  | .ref a, .int i => match M a with
    | some (.lst xs) => match atI xs i with
      | some d => R d M
      | none => False
    | _ => False
  | .str z, .int i => match atI z.cps.toList i with
    | some c => z.length ≤ sizeLine ∧ R (.str ⟨#[c]⟩) M
    | none => False
  | _, _ => False
theorem od_ix {K : PySem.W.Frag} : OpD K (rIx K) gIx := by
  intro x y M R H v w Q q m rx ry k
  unfold gIx at q
  split at q
  · obtain ⟨a, vs, rfl, s, r⟩ := rx
    cases ry
    split at q
    · rename_i d hd
      obtain ⟨u, h1, h2⟩ := atI_rv r hd
      exact .inr (.inl ⟨a, vs, _, u, rfl, rfl, s, h1, kq_keep k m q h2⟩)
    · exact q.elim
  · obtain ⟨a, vs, rfl, s, r⟩ := rx
    cases ry
    split at q
    · rename_i d hd
      obtain ⟨u, h1, h2⟩ := atI_rv r hd
      exact .inl ⟨a, vs, _, u, rfl, rfl, s.sq, h1, kq_keep k m q h2⟩
    · exact q.elim
  · cases rx; cases ry
    split at q
    · rename_i xs hx
      obtain ⟨vs, a1, q1⟩ := rm_lst m hx
      split at q
      · rename_i d hd
        obtain ⟨u, h1, h2⟩ := atI_rv q1 hd
        exact .inl ⟨_, vs, _, u, rfl, rfl, .inl (.inl a1), h1, kq_keep k m q h2⟩
      · exact q.elim
    · exact q.elim
  · cases rx; cases ry
    split at q
    · rename_i c hc
      exact .inr (.inr ⟨_, _, c, rfl, rfl, q.1, hc, kq_keep k m q.2 rfl⟩)
    · exact q.elim
  · exact q.elim
theorem pd_ix {a b : Expr} {ta tb : DE} {pos : Pos} (ha : PD X a ta) (hb : PD X b tb) (hs : PlainIx b := by intro _ _; rfl) : PD X (.Subscript a b pos) (dBin gIx ta tb) := ⟨PE_imp (pe_ix ix_seq ha.pe hb.pe hs) (bin_imp od_ix)⟩
end
end DD
end
section
namespace DD
open PySem PySem.Spec PyProof.Rows L2
section
variable {X : Cx}
/-! ### slices -/
abbrev DO := DSt → Mem → (Option Int → Mem → Prop) → Prop
def liftO (K : PySem.W.Frag) (t : DO) : TO := fun σ H Q => ∃ δ M R, Sl K σ H δ ∧ RM K H M ∧ t δ M R ∧ ∀ o M' H', R o M' → Ext K H H' → RM K H' M' → Q o H'
structure PDO (X : Cx) (e : Option Expr) (t : DO) : Prop where
  po : PO X e (liftO X.K t)
theorem PO_imp {e : Option Expr} {t t' : TO} (h : PO X e t) (f : ∀ σ H Q, t' σ H Q → t σ H Q) : PO X e t' := ⟨fun pins s σ H Q I q => h.run pins s σ H Q I (f _ _ _ q)⟩
def oNone : DO := fun _ M R => R none M
def oSome (t : DE) : DO := fun δ M R => t δ M fun d M1 => match d with
  | .int i => R (some i) M1
  | _ => False
theorem pdo_none : PDO X none oNone := ⟨PO_imp po_none fun σ H Q h => by
  obtain ⟨δ, M, R, S, m, h, k⟩ := h
  exact k none M H h (Ext.refl H) m⟩
theorem pdo_some {e : Expr} {t : DE} (h : PD X e t) : PDO X (some e) (oSome t) := ⟨PO_imp (po_some h.pe) fun σ H Q h => by
  obtain ⟨δ, M, R, S, m, h, k⟩ := h
  refine ⟨δ, M, _, S, m, h, fun d M1 v H1 h1 e1 r1 m1 => ?_⟩
  split at h1
  · exact ⟨_, r1, k _ M1 H1 h1 e1 m1⟩
  · exact h1.elim⟩
def cutD {α : Type} (xs : List α) (lo hi : Option Int) : List α := (xs.drop (HT.sIx xs.length 0 lo)).take (HT.sIx xs.length xs.length hi - HT.sIx xs.length 0 lo)
theorem RVs.cut {K : PySem.W.Frag} {H : Hp} {ds : List D} {vs : List V} (lo hi : Option Int) (h : RVs K H ds vs) : RVs K H (cutD ds lo hi) (cutV vs lo hi) := by
  unfold cutD cutV
  rw [← h.length]
  exact (h.drop _).take _
def gSl (x : D) (lo hi : Option Int) (M : Mem) (R : DK) : Prop := match x with
  | .tup xs => R (.tup (cutD xs lo hi)) M
  | .rol xs => ∀ p, M p = none → R (.ref p) (updM M p (.lst (cutD xs lo hi)))
  | .str z => z.length ≤ sizeLine ∧ R (.str (cutS z lo hi)) M
  | .ref a => match M a with
    | some (.lst xs) => ∀ p, M p = none → R (.ref p) (updM M p (.lst (cutD xs lo hi)))
    | _ => False
  | _ => False
def dSl (te : DE) (tl th : DO) : DE := fun δ M R => te δ M fun x M1 => tl δ M1 fun lo M2 => th δ M2 fun hi M3 => gSl x lo hi M3 R
def rSlAll (K : PySem.W.Frag) : V → Option Int → Option Int → Hp → VK → Prop := fun x lo hi H Q => rSlA K x lo hi H Q ∨ (rSlL K x lo hi H Q ∨ rSlS x lo hi H Q)
theorem sl_all : SlR X (rSlAll X.K) := sl_tupA.or (sl_list.or sl_str)
theorem cutD_whole {α : Type} {xs : List α} {lo hi : Option Int} (h : HT.sIx xs.length 0 lo = 0 ∧ HT.sIx xs.length xs.length hi = xs.length) : cutD xs lo hi = xs := by
  unfold cutD
  rw [h.1, h.2]
  simp
theorem sl_imp {K : PySem.W.Frag} {x : D} {lo hi : Option Int} {M : Mem} {R : DK} {H : Hp} {v : V} {Q : VK} (g : gSl x lo hi M R) (m : RM K H M) (rx : RV K H x v) (k : KQ K H R Q) : rSlAll K v lo hi H Q := by
  unfold gSl at g
  split at g
  · obtain ⟨a, vs, rfl, s, r⟩ := rx
    refine .inl ⟨a, vs, rfl, s, fun e => ?_, fun e p hp => kq_newT k m hp (r.cut lo hi) g⟩
    rw [← r.length] at e
    rw [cutD_whole e] at g
    exact kq_keep k m g ⟨a, vs, rfl, s, r⟩
  · obtain ⟨a, vs, rfl, s, r⟩ := rx
    exact .inr (.inl ⟨a, vs, rfl, s.sq, fun p hp => kq_new k m hp (r.cut lo hi) (g p (rm_none m hp))⟩)
  · cases rx
    exact .inr (.inr ⟨_, rfl, g.1, kq_keep k m g.2 rfl⟩)
  · cases rx
    split at g
    · rename_i xs hx
      obtain ⟨vs, a1, q1⟩ := rm_lst m hx
      exact .inr (.inl ⟨_, vs, rfl, .inl (.inl a1), fun p hp => kq_new k m hp (q1.cut lo hi) (g p (rm_none m hp))⟩)
    · exact g.elim
  · exact g.elim
theorem pd_slice {e : Expr} {te : DE} {lo hi : Option Expr} {tl th : DO} {pos p2 : Pos} (he : PD X e te) (hl : PDO X lo tl) (hu : PDO X hi th) : PD X (.Subscript e (.Slice lo hi none p2) pos) (dSl te tl th) :=
  ⟨PE_imp (pe_slice sl_all he.pe hl.po hu.po) fun σ H Q h => by
    obtain ⟨δ, M, R, S, m, h, k⟩ := h
    refine ⟨δ, M, _, S, m, h, fun x M1 v H1 h1 e1 r1 m1 => ?_⟩
    refine ⟨δ, M1, _, S.ext e1, m1, h1, fun l M2 H2 h2 e2 m2 => ?_⟩
    refine ⟨δ, M2, _, S.ext (e1.trans e2), m2, h2, fun u M3 H3 h3 e3 m3 => ?_⟩
    exact sl_imp h3 m3 (r1.ext (e2.trans e3)) (k.ext ((e1.trans e2).trans e3))⟩

/-! ### calls of built-ins -/
abbrev DC1 := List D → Mem → DK → Prop
def CallD (K : PySem.W.Frag) (r : List V → Hp → VK → Prop) (g : DC1) : Prop := ∀ xs M R H vs Q, g xs M R → RM K H M → RVs K H xs vs → KQ K H R Q → r vs H Q
def dCB (g : DC1) (t : DA) : DE := fun δ M R => t δ M fun xs M1 => g xs M1 R
theorem cb_imp {K : PySem.W.Frag} {r : List V → Hp → VK → Prop} {g : DC1} {t : DA} (hg : CallD K r g) (σ : L2.St) (H : Hp) (Q : VK) (h : lift K (dCB g t) σ H Q) : tCB r (liftA K t) σ H Q := by
  obtain ⟨δ, M, R, S, m, h, k⟩ := h
  exact ⟨δ, M, _, S, m, h, fun xs M1 vs H1 h1 e1 r1 m1 => hg xs M1 R H1 vs Q h1 m1 r1 (k.ext e1)⟩
theorem callr_or {f : Value} {r1 r2 : List V → Hp → VK → Prop} (h1 : CallR X f r1) (h2 : CallR X f r2) : CallR X f (fun xs H Q => r1 xs H Q ∨ r2 xs H Q) := by
  intro pins s σ H xs us Q I r h
  rcases h with h | h
  · exact h1 pins s σ H xs us Q I r h
  · exact h2 pins s σ H xs us Q I r h
section
variable {x : Str} {p pos : Pos} {e : Expr} {es : List Expr} {t : DA} {id T : String} {r : List V → Hp → VK → Prop} {g : DC1}
theorem pd_callB (hc : CallR X (.builtin id) r) (hg : CallD X.K r g) (hgl : Gl X x) (hm : X.mg x = none) (hv : bootBuiltins x = some (.builtin id)) (ha : PDA X (e :: es) t) (hn : x ≠ "__name__" := by decide) (hdb : (x == ("__debug__" : Str)) = false := by decide)
    (he : starEach (e :: es) X.env = (false, eval e X.env) :: starEach es X.env := by rfl) (hpl : (backTo pos (starEach es X.env)).any (·.1) = false := by rfl) : PD X (.Call (.Name x p) (e :: es) [] pos) (dCB g t) :=
  ⟨PE_imp (pe_callB hc hgl hm hv ha.pa hn hdb he hpl) (cb_imp hg)⟩
theorem pd_callTy (hc : CallR X (.type T) r) (hg : CallD X.K r g) (hgl : Gl X x) (hm : X.mg x = none) (hv : bootBuiltins x = some (.type T)) (ha : PDA X (e :: es) t) (hn : x ≠ "__name__" := by decide) (hdb : (x == ("__debug__" : Str)) = false := by decide)
    (he : starEach (e :: es) X.env = (false, eval e X.env) :: starEach es X.env := by rfl) (hpl : (backTo pos (starEach es X.env)).any (·.1) = false := by rfl) : PD X (.Call (.Name x p) (e :: es) [] pos) (dCB g t) :=
  ⟨PE_imp (pe_callTy hc hgl hm hv ha.pa hn hdb he hpl) (cb_imp hg)⟩
theorem pd_callF (hc : CallR X (.builtin id) r) (hg : CallD X.K r g) (hgl : Gl X x) (hm : X.mg x = some (.builtin id)) (ha : PDA X (e :: es) t) (hdb : (x == ("__debug__" : Str)) = false := by decide)
    (he : starEach (e :: es) X.env = (false, eval e X.env) :: starEach es X.env := by rfl) (hpl : (backTo pos (starEach es X.env)).any (·.1) = false := by rfl) : PD X (.Call (.Name x p) (e :: es) [] pos) (dCB g t) :=
  ⟨PE_imp (pe_callBfun hc hgl hm ha.pa hdb he hpl) (cb_imp hg)⟩
end
/-- the items of a list or a tuple -/
def itemsD (M : Mem) : D → Option (List D)
  | .tup xs => some xs
  | .rol xs => some xs
  | .ref a => match M a with
    | some (.lst xs) => some xs
    | _ => none
  | _ => none
theorem items_sq {K : PySem.W.Frag} {H : Hp} {M : Mem} {d : D} {xs : List D} {v : V} (m : RM K H M) (e : itemsD M d = some xs) (h : RV K H d v) : ∃ p vs, v = .ref p ∧ (SqL K H p vs ∨ SqT K H p vs) ∧ RVs K H xs vs := by
  unfold itemsD at e
  split at e
  · cases e
    obtain ⟨a, vs, rfl, s, r⟩ := h
    exact ⟨a, vs, rfl, .inr s, r⟩
  · cases e
    obtain ⟨a, vs, rfl, s, r⟩ := h
    exact ⟨a, vs, rfl, .inl s.sq, r⟩
  · cases h
    split at e
    · rename_i xs' he
      cases e
      obtain ⟨vs, a1, q1⟩ := rm_lst m he
      exact ⟨_, vs, rfl, .inl (.inl (.inl a1)), q1⟩
    · cases e
  · cases e
/-- an object of the dict kind -/
def dictD (M : Mem) : D → Option (List (Key × D))
  | .ref a => match M a with
    | some (.dK kvs) => some kvs
    | _ => none
  | _ => none
def gLen : DC1 := fun xs M R => match xs with
  | [.str z] => z.length ≤ sizeLine ∧ R (.int z.length) M
  | [d] => match itemsD M d with
    | some ys => R (.int ys.length) M
    | none => False
  | _ => False
theorem cd_len {K : PySem.W.Frag} : CallD K (fun xs H Q => (∃ p ys, xs = [V.ref p] ∧ (SqL K H p ys ∨ SqT K H p ys) ∧ Q (.int ys.length) H) ∨ (∃ z, xs = [V.str z] ∧ z.length ≤ sizeLine ∧ Q (.int z.length) H)) gLen := by
  intro xs M R H vs Q g m r k
  unfold gLen at g
  split at g
  · obtain ⟨v, ws, rfl, q, t⟩ := r
    cases t; cases q
    exact .inr ⟨_, rfl, g.1, kq_keep k m g.2 rfl⟩
  · obtain ⟨v, ws, rfl, q, t⟩ := r
    cases t
    split at g
    · rename_i ys he
      obtain ⟨p, us, rfl, s, r2⟩ := items_sq m he q
      exact .inl ⟨p, us, rfl, s, kq_keep k m g (by show V.int _ = V.int _; rw [r2.length])⟩
    · exact g.elim
  · exact g.elim
theorem call_lenA : CallR X (.builtin "len") (fun xs H Q => (∃ p ys, xs = [V.ref p] ∧ (SqL X.K H p ys ∨ SqT X.K H p ys) ∧ Q (.int ys.length) H) ∨ (∃ z, xs = [V.str z] ∧ z.length ≤ sizeLine ∧ Q (.int z.length) H)) := callr_or call_len_seq call_len_str
def gAbs : DC1 := fun xs M R => match xs with
  | [.int i] => R (.int (if i < 0 then -i else i)) M
  | _ => False
theorem cd_abs {K : PySem.W.Frag} : CallD K (fun xs H Q => ∃ i, xs = [V.int i] ∧ Q (.int (if i < 0 then -i else i)) H) gAbs := by
  intro xs M R H vs Q g m r k
  unfold gAbs at g
  split at g
  · obtain ⟨v, ws, rfl, q, t⟩ := r
    cases t; cases q
    exact ⟨_, rfl, kq_keep k m g rfl⟩
  · exact g.elim
def gInt : DC1 := fun xs M R => match xs with
  | [.int i] => R (.int i) M
  | [.bl b] => R (.int (if b then 1 else 0)) M
  | _ => False
theorem cd_int {K : PySem.W.Frag} : CallD K (fun xs H Q => (∃ i, xs = [V.int i] ∧ Q (.int i) H) ∨ ∃ k, xs = [V.bl k] ∧ Q (.int (if k then 1 else 0)) H) gInt := by
  intro xs M R H vs Q g m r k
  unfold gInt at g
  split at g
  · obtain ⟨v, ws, rfl, q, t⟩ := r
    cases t; cases q
    exact .inl ⟨_, rfl, kq_keep k m g rfl⟩
  · obtain ⟨v, ws, rfl, q, t⟩ := r
    cases t; cases q
    exact .inr ⟨_, rfl, kq_keep k m g rfl⟩
  · exact g.elim
def gMax2 : DC1 := fun xs M R => match xs with
  | [.int i, .int j] => R (.int (if j > i then j else i)) M
  | _ => False
def gMin2 : DC1 := fun xs M R => match xs with
  | [.int i, .int j] => R (.int (if j < i then j else i)) M
  | _ => False
theorem cd_max2 {K : PySem.W.Frag} : CallD K (fun xs H Q => ∃ i j, xs = [V.int i, V.int j] ∧ Q (.int (if j > i then j else i)) H) gMax2 := by
  intro xs M R H vs Q g m r k
  unfold gMax2 at g
  split at g
  · obtain ⟨v, ws, rfl, q, v2, w2, rfl, q2, t⟩ := r
    cases t; cases q; cases q2
    exact ⟨_, _, rfl, kq_keep k m g rfl⟩
  · exact g.elim
theorem cd_min2 {K : PySem.W.Frag} : CallD K (fun xs H Q => ∃ i j, xs = [V.int i, V.int j] ∧ Q (.int (if j < i then j else i)) H) gMin2 := by
  intro xs M R H vs Q g m r k
  unfold gMin2 at g
  split at g
  · obtain ⟨v, ws, rfl, q, v2, w2, rfl, q2, t⟩ := r
    cases t; cases q; cases q2
    exact ⟨_, _, rfl, kq_keep k m g rfl⟩
  · exact g.elim
def gList : DC1 := fun xs M R => match xs with
  | [d] => match itemsD M d with
    | some ys => ∀ p, M p = none → R (.ref p) (updM M p (.lst ys))
    | none => False
  | _ => False
theorem cd_list {K : PySem.W.Frag} : CallD K (fun xs H Q => ∃ p ys, xs = [.ref p] ∧ (SqL K H p ys ∨ SqT K H p ys) ∧ ∀ l, H l = none → Q (.ref l) (upd H l (.lst ys))) gList := by
  intro xs M R H vs Q g m r k
  unfold gList at g
  split at g
  · obtain ⟨v, ws, rfl, q, t⟩ := r
    cases t
    split at g
    · rename_i ys he
      obtain ⟨p, us, rfl, s, r2⟩ := items_sq m he q
      exact ⟨p, us, rfl, s, fun l hl => kq_new k m hl r2 (g l (rm_none m hl))⟩
    · exact g.elim
  · exact g.elim
/-- tuple(x): a list's items; what was new may be forgotten -/
def gTuple : DC1 := fun xs M R => match xs with
  | [d] => match itemsD M d with
    | some ys => ∃ M0, Sub M0 M ∧ R (.tup ys) M0
    | none => False
  | _ => False
theorem cd_tuple {K : PySem.W.Frag} : CallD K (fun xs H Q => ∃ p ys, xs = [.ref p] ∧ ((SqL K H p ys ∧ ∀ l, H l = none → Q (.ref l) (upd H l (.tup ys))) ∨ (SqT K H p ys ∧ Q (.ref p) H))) gTuple := by
  intro xs M R H vs Q g m r k
  unfold gTuple at g
  split at g
  · obtain ⟨v, ws, rfl, q, t⟩ := r
    cases t
    split at g
    · rename_i ys he
      obtain ⟨p, us, rfl, s, r2⟩ := items_sq m he q
      obtain ⟨M0, hs, g⟩ := g
      rcases s with s | s
      · exact ⟨p, us, rfl, .inl ⟨s, fun l hl => kq_newT k (rm_sub m hs) hl r2 g⟩⟩
      · exact ⟨p, us, rfl, .inr ⟨s, kq_keep k (rm_sub m hs) g ⟨p, us, rfl, s, r2⟩⟩⟩
    · exact g.elim
  · exact g.elim
def intsD : List D → Option (List Int)
  | [] => some []
  | .int i :: r => (intsD r).map (i :: ·)
  | _ => none
theorem intsD_eq : ∀ {xs : List D} {ns : List Int}, intsD xs = some ns → xs = ns.map D.int
  | [], _, e => by cases e; rfl
  | .int i :: r, ns, e => by
    unfold intsD at e
    cases z : intsD r with
    | none => rw [z] at e; cases e
    | some ms =>
      rw [z] at e
      cases e
      rw [intsD_eq z]
      rfl
  | .non :: _, _, e => by cases e
  | .bl _ :: _, _, e => by cases e
  | .str _ :: _, _, e => by cases e
  | .tup _ :: _, _, e => by cases e
  | .rol _ :: _, _, e => by cases e
  | .pup _ :: _, _, e => by cases e
  | .ref _ :: _, _, e => by cases e
  | .ty _ :: _, _, e => by cases e
theorem intsD_map : ∀ ns : List Int, intsD (ns.map D.int) = some ns
  | [] => rfl
  | n :: r => by
    show (intsD (r.map D.int)).map (n :: ·) = some (n :: r)
    rw [intsD_map r]; rfl
/-- sum of a list of ints (a list that stands by itself) -/
def gSum : DC1 := fun xs M R => match xs with
  | [.ref a] => match M a with
    | some (.lst ys) => match intsD ys with
      | some ns => ∃ M0, Sub M0 M ∧ R (.int ns.sum) M0
      | none => False
    | _ => False
  | _ => False
theorem cd_sum {K : PySem.W.Frag} : CallD K (rSum K) gSum := by
  intro xs M R H vs Q g m r k
  unfold gSum at g
  split at g
  · obtain ⟨v, ws, rfl, q, t⟩ := r
    cases t; cases q
    split at g
    · rename_i ys he
      split at g
      · rename_i ns hn
        obtain ⟨M0, hs, g⟩ := g
        obtain ⟨us, a1, r2⟩ := rm_lst m he
        rw [intsD_eq hn] at r2
        rw [r2.ints] at a1
        exact ⟨_, ns, rfl, .inl (.inl a1), kq_keep k (rm_sub m hs) g rfl⟩
      · exact g.elim
    · exact g.elim
  · exact g.elim

/-! ### methods of lists -/
abbrev DM := D → List D → Mem → DK → Prop
def MtD (K : PySem.W.Frag) (T : String) (r : V → List V → Hp → VK → Prop) (ty : D → Mem → Prop) (g : DM) : Prop :=
  (∀ x M H v, ty x M → RM K H M → RV K H x v → tyV K T v H) ∧
  ∀ x xs M R H v vs Q, g x xs M R → RM K H M → RV K H x v → RVs K H xs vs → KQ K H R Q → r v vs H Q
def dBM (ty : D → Mem → Prop) (g : DM) (to : DE) (t : DA) : DE := fun δ M R => to δ M fun x M1 => ty x M1 ∧ t δ M1 fun xs M2 => g x xs M2 R
def dBM0 (ty : D → Mem → Prop) (g : DM) (to : DE) : DE := fun δ M R => to δ M fun x M1 => ty x M1 ∧ g x [] M1 R
section
variable {o e : Expr} {es : List Expr} {to : DE} {t : DA} {name : Str} {apos cpos : Pos} {T id : String} {r : V → List V → Hp → VK → Prop} {ty : D → Mem → Prop} {g : DM}
theorem pd_bm0 (pa : PlainAttrs T) (slot : Slot T name id) (hty : typeOf (.builtin id) = pure (.type "method_descriptor")) (hm : MtR X id r) (hg : MtD X.K T r ty g) (ho : PD X o to)
    (hbase : attributeBase o name X.env (eval o X.env) = eval o X.env := by rfl) (hline : (apos.endLine == cpos.line) = true := by rfl) : PD X (.Call (.Attribute o name apos) [] [] cpos) (dBM0 ty g to) :=
  ⟨PE_imp (pe_bm0 pa slot hty hm ho.pe hbase hline) fun σ H Q h => by
    obtain ⟨δ, M, R, S, m, h, k⟩ := h
    exact ⟨δ, M, _, S, m, h, fun x M1 v H1 h1 e1 r1 m1 => ⟨hg.1 x M1 H1 v h1.1 m1 r1, hg.2 x [] M1 R H1 v [] Q h1.2 m1 r1 .nil (k.ext e1)⟩⟩⟩
theorem pd_bm (pa : PlainAttrs T) (slot : Slot T name id) (hty : typeOf (.builtin id) = pure (.type "method_descriptor")) (hm : MtR X id r) (hg : MtD X.K T r ty g) (ho : PD X o to) (ha : PDA X (e :: es) t)
    (hbase : attributeBase o name X.env (eval o X.env) = eval o X.env := by rfl)
    (hfew : ((backTo cpos (starEach (e :: es) X.env)).all (fun x => !x.1) && (backToKw cpos (keywordEach [] X.env)).all (fun x => x.1.isSome)
      && decide ((e :: es).length + ([] : List Keyword).length + (if ([] : List Keyword).isEmpty then 0 else 1) < 30)) = true := by rfl)
    (hline : (apos.endLine == cpos.line) = true := by rfl) (hs : starEach (e :: es) X.env = (false, eval e X.env) :: starEach es X.env := by rfl) (hplain : (backTo cpos (starEach es X.env)).any (·.1) = false := by rfl) :
    PD X (.Call (.Attribute o name apos) (e :: es) [] cpos) (dBM ty g to t) :=
  ⟨PE_imp (pe_bm pa slot hty hm ho.pe ha.pa hbase hfew hline hs hplain) fun σ H Q h => by
    obtain ⟨δ, M, R, S, m, h, k⟩ := h
    refine ⟨δ, M, _, S, m, h, fun x M1 v H1 h1 e1 r1 m1 => ⟨hg.1 x M1 H1 v h1.1 m1 r1, ?_⟩⟩
    exact ⟨δ, M1, _, S.ext e1, m1, h1.2, fun xs M2 vs H2 h2 e2 r2 m2 => hg.2 x xs M2 R H2 v vs Q h2 m2 (r1.ext e2) r2 (k.ext (e1.trans e2))⟩⟩
end
def isLst (d : D) (M : Mem) : Prop := match d with
  | .ref a => match M a with
    | some (.lst _) => True
    | _ => False
  | _ => False
theorem isLst_ty {K : PySem.W.Frag} {x : D} {M : Mem} {H : Hp} {v : V} (h : isLst x M) (m : RM K H M) (r : RV K H x v) : tyV K "list" v H := by
  unfold isLst at h
  split at h
  · cases r
    split at h
    · rename_i xs he
      obtain ⟨us, a1, r2⟩ := rm_lst m he
      exact .inl ⟨rfl, us, .inl (.inl a1)⟩
    · exact h.elim
  · exact h.elim
/-- the list at a -/
def onLst (x : D) (M : Mem) (f : Addr → List D → Prop) : Prop := match x with
  | .ref a => match M a with
    | some (.lst xs) => f a xs
    | _ => False
  | _ => False
theorem onLst_imp {K : PySem.W.Frag} {x : D} {M : Mem} {H : Hp} {v : V} {f : Addr → List D → Prop} (h : onLst x M f) (m : RM K H M) (r : RV K H x v) : ∃ a xs vs, v = .ref a ∧ H a = some (.lst vs) ∧ RVs K H xs vs ∧ f a xs := by
  unfold onLst at h
  split at h
  · cases r
    split at h
    · rename_i xs he
      obtain ⟨us, a1, r2⟩ := rm_lst m he
      exact ⟨_, xs, us, rfl, a1, r2, h⟩
    · exact h.elim
  · exact h.elim
def gAppend : DM := fun x vs M R => match vs with
  | [y] => onLst x M fun a xs => xs.length < sizeLine ∧ R .non (updM M a (.lst (xs ++ [y])))
  | _ => False
theorem md_append {K : PySem.W.Frag} : MtD K "list" rAppend isLst gAppend := ⟨fun _ _ _ _ => isLst_ty, fun x xs M R H v vs Q g m r rs k => by
  unfold gAppend at g
  split at g
  · obtain ⟨w, ws, rfl, q, t⟩ := rs
    cases t
    obtain ⟨a, ys, us, rfl, a1, r2, g1, g2⟩ := onLst_imp g m r
    exact ⟨a, us, w, rfl, rfl, a1, by rw [← r2.length]; exact g1, kq_put k m a1 (d := .non) rfl (r2.append (.cons q .nil)) g2⟩
  · exact g.elim⟩
def gPop : DM := fun x vs M R => match vs with
  | [] => onLst x M fun a xs => match xs[xs.length - 1]? with
    | some y => R y (updM M a (.lst xs.dropLast))
    | none => False
  | _ => False
theorem md_pop {K : PySem.W.Frag} : MtD K "list" rPop isLst gPop := ⟨fun _ _ _ _ => isLst_ty, fun x xs M R H v vs Q g m r rs k => by
  unfold gPop at g
  split at g
  · cases rs
    obtain ⟨a, ys, us, rfl, a1, r2, g⟩ := onLst_imp g m r
    split at g
    · rename_i y hy
      obtain ⟨u, h1, h2⟩ := r2.get hy
      rw [r2.length] at h1
      exact ⟨a, us, u, rfl, rfl, a1, h1, kq_put k m a1 h2 r2.dropLast g⟩
    · exact g.elim
  · exact g.elim⟩
def gPopAt : DM := fun x vs M R => match vs with
  | [.int i] => onLst x M fun a xs => -(2 ^ 63) ≤ i ∧ i < 2 ^ 63 ∧ match seqIndex? i xs.length with
    | some k => match xs[k]? with
      | some y => R y (updM M a (.lst (xs.eraseIdx k)))
      | none => False
    | none => False
  | _ => False
theorem md_popAt {K : PySem.W.Frag} : MtD K "list" rPopAt isLst gPopAt := ⟨fun _ _ _ _ => isLst_ty, fun x xs M R H v vs Q g m r rs k => by
  unfold gPopAt at g
  split at g
  · obtain ⟨w, ws, rfl, q, t⟩ := rs
    cases t; cases q
    obtain ⟨a, ys, us, rfl, a1, r2, b1, b2, g⟩ := onLst_imp g m r
    split at g
    · rename_i j hj
      split at g
      · rename_i y hy
        obtain ⟨u, h1, h2⟩ := r2.get hy
        rw [r2.length] at hj
        exact ⟨a, us, _, j, u, rfl, rfl, a1, b1, b2, hj, h1, kq_put k m a1 h2 (r2.eraseIdx j) g⟩
      · exact g.elim
    · exact g.elim
  · exact g.elim⟩
def gReverse : DM := fun x vs M R => match vs with
  | [] => onLst x M fun a xs => R .non (updM M a (.lst xs.reverse))
  | _ => False
theorem md_reverse {K : PySem.W.Frag} : MtD K "list" rReverse isLst gReverse := ⟨fun _ _ _ _ => isLst_ty, fun x xs M R H v vs Q g m r rs k => by
  unfold gReverse at g
  split at g
  · cases rs
    obtain ⟨a, ys, us, rfl, a1, r2, g⟩ := onLst_imp g m r
    exact ⟨a, us, rfl, rfl, a1, kq_put k m a1 (d := .non) rfl r2.reverse g⟩
  · exact g.elim⟩
def gExtend : DM := fun x vs M R => match vs with
  | [y] => onLst x M fun a xs => onLst y M fun b zs => xs.length + zs.length ≤ sizeLine ∧ R .non (updM M a (.lst (xs ++ zs)))
  | _ => False
theorem md_extend {K : PySem.W.Frag} : MtD K "list" rExtend isLst gExtend := ⟨fun _ _ _ _ => isLst_ty, fun x xs M R H v vs Q g m r rs k => by
  unfold gExtend at g
  split at g
  · obtain ⟨w, ws, rfl, q, t⟩ := rs
    cases t
    obtain ⟨a, ys, us, rfl, a1, r2, g⟩ := onLst_imp g m r
    obtain ⟨b, zs, ts, rfl, b1, r3, g1, g2⟩ := onLst_imp g m q
    exact ⟨a, b, us, ts, rfl, rfl, a1, b1, by rw [← r2.length, ← r3.length]; exact g1, kq_put k m a1 (d := .non) rfl (r2.append r3) g2⟩
  · exact g.elim⟩
end
end DD
end
section
namespace DD
open PySem PySem.Spec PyProof.Rows L2
section
variable {X : Cx}
/-! ### truth -/
def truD (M : Mem) : D → Option Bool
  | .non => some false
  | .bl b => some b
  | .int i => some (i != 0)
  | .str z => if z.length ≤ sizeLine then some ((z.length : Int) != 0) else none
  | .tup xs => some (!xs.isEmpty)
  | .rol xs => some (!xs.isEmpty)
  | .ref a => match M a with
    | some (.lst xs) => some (!xs.isEmpty)
    | some (.dK kvs) => some (!kvs.isEmpty)
    | _ => none
  | .ty _ => none
  | .pup _ => none
theorem isEmpty_rvs {K : PySem.W.Frag} {H : Hp} {ds : List D} {vs : List V} (r : RVs K H ds vs) : (!ds.isEmpty) = !vs.isEmpty := by
  cases ds with
  | nil => cases r; rfl
  | cons d ds => obtain ⟨v, ws, rfl, _⟩ := r; rfl
theorem tru_rv {K : PySem.W.Frag} {H : Hp} {M : Mem} {d : D} {b : Bool} {v : V} (m : RM K H M) (e : truD M d = some b) (r : RV K H d v) : TruV K v H b := by
  cases d with
  | non => cases r; cases e; rfl
  | bl c => cases r; cases e; rfl
  | int i => cases r; cases e; rfl
  | str z =>
    cases r
    have e : (if z.length ≤ sizeLine then some ((z.length : Int) != 0) else none) = some b := e
    by_cases hz : z.length ≤ sizeLine
    · rw [if_pos hz] at e
      cases e; exact ⟨hz, rfl⟩
    · rw [if_neg hz] at e
      cases e
  | tup xs =>
    obtain ⟨a, vs, rfl, s, q⟩ := r
    cases e
    exact .inr (.inl ⟨vs, s, isEmpty_rvs q⟩)
  | rol xs =>
    obtain ⟨a, vs, rfl, s, q⟩ := r
    cases e
    exact .inl ⟨vs, s.sq, isEmpty_rvs q⟩
  | ref a =>
    cases r
    have e : (match M a with
      | some (.lst xs) => some (!xs.isEmpty)
      | some (.dK kvs) => some (!kvs.isEmpty)
      | _ => none) = some b := e
    split at e
    · rename_i xs he
      cases e
      obtain ⟨us, a1, q⟩ := rm_lst m he
      exact .inl ⟨us, .inl (.inl a1), isEmpty_rvs q⟩
    · rename_i kvs he
      cases e
      obtain ⟨ws, a1, q1, q2⟩ := m _ _ he
      refine .inr (.inr ⟨ws, a1, ?_⟩)
      cases kvs with
      | nil =>
        cases ws with
        | nil => rfl
        | cons w ws => cases q1
      | cons k kvs =>
        cases ws with
        | nil => cases q1
        | cons w ws => rfl
    · cases e
  | ty n => cases e
  | pup n => cases e
def dTru (t : DE) : DT := fun δ M R => t δ M fun d M1 => match truD M1 d with
  | some b => R b M1
  | none => False
theorem pdt_tru {a : Expr} {ta : DE} (ha : PD X a ta) (he : ∀ whole, isTrue a X.env whole = (do let v ← whole; standAt a.pos; holding [v] (truthy v)) := by intro _; rfl) : PDT X a (dTru ta) :=
  ⟨PT_imp (pt_truth ha.pe he) fun σ H Q h => by
    obtain ⟨δ, M, R, S, m, h, k⟩ := h
    refine ⟨δ, M, _, S, m, h, fun d M1 v H1 h1 e1 r1 m1 => ?_⟩
    split at h1
    · rename_i b hb
      exact ⟨b, tru_rv m1 hb r1, k b M1 H1 h1 e1 m1⟩
    · exact h1.elim⟩
structure PDW (X : Cx) (e : Expr) (t : DT) : Prop where
  pw : PW X e (liftT X.K t)
theorem PW_imp {e : Expr} {t t' : TT} (h : PW X e t) (f : ∀ σ H Q, t' σ H Q → t σ H Q) : PW X e t' := ⟨fun wh pins s σ H Q I q => h.run wh pins s σ H Q I (f _ _ _ q)⟩
theorem PDW.pt {e : Expr} {t : DT} (h : PDW X e t) : PDT X e t := ⟨h.pw.pt⟩
def dAnd (t u : DT) : DT := fun δ M R => t δ M fun b M1 => if b = true then u δ M1 R else R false M1
def dOr (t u : DT) : DT := fun δ M R => t δ M fun b M1 => if b = true then R true M1 else u δ M1 R
def dNot (t : DT) : DT := fun δ M R => t δ M fun b M1 => R (!b) M1
section
variable {a b : Expr} {rest : List Expr} {pos : Pos} {ta tb : DT}
theorem pdw_and1 (h : PDT X a ta) : PDW X (.BoolOp .And [a] pos) ta := ⟨pw_and1 h.pt⟩
theorem pdw_or1 (h : PDT X a ta) : PDW X (.BoolOp .Or [a] pos) ta := ⟨pw_or1 h.pt⟩
theorem pdw_and (h : PDT X a ta) (h2 : PDW X (.BoolOp .And (b :: rest) pos) tb) : PDW X (.BoolOp .And (a :: b :: rest) pos) (dAnd ta tb) := ⟨PW_imp (pw_and h.pt h2.pw) fun σ H Q q => by
  obtain ⟨δ, M, R, S, m, h, k⟩ := q
  refine ⟨δ, M, _, S, m, h, fun c M1 H1 h1 e1 m1 => ?_⟩
  cases c with
  | true => exact ⟨δ, M1, R, S.ext e1, m1, h1, fun b' M' H' r e' m' => k b' M' H' r (e1.trans e') m'⟩
  | false => exact k false M1 H1 h1 e1 m1⟩
theorem pdw_or (h : PDT X a ta) (h2 : PDW X (.BoolOp .Or (b :: rest) pos) tb) : PDW X (.BoolOp .Or (a :: b :: rest) pos) (dOr ta tb) := ⟨PW_imp (pw_or h.pt h2.pw) fun σ H Q q => by
  obtain ⟨δ, M, R, S, m, h, k⟩ := q
  refine ⟨δ, M, _, S, m, h, fun c M1 H1 h1 e1 m1 => ?_⟩
  cases c with
  | true => exact k true M1 H1 h1 e1 m1
  | false => exact ⟨δ, M1, R, S.ext e1, m1, h1, fun b' M' H' r e' m' => k b' M' H' r (e1.trans e') m'⟩⟩
theorem pdt_not (h : PDT X a ta) : PDT X (.UnaryOp .Not a pos) (dNot ta) := ⟨PT_imp (pt_not h.pt) fun σ H Q q => by
  obtain ⟨δ, M, R, S, m, h, k⟩ := q
  exact ⟨δ, M, _, S, m, h, fun c M1 H1 h1 e1 m1 => k (!c) M1 H1 h1 e1 m1⟩⟩
def dIf (t : DT) (ta tb : DE) : DE := fun δ M R => t δ M fun b M1 => if b = true then ta δ M1 R else tb δ M1 R
theorem pd_ifExp {c : Expr} {tc : DT} {ua ub : DE} (hc : PDT X c tc) (ha : PD X a ua) (hb : PD X b ub) : PD X (.IfExp c a b pos) (dIf tc ua ub) := ⟨PE_imp (pe_ifExp hc.pt ha.pe hb.pe) fun σ H Q q => by
  obtain ⟨δ, M, R, S, m, h, k⟩ := q
  refine ⟨δ, M, _, S, m, h, fun c M1 H1 h1 e1 m1 => ?_⟩
  cases c with
  | true => exact ⟨δ, M1, R, S.ext e1, m1, h1, k.ext e1⟩
  | false => exact ⟨δ, M1, R, S.ext e1, m1, h1, k.ext e1⟩⟩
/-- x and y, x or y, not x as values, by truth -/
def dAndV (ta tb : DE) : DE := fun δ M R => ta δ M fun d M1 => match truD M1 d with
  | some true => tb δ M1 R
  | some false => R d M1
  | none => False
def dOrV (ta tb : DE) : DE := fun δ M R => ta δ M fun d M1 => match truD M1 d with
  | some true => R d M1
  | some false => tb δ M1 R
  | none => False
def dNotV (ta : DE) : DE := fun δ M R => ta δ M fun d M1 => match truD M1 d with
  | some b => R (.bl (!b)) M1
  | none => False
variable {ua ub : DE}
theorem pd_one {op : BoolOp} (h : PD X a ua) : PD X (.BoolOp op [a] pos) ua := ⟨pe_one h.pe⟩
theorem pd_and (ha : PD X a ua) (hb : PD X (.BoolOp .And (b :: rest) pos) ub) : PD X (.BoolOp .And (a :: b :: rest) pos) (dAndV ua ub) := ⟨PE_imp (pe_andT ha.pe hb.pe) fun σ H Q q => by
  obtain ⟨δ, M, R, S, m, h, k⟩ := q
  refine ⟨δ, M, _, S, m, h, fun d M1 v H1 h1 e1 r1 m1 => ?_⟩
  split at h1
  · rename_i hb
    exact ⟨true, tru_rv m1 hb r1, by rw [if_pos rfl]; exact ⟨δ, M1, R, S.ext e1, m1, h1, k.ext e1⟩⟩
  · rename_i hb
    exact ⟨false, tru_rv m1 hb r1, by rw [if_neg Bool.false_ne_true]; exact k d M1 v H1 h1 e1 r1 m1⟩
  · exact h1.elim⟩
theorem pd_or (ha : PD X a ua) (hb : PD X (.BoolOp .Or (b :: rest) pos) ub) : PD X (.BoolOp .Or (a :: b :: rest) pos) (dOrV ua ub) := ⟨PE_imp (pe_orT ha.pe hb.pe) fun σ H Q q => by
  obtain ⟨δ, M, R, S, m, h, k⟩ := q
  refine ⟨δ, M, _, S, m, h, fun d M1 v H1 h1 e1 r1 m1 => ?_⟩
  split at h1
  · rename_i hb
    exact ⟨true, tru_rv m1 hb r1, by rw [if_pos rfl]; exact k d M1 v H1 h1 e1 r1 m1⟩
  · rename_i hb
    exact ⟨false, tru_rv m1 hb r1, by rw [if_neg Bool.false_ne_true]; exact ⟨δ, M1, R, S.ext e1, m1, h1, k.ext e1⟩⟩
  · exact h1.elim⟩
theorem pd_not (ha : PD X a ua) : PD X (.UnaryOp .Not a pos) (dNotV ua) := ⟨PE_imp (pe_notT ha.pe) fun σ H Q q => by
  obtain ⟨δ, M, R, S, m, h, k⟩ := q
  refine ⟨δ, M, _, S, m, h, fun d M1 v H1 h1 e1 r1 m1 => ?_⟩
  split at h1
  · rename_i c hb
    exact ⟨c, tru_rv m1 hb r1, k _ M1 _ H1 h1 e1 rfl m1⟩
  · exact h1.elim⟩
end

/-! ### statements -/
def sNext : DS := fun E δ M => E.nx δ M
def sSeq (t u : DS) : DS := fun E δ M => t { E with nx := u E } δ M
def sDrop (te : DE) : DS := fun E δ M => te δ M fun _ M1 => E.nx δ M1
def sRet (te : DE) : DS := fun E δ M => te δ M E.rt
def sRetN : DS := fun E _ M => E.rt .non M
def sIf (c : DT) (t u : DS) : DS := fun E δ M => c δ M fun b M1 => if b = true then t E δ M1 else u E δ M1
def sBreak : DS := fun E δ M => E.bk δ M
def sCont : DS := fun E δ M => E.ct δ M
section
variable {st : Stmt} {rest : List Stmt} {t u : DS} {e : Expr} {te : DE} {pos : Pos}
theorem pdss_nil : PDSs X [] sNext := ⟨PSs_imp pss_nil fun Dd σ H q => by
  obtain ⟨δ, M, R, S, m, h, k⟩ := q
  exact k.nx δ M σ H h (Ext.refl H) S m⟩
theorem pdss_cons (h1 : PDS X st t) (h2 : PDSs X rest u) : PDSs X (st :: rest) (sSeq t u) := ⟨PSs_imp (pss_cons h1.ps h2.ps) fun Dd σ H q => by
  obtain ⟨δ, M, R, S, m, h, k⟩ := q
  refine ⟨δ, M, { R with nx := u R }, S, m, h, ⟨fun δ' M' σ' H' h' e' S' m' => ?_, k.bk, k.ct, k.rt⟩⟩
  exact ⟨δ', M', R, S', m', h', k.ext e'⟩⟩
theorem pdss_one (h1 : PDS X st t) : PDSs X [st] t := ⟨PSs_imp (pss_cons h1.ps (pdss_nil (X := X)).ps) fun Dd σ H q => by
  obtain ⟨δ, M, R, S, m, h, k⟩ := q
  refine ⟨δ, M, R, S, m, h, ⟨fun δ' M' σ' H' h' e' S' m' => ?_, k.bk, k.ct, k.rt⟩⟩
  exact ⟨δ', M', R, S', m', h', k.ext e'⟩⟩
theorem pds_expr (he : PD X e te) (hs : swapsWith e none pos.line X.env = pure false := by rfl) : PDS X (.Expr e pos) (sDrop te) := ⟨PS_imp (ps_expr he.pe hs) fun Dd σ H q => by
  obtain ⟨δ, M, R, S, m, h, k⟩ := q
  exact ⟨δ, M, _, S, m, h, fun d M1 v H1 h1 e1 r1 m1 => k.nx δ M1 σ H1 h1 e1 (S.ext e1) m1⟩⟩
theorem pds_ret (he : PD X e te) : PDS X (.Return (some e) pos) (sRet te) := ⟨PS_imp (ps_ret he.pe) fun Dd σ H q => by
  obtain ⟨δ, M, R, S, m, h, k⟩ := q
  exact ⟨δ, M, _, S, m, h, k.rt⟩⟩
theorem pds_retN : PDS X (.Return none pos) sRetN := ⟨PS_imp ps_retN fun Dd σ H q => by
  obtain ⟨δ, M, R, S, m, h, k⟩ := q
  exact k.rt .non M .non H h (Ext.refl H) rfl m⟩
theorem pds_pass : PDS X (.Pass pos) sNext := ⟨PS_imp ps_pass fun Dd σ H q => by
  obtain ⟨δ, M, R, S, m, h, k⟩ := q
  exact k.nx δ M σ H h (Ext.refl H) S m⟩
theorem pds_break : PDS X (.Break pos) sBreak := ⟨PS_imp ps_break fun Dd σ H q => by
  obtain ⟨δ, M, R, S, m, h, k⟩ := q
  exact k.bk δ M σ H h (Ext.refl H) S m⟩
theorem pds_cont : PDS X (.Continue pos) sCont := ⟨PS_imp ps_continue fun Dd σ H q => by
  obtain ⟨δ, M, R, S, m, h, k⟩ := q
  exact k.ct δ M σ H h (Ext.refl H) S m⟩
theorem pds_if {c : Expr} {a b : List Stmt} {tc : DT} (hc : PDT X c tc) (ha : PDSs X a t) (hb : PDSs X b u) : PDS X (.If c a b pos) (sIf tc t u) := ⟨PS_imp (ps_if hc.pt ha.ps hb.ps) fun Dd σ H q => by
  obtain ⟨δ, M, R, S, m, h, k⟩ := q
  refine ⟨δ, M, _, S, m, h, fun c M1 H1 h1 e1 m1 => ?_⟩
  cases c with
  | true => exact ⟨δ, M1, R, S.ext e1, m1, h1, k.ext e1⟩
  | false => exact ⟨δ, M1, R, S.ext e1, m1, h1, k.ext e1⟩⟩
end

/-! ### targets -/
abbrev DG := D → DSt → Mem → (DSt → Mem → Prop) → Prop
abbrev DGs := List D → DSt → Mem → (DSt → Mem → Prop) → Prop
/-- the slots but those at is are as they were -/
def Out (is : List Nat) (σ σ' : L2.St) : Prop := σ'.length = σ.length ∧ ∀ j, j ∉ is → σ'[j]? = σ[j]?
theorem Out.refl {is : List Nat} (σ : L2.St) : Out is σ σ := ⟨rfl, fun _ _ => rfl⟩
theorem Out.trans {is js : List Nat} {σ σ1 σ2 : L2.St} (a : Out is σ σ1) (b : Out js σ1 σ2) : Out (is ++ js) σ σ2 :=
  ⟨b.1.trans a.1, fun j hj => (b.2 j fun z => hj (List.mem_append_right _ z)).trans (a.2 j fun z => hj (List.mem_append_left _ z))⟩
theorem Out.wipe {is : List Nat} {σ σ' : L2.St} (h : Out is σ σ') {vs : List Nat} (hs : ∀ j ∈ is, j ∈ vs) : L2.wipe σ' vs = L2.wipe σ vs := by
  have at_ : ∀ (vs : List Nat) (σ : L2.St) (j : Nat), (L2.wipe σ vs)[j]? = if j ∈ vs then (if j < σ.length then some none else none) else σ[j]? := by
    intro vs
    induction vs with
    | nil => intro σ j; simp [L2.wipe]
    | cons v vs ih =>
      intro σ j
      unfold L2.wipe
      by_cases hj : v = j
      · subst hj
        rw [List.getElem?_set_self', ih]
        have : v ∈ v :: vs := List.mem_cons_self
        rw [if_pos this]
        by_cases hv : v ∈ vs
        · rw [if_pos hv]; split <;> simp
        · rw [if_neg hv]
          by_cases hl : v < σ.length
          · rw [if_pos hl, List.getElem?_eq_getElem hl]; simp
          · rw [if_neg hl, List.getElem?_eq_none (by omega)]; simp
      · rw [List.getElem?_set_ne hj, ih]
        by_cases hv : j ∈ vs
        · rw [if_pos hv, if_pos (List.mem_cons_of_mem _ hv)]
        · rw [if_neg hv, if_neg (by simp only [List.mem_cons, not_or]; exact ⟨fun z => hj z.symm, hv⟩)]
  refine List.ext_getElem? fun j => ?_
  rw [at_, at_, h.1]
  by_cases hj : j ∈ vs
  · rw [if_pos hj, if_pos hj]
  · rw [if_neg hj, if_neg hj]
    exact h.2 j fun z => hj (hs j z)
section
variable (K : PySem.W.Frag)
def liftG (is : List Nat) (g : DG) : TG := fun v σ H Q => ∃ d δ M R, RV K H d v ∧ Sl K σ H δ ∧ RM K H M ∧ g d δ M R ∧ ∀ δ' M' σ' H', R δ' M' → Ext K H H' → Sl K σ' H' δ' → RM K H' M' → Out is σ σ' → Q σ' H'
def liftGs (is : List Nat) (g : DGs) : TGs := fun vs σ H Q => ∃ ds δ M R, RVs K H ds vs ∧ Sl K σ H δ ∧ RM K H M ∧ g ds δ M R ∧ ∀ δ' M' σ' H', R δ' M' → Ext K H H' → Sl K σ' H' δ' → RM K H' M' → Out is σ σ' → Q σ' H'
end
structure PDG (X : Cx) (e : Expr) (is : List Nat) (g : DG) : Prop where
  pg : PG X e (liftG X.K is g)
structure PDGs (X : Cx) (es : List Expr) (is : List Nat) (g : DGs) : Prop where
  pg : PGs X es (liftGs X.K is g)
theorem PG_imp {e : Expr} {t t' : TG} (h : PG X e t) (f : ∀ v σ H Q, t' v σ H Q → t v σ H Q) : PG X e t' := ⟨fun pins s σ H v u Q I r q => h.run pins s σ H v u Q I r (f _ _ _ _ q)⟩
theorem PGs_imp {e : List Expr} {t t' : TGs} (h : PGs X e t) (f : ∀ v σ H Q, t' v σ H Q → t v σ H Q) : PGs X e t' := ⟨fun pins s σ H v u Q I r q => h.run pins s σ H v u Q I r (f _ _ _ _ q)⟩
def gNm (i : Nat) : DG := fun d δ M Q => Q (δ.set i (some d)) M
def gsNil : DGs := fun ds δ M Q => match ds with
  | [] => Q δ M
  | _ => False
def gsCons (t : DG) (u : DGs) : DGs := fun ds δ M Q => match ds with
  | d :: r => t d δ M fun δ' M' => u r δ' M' Q
  | _ => False
def gUnp (n : Nat) (t : DGs) : DG := fun d δ M Q => match itemsD M d with
  | some xs => xs.length = n ∧ t xs δ M Q
  | none => False
section
variable {pos : Pos}
theorem out_set {i : Nat} {v : Option V} {σ : L2.St} : Out [i] σ (σ.set i v) := ⟨by simp, fun j hj => by
  rw [List.getElem?_set_ne (by intro z; exact hj (by simp [z]))]⟩
theorem pdg_name {i : Nat} {e : Expr} (h : PG X e (gName i)) : PDG X e [i] (gNm i) := ⟨PG_imp h fun v σ H Q q => by
  obtain ⟨d, δ, M, R, rv, S, m, h, k⟩ := q
  exact k _ M _ H h (Ext.refl H) (S.set rv) m out_set⟩
theorem pdgs_nil : PDGs X [] [] gsNil := ⟨PGs_imp pgs_nil fun v σ H Q q => by
  obtain ⟨ds, δ, M, R, rv, S, m, h, k⟩ := q
  unfold gsNil at h
  split at h
  · cases rv
    exact ⟨rfl, k δ M σ H h (Ext.refl H) S m (Out.refl σ)⟩
  · exact h.elim⟩
theorem pdgs_cons {e : Expr} {es : List Expr} {is js : List Nat} {t : DG} {u : DGs} (h1 : PDG X e is t) (h2 : PDGs X es js u)
    (hs : (assignEach (e :: es) X.env).map (·.2) = assign e X.env :: (assignEach es X.env).map (·.2) := by rfl) : PDGs X (e :: es) (is ++ js) (gsCons t u) := ⟨PGs_imp (pgs_cons h1.pg h2.pg hs) fun v σ H Q q => by
  obtain ⟨ds, δ, M, R, rv, S, m, h, k⟩ := q
  unfold gsCons at h
  split at h
  · rename_i d r
    obtain ⟨v, ws, rfl, q1, q2⟩ := rv
    refine ⟨v, ws, rfl, d, δ, M, _, q1, S, m, h, fun δ' M' σ' H' h' e' S' m' o' => ?_⟩
    exact ⟨r, δ', M', R, q2.ext e', S', m', h', fun δ2 M2 σ2 H2 h2 e2 S2 m2 o2 => k δ2 M2 σ2 H2 h2 (e'.trans e2) S2 m2 (o'.trans o2)⟩
  · exact h.elim⟩
theorem PG_or {e : Expr} {t t' : TG} (h : PG X e t) (h' : PG X e t') : PG X e (fun v σ H Q => t v σ H Q ∨ t' v σ H Q) := ⟨fun pins s σ H v u Q I r q => by
  rcases q with q | q
  · exact h.run pins s σ H v u Q I r q
  · exact h'.run pins s σ H v u Q I r q⟩
theorem pdg_tup {es : List Expr} {k : Nat} {is : List Nat} {t : DGs} {n : Nat} (hc : X.calm = true) (h : PDGs X es is t)
    (hn : (assignEach es X.env).length = n := by rfl) (hst : (assignEach es X.env).findIdx? (·.1) = none := by rfl) : PDG X (.Tuple es k pos) is (gUnp n t) :=
  ⟨PG_imp (PG_or (pg_tup hc h.pg hn hst) (pg_unl hc h.pg hn hst)) fun v σ H Q q => by
    obtain ⟨d, δ, M, R, rv, S, m, h, kk⟩ := q
    unfold gUnp at h
    split at h
    · rename_i xs he
      obtain ⟨p, vs, rfl, s, r2⟩ := items_sq m he rv
      rcases s with s | s
      · exact .inr ⟨p, vs, rfl, s, by rw [← r2.length]; exact h.1, xs, δ, M, R, r2, S, m, h.2, kk⟩
      · exact .inl ⟨p, vs, rfl, s, by rw [← r2.length]; exact h.1, xs, δ, M, R, r2, S, m, h.2, kk⟩
    · exact h.elim⟩
end
/-- o[i] = v -/
abbrev DSet := D → D → D → Mem → (Mem → Prop) → Prop
def SetD (K : PySem.W.Frag) (r : TSet) (g : DSet) : Prop := ∀ x y z M R H v w u (Q : Hp → Prop), g x y z M R → RM K H M → RV K H x v → RV K H y w → RV K H z u → (∀ M' H', R M' → Ext K H H' → RM K H' M' → Q H') → r v w u H Q
def gSetL : DSet := fun x y z M R => match y with
  | .int i => onLst x M fun a xs => match ixN xs.length i with
    | some j => R (updM M a (.lst (xs.set j z)))
    | none => False
  | _ => False
theorem sd_lst {K : PySem.W.Frag} : SetD K rSetL gSetL := by
  intro x y z M R H v w u Q g m rx ry rz k
  unfold gSetL at g
  split at g
  · cases ry
    obtain ⟨a, ys, us, rfl, a1, r2, g⟩ := onLst_imp g m rx
    split at g
    · rename_i j hj
      rw [r2.length] at hj
      exact ⟨a, us, _, j, rfl, rfl, a1, hj, k _ _ g (ext_lst a1) (rm_putL m a1 (r2.set j rz))⟩
    · exact g.elim
  · exact g.elim
def gSubD (to ti : DE) (t : DSet) : DG := fun d δ M Q => to δ M fun o M1 => ti δ M1 fun i M2 => t o i d M2 fun M3 => Q δ M3
section
variable {pos : Pos}
theorem pdg_sub {o i : Expr} {to ti : DE} {r : TSet} {g : DSet} (ho : PD X o to) (hi : PD X i ti) (hs : PSet X r) (hg : SetD X.K r g)
    (ha : ∀ v, assign (.Subscript o i pos) X.env v = (do
      let ov ← holding [v] (eval o X.env)
      let iv ← holding [v, ov] (eval i X.env)
      standAt pos
      holding [v, ov, iv] (setItem ov iv v)
      release [v, ov, iv] []) := by intro _; rfl) : PDG X (.Subscript o i pos) [] (gSubD to ti g) := ⟨PG_imp (pg_sub ho.pe hi.pe hs ha) fun v σ H Q q => by
  obtain ⟨d, δ, M, R, rv, S, m, h, k⟩ := q
  refine ⟨δ, M, _, S, m, h, fun x M1 v1 H1 h1 e1 r1 m1 => ?_⟩
  refine ⟨δ, M1, _, S.ext e1, m1, h1, fun y M2 v2 H2 h2 e2 r2 m2 => ?_⟩
  refine hg x y d M2 _ H2 v1 v2 v _ h2 m2 (r1.ext e2) r2 (rv.ext (e1.trans e2)) fun M3 H3 h3 e3 m3 => ?_
  exact k δ M3 σ H3 h3 ((e1.trans e2).trans e3) (S.ext ((e1.trans e2).trans e3)) m3 (Out.refl σ)⟩
end
/-- target = value -/
def sAsg (te : DE) (g : DG) : DS := fun E δ M => te δ M fun d M1 => g d δ M1 E.nx
theorem asg_imp {K : PySem.W.Frag} {te : DE} {is : List Nat} {g : DG} (Dd : Ends) (σ : L2.St) (H : Hp) (q : liftS K (sAsg te g) Dd σ H) : tAsg (lift K te) (liftG K is g) Dd σ H := by
  obtain ⟨δ, M, R, S, m, h, k⟩ := q
  refine ⟨δ, M, _, S, m, h, fun d M1 v H1 h1 e1 r1 m1 => ?_⟩
  exact ⟨d, δ, M1, _, r1, S.ext e1, m1, h1, fun δ' M' σ' H' h' e' S' m' _ => k.nx δ' M' σ' H' h' (e1.trans e') S' m'⟩
section
variable {pos : Pos} {tg e : Expr} {te : DE} {is : List Nat} {g : DG}
theorem pds_asg (he : PD X e te) (hg : PDG X tg is g) (hs : swapsWithSole [tg] e pos.line X.env = pure false := by rfl) (hw : swappedStores [tg] e X.env = pure none := by rfl)
    (h1 : (assignEach [tg] X.env).map (·.2) = [assign tg X.env] := by rfl) : PDS X (.Assign [tg] e pos) (sAsg te g) := ⟨PS_imp (ps_asg he.pe hg.pg hs hw h1) asg_imp⟩
theorem gName_imp {K : PySem.W.Frag} {i : Nat} {te : DE} (Dd : Ends) (σ : L2.St) (H : Hp) (q : liftS K (sAsg te (gNm i)) Dd σ H) : tAsg (lift K te) (gName i) Dd σ H := by
  obtain ⟨δ, M, R, S, m, h, k⟩ := q
  refine ⟨δ, M, _, S, m, h, fun d M1 v H1 h1 e1 r1 m1 => ?_⟩
  exact k.nx _ M1 _ H1 h1 e1 ((S.ext e1).set r1) m1
theorem pds_set {i : Nat} {x : Str} {pos' : Pos} (hN : X.N.Nodup) (hi : X.N[i]? = some x) (hx : Loc X.env.scope x) (he : PD X e te) (hs : swapsWith e (some (.Name x pos')) pos.line X.env = pure false := by rfl) (hf : X.fn x = true ∨ X.env.scope.names.lookup x = some .local := by first | exact .inl rfl | exact .inr rfl | assumption) :
    PDS X (.Assign [.Name x pos'] e pos) (sAsg te (gNm i)) := ⟨PS_imp (ps_set hN hi hx he.pe hs hf) gName_imp⟩
/-- a, b = x, y -/
def sPar (i j : Nat) (ta : DA) : DS := fun E δ M => ta δ M fun ds M1 => match ds with
  | [v, w] => E.nx ((δ.set i (some v)).set j (some w)) M1
  | _ => False
theorem pds_par {i j : Nat} {x y : Str} {a b : Expr} {ta : DA} {px py pt : Pos} {kt k2 : Nat} {pt2 : Pos} (hc : X.calm = true) (hN : X.N.Nodup) (hi : X.N[i]? = some x) (hj : X.N[j]? = some y) (hij : i ≠ j)
    (hx : X.env.scope.names.lookup x = some .local) (hy : X.env.scope.names.lookup y = some .local) (ha : PDA X [a, b] ta)
    (hw : swappedStores [.Tuple [.Name x px, .Name y py] kt pt] (.Tuple [a, b] k2 pt2) X.env = pure (some [x, y]) := by rfl)
    (hs : swapsWithSole [.Tuple [.Name x px, .Name y py] kt pt] (.Tuple [a, b] k2 pt2) pos.line X.env = pure false := by rfl) :
    PDS X (.Assign [.Tuple [.Name x px, .Name y py] kt pt] (.Tuple [a, b] k2 pt2) pos) (sPar i j ta) := ⟨PS_imp (ps_par hc hN hi hj hij hx hy ha.pa hw hs) fun Dd σ H q => by
  obtain ⟨δ, M, R, S, m, h, k⟩ := q
  refine ⟨δ, M, _, S, m, h, fun ds M1 vs H1 h1 e1 r1 m1 => ?_⟩
  split at h1
  · obtain ⟨v, ws, rfl, q1, v2, w2, rfl, q2, t⟩ := r1
    cases t
    exact ⟨v, v2, rfl, k.nx _ M1 _ H1 h1 e1 (((S.ext e1).set q1).set q2) m1⟩
  · exact h1.elim⟩
/-- x op= e -/
abbrev DIp := D → D → Mem → DK → Prop
def IpD (K : PySem.W.Frag) (r : TIp) (g : DIp) : Prop := ∀ x y M R H v w Q, g x y M R → RM K H M → RV K H x v → RV K H y w → KQ K H R Q → r v w H Q
def sAug (i : Nat) (te : DE) (g : DIp) : DS := fun E δ M => match δ[i]? with
  | some (some x) => te δ M fun y M1 => g x y M1 fun z M2 => E.nx (δ.set i (some z)) M2
  | _ => False
theorem pds_aug {i : Nat} {x : Str} {op : Operator} {ti : TIp} {gi : DIp} {pos' : Pos} (hN : X.N.Nodup) (hi : X.N[i]? = some x) (hx : Loc X.env.scope x) (he : PD X e te) (ho : PIp X op ti) (hg : IpD X.K ti gi) (hf : X.fn x = true ∨ X.env.scope.names.lookup x = some .local := by first | exact .inl rfl | exact .inr rfl | assumption) :
    PDS X (.AugAssign (.Name x pos') op e pos) (sAug i te gi) := ⟨PS_imp (ps_aug hN hi hx he.pe ho hf) fun Dd σ H q => by
  obtain ⟨δ, M, R, S, m, h, k⟩ := q
  unfold sAug at h
  split at h
  · rename_i x hx
    obtain ⟨v, a, b⟩ := S.at_ i x hx
    refine ⟨v, a, δ, M, _, S, m, h, fun y M1 w H1 h1 e1 r1 m1 => ?_⟩
    exact hg x y M1 _ H1 v w _ h1 m1 (b.ext e1) r1 fun z M2 u H2 h2 e2 r2 m2 => k.nx _ M2 _ H2 h2 (e1.trans e2) ((S.ext (e1.trans e2)).set r2) m2
  · exact h.elim⟩
end
theorem pip_op {op : Operator} {r : R2} (h : OpR X (inplaceOp op) r) : PIp X op r := h
theorem ipd_op {K : PySem.W.Frag} {r : R2} {g : D2} (h : OpD K r g) : IpD K r g := h

/-! ### while -/
def sWhile (c : DT) (tb : DS) : DS := fun E δ M => ∃ W : Nat → DSt → Mem → Prop, (∃ n, W n δ M) ∧ ∀ n δ M, W n δ M →
  c δ M fun b M1 => if b = true then tb { E with nx := fun δ' M' => ∃ n', n' < n ∧ W n' δ' M', ct := fun δ' M' => ∃ n', n' < n ∧ W n' δ' M', bk := E.nx } δ M1 else E.nx δ M1
theorem pds_while {c : Expr} {body : List Stmt} {tc : DT} {tb : DS} {pos : Pos} (hp : PassesOwn (model X.prog X.w) X.A X.env X.xe) (hc : PDT X c tc) (hb : PDSs X body tb) : PDS X (.While c body [] pos) (sWhile tc tb) := ⟨PS_imp (ps_while hp hc.pt hb.ps) fun Dd σ H q => by
  obtain ⟨δ0, M0, R, S0, m0, ⟨W, ⟨n0, w0⟩, h⟩, k⟩ := q
  refine ⟨fun n σ' H' => ∃ δ M, Sl X.K σ' H' δ ∧ RM X.K H' M ∧ Ext X.K H H' ∧ W n δ M, ⟨n0, δ0, M0, S0, m0, Ext.refl H, w0⟩, ?_⟩
  rintro n σ' H' ⟨δ, M, S, m, e0, w⟩
  refine ⟨δ, M, _, S, m, h n δ M w, fun b M1 H1 h1 e1 m1 => ?_⟩
  cases b with
  | true =>
    rw [if_pos rfl] at h1 ⊢
    refine ⟨fun σ2 H2 => ∃ n', n' < n ∧ ∃ δ M, Sl X.K σ2 H2 δ ∧ RM X.K H2 M ∧ Ext X.K H H2 ∧ W n' δ M, fun σ2 H2 z => z, ?_⟩
    refine ⟨δ, M1, _, S.ext e1, m1, h1, ⟨?_, ?_, ?_, k.rt.ext (e0.trans e1)⟩⟩
    · rintro δ2 M2 σ2 H2 ⟨n', hn, w2⟩ e2 S2 m2
      exact ⟨n', hn, δ2, M2, S2, m2, (e0.trans e1).trans e2, w2⟩
    · rintro δ2 M2 σ2 H2 z e2 S2 m2
      exact k.nx δ2 M2 σ2 H2 z ((e0.trans e1).trans e2) S2 m2
    · rintro δ2 M2 σ2 H2 ⟨n', hn, w2⟩ e2 S2 m2
      exact ⟨n', hn, δ2, M2, S2, m2, (e0.trans e1).trans e2, w2⟩
  | false =>
    rw [if_neg Bool.false_ne_true] at h1 ⊢
    exact k.nx δ M1 σ' H1 h1 (e0.trans e1) (S.ext e1) m1⟩

/-! ### what a loop walks -/
abbrev DI := DSt → Mem → (List D → (Mem → Prop) → Mem → Prop) → Prop
structure ItOk (K : PySem.W.Frag) (H1 : Hp) (J : It) (ds : List D) (ok : Mem → Prop) : Prop where
  go : ∀ i H M, Ext K H1 H → RM K H M → ok M → i < ds.length → J.go i H
  yld : ∀ i H M v H', Ext K H1 H → RM K H M → ok M → i < ds.length → J.yld i H v H' → ∃ x, ds[i]? = some x ∧ Ext K H H' ∧ RV K H' x v ∧ RM K H' M
  stop : ∀ i H M, Ext K H1 H → RM K H M → ok M → ds.length ≤ i → J.stop i H
def liftI (K : PySem.W.Frag) (di : DI) : TI := fun σ H Q => ∃ δ M R, Sl K σ H δ ∧ RM K H M ∧ di δ M R ∧ ∀ ds ok M1 J H1, R ds ok M1 → Ext K H H1 → RM K H1 M1 → ItOk K H1 J ds ok → Q J H1
structure PDI (X : Cx) (tg iter : Expr) (di : DI) : Prop where
  pi : PI X tg iter (liftI X.K di)
theorem PI_imp {tg iter : Expr} {t t' : TI} (h : PI X tg iter t) (f : ∀ σ H Q, t' σ H Q → t σ H Q) : PI X tg iter t' := ⟨fun pins s σ H R I q => h.run pins s σ H R I (f _ _ _ q)⟩
theorem PI_or {tg iter : Expr} {t t' : TI} (h : PI X tg iter t) (h' : PI X tg iter t') : PI X tg iter (fun σ H Q => t σ H Q ∨ t' σ H Q) := ⟨fun pins s σ H R I q => by
  rcases q with q | q
  · exact h.run pins s σ H R I q
  · exact h'.run pins s σ H R I q⟩
def sFor (di : DI) (g : DG) (tb : DS) : DS := fun E δ M => di δ M fun ds ok M1 => ∃ W : Nat → DSt → Mem → Prop, W 0 δ M1 ∧ (∀ i δ M, i ≤ ds.length → W i δ M → ok M) ∧
  (∀ i x δ M, ds[i]? = some x → W i δ M → g x δ M fun δ2 M2 => tb { E with nx := W (i + 1), ct := W (i + 1), bk := E.nx } δ2 M2) ∧ ∀ δ M, W ds.length δ M → E.nx δ M
theorem pds_for {tg iter : Expr} {body : List Stmt} {di : DI} {is : List Nat} {g : DG} {tb : DS} {pos : Pos} (hp : PassesOwn (model X.prog X.w) X.A X.env X.xe) (hc : X.calm = true) (hi : PDI X tg iter di) (hg : PDG X tg is g) (hb : PDSs X body tb)
    (hs : ∀ x, foldedSetIterable iter X.env x = pure x := by intro _; rfl) : PDS X (.For tg iter body [] pos) (sFor di g tb) := ⟨PS_imp (ps_for hp hc hi.pi hg.pg hb.ps hs) fun Dd σ H q => by
  obtain ⟨δ0, M0, R, S0, m0, h, k⟩ := q
  refine ⟨δ0, M0, _, S0, m0, h, fun ds ok M1 J H1 h1 e1 m1 it => ?_⟩
  obtain ⟨W, w0, hok, turn, done⟩ := h1
  refine ⟨fun i n σ' H' => n + i = ds.length ∧ ∃ δ M, Sl X.K σ' H' δ ∧ RM X.K H' M ∧ Ext X.K H1 H' ∧ W i δ M, ⟨ds.length, by omega, δ0, M1, S0.ext e1, m1, Ext.refl H1, w0⟩, ?_⟩
  rintro i n σ' H' ⟨hn, δ, M, S, m, e2, w⟩
  by_cases hi : i < ds.length
  · refine .inr ⟨it.go i H' M e2 m (hok i δ M (by omega) w) hi, fun σ2 H2 => ∃ δ M, Sl X.K σ2 H2 δ ∧ RM X.K H2 M ∧ Ext X.K H1 H2 ∧ W (i + 1) δ M, ?_, ?_⟩
    · rintro σ2 H2 ⟨δ2, M2, z⟩
      exact ⟨n - 1, by omega, by omega, δ2, M2, z⟩
    · intro v H2 y
      obtain ⟨x, hx, e3, rv, m3⟩ := it.yld i H' M v H2 e2 m (hok i δ M (by omega) w) hi y
      refine ⟨x, δ, M, _, rv, S.ext e3, m3, turn i x δ M hx w, fun δ4 M4 σ4 H4 h4 e4 S4 m4 _ => ?_⟩
      refine ⟨δ4, M4, _, S4, m4, h4, ⟨?_, ?_, ?_, k.rt.ext (((e1.trans e2).trans e3).trans e4)⟩⟩
      · intro δ5 M5 σ5 H5 z e5 S5 m5
        exact ⟨δ5, M5, S5, m5, ((e2.trans e3).trans e4).trans e5, z⟩
      · intro δ5 M5 σ5 H5 z e5 S5 m5
        exact k.nx δ5 M5 σ5 H5 z ((((e1.trans e2).trans e3).trans e4).trans e5) S5 m5
      · intro δ5 M5 σ5 H5 z e5 S5 m5
        exact ⟨δ5, M5, S5, m5, ((e2.trans e3).trans e4).trans e5, z⟩
  · have hi' : i = ds.length := by omega
    refine .inl ⟨it.stop i H' M e2 m (hok i δ M (by omega) w) (by omega), ?_⟩
    subst hi'
    exact k.nx δ M σ' H' (done δ M w) (e1.trans e2) S m⟩
end
end DD
end
section
namespace DD
open PySem PySem.Spec PyProof.Rows L2
theorem sqL_inj {K : PySem.W.Frag} {H : Hp} {a : Addr} {vs ws : List V} (h : H a = some (.lst vs)) (h2 : SqL K H a ws) : True := trivial
section
variable {X : Cx} {tg : Expr}
/-! ### for x in a list or a tuple -/
/-- the items; what must stand still -/
def srcD (M : Mem) : D → Option (List D × (Mem → Prop))
  | .tup xs => some (xs, fun _ => True)
  | .rol xs => some (xs, fun _ => True)
  | .ref a => match M a with
    | some (.lst xs) => some (xs, fun M' => M' a = some (.lst xs))
    | _ => none
  | _ => none
def iSeq (te : DE) : DI := fun δ M R => te δ M fun d M1 => match srcD M1 d with
  | some (xs, ok) => R xs ok M1
  | none => False
theorem itl_ok {K : PySem.W.Frag} {H1 : Hp} {a : Addr} {ds : List D} {ok : Mem → Prop} (h : ∀ H M, Ext K H1 H → RM K H M → ok M → ∃ vs, SqL K H a vs ∧ RVs K H ds vs) : ItOk K H1 (Itl K a) ds ok where
  go := fun i H M e m o hi => by
    obtain ⟨vs, s, r⟩ := h H M e m o
    obtain ⟨v, hv, _⟩ := r.get (List.getElem?_eq_getElem hi)
    exact ⟨vs, v, s, hv⟩
  yld := fun i H M v H' e m o hi y => by
    obtain ⟨vs, s, r⟩ := h H M e m o
    obtain ⟨rfl, y⟩ := y
    obtain ⟨u, hu, ru⟩ := r.get (List.getElem?_eq_getElem hi)
    have := (y vs s).symm.trans hu
    cases this
    exact ⟨_, List.getElem?_eq_getElem hi, Ext.refl _, ru, m⟩
  stop := fun i H M e m o hi => by
    obtain ⟨vs, s, r⟩ := h H M e m o
    exact ⟨vs, s, by rw [← r.length]; exact hi⟩
theorem itt_ok {K : PySem.W.Frag} {H1 : Hp} {a : Addr} {ds : List D} {vs : List V} {ok : Mem → Prop} (s : SqT K H1 a vs) (r : RVs K H1 ds vs) : ItOk K H1 (Itt K a) ds ok where
  go := fun i H M e m o hi => by
    obtain ⟨v, hv, _⟩ := r.get (List.getElem?_eq_getElem hi)
    exact ⟨vs, v, e.sqT s, hv⟩
  yld := fun i H M v H' e m o hi y => by
    obtain ⟨rfl, y⟩ := y
    obtain ⟨u, hu, ru⟩ := (r.ext e).get (List.getElem?_eq_getElem hi)
    have := (y vs (e.sqT s)).symm.trans hu
    cases this
    exact ⟨_, List.getElem?_eq_getElem hi, Ext.refl _, ru, m⟩
  stop := fun i H M e m o hi => ⟨vs, e.sqT s, by rw [← r.length]; exact hi⟩
theorem src_imp {K : PySem.W.Frag} {H : Hp} {M : Mem} {d : D} {xs : List D} {ok : Mem → Prop} {v : V} (m : RM K H M) (e : srcD M d = some (xs, ok)) (h : RV K H d v) :
    (∃ a vs, v = .ref a ∧ SqL K H a vs ∧ RVs K H xs vs ∧ ItOk K H (Itl K a) xs ok) ∨ (∃ a vs, v = .ref a ∧ SqT K H a vs ∧ RVs K H xs vs) := by
  unfold srcD at e
  split at e
  · cases e
    obtain ⟨a, vs, rfl, s, r⟩ := h
    exact .inr ⟨a, vs, rfl, s, r⟩
  · cases e
    obtain ⟨a, vs, rfl, s, r⟩ := h
    exact .inl ⟨a, vs, rfl, s.sq, r, itl_ok fun H' M' e' m' _ => ⟨vs, (e'.rol s).sq, r.ext e'⟩⟩
  · cases h
    split at e
    · rename_i ys he
      cases e
      obtain ⟨vs, a1, q1⟩ := rm_lst m he
      refine .inl ⟨_, vs, rfl, .inl (.inl a1), q1, itl_ok fun H' M' e' m' o => ?_⟩
      obtain ⟨ws, a2, q2⟩ := rm_lst m' o
      exact ⟨ws, .inl (.inl a2), q2⟩
    · cases e
  · cases e
/-- what is walked of a value that has come -/
def ItR (X : Cx) (tg : Expr) (r : V → Hp → (It → Hp → Prop) → Prop) : Prop :=
  ∀ (pins : List (Addr × Obj)) (s : Shared) (σ : L2.St) (H : Hp) (x : V) (v : Value) (R : It → Hp → Prop),
    Inv X pins σ H s → RelV x v → r x H R → wpAny (model X.prog X.w) X.A (pyIter v) (PIE X pins σ tg R) X.xe s
def rSeqI (K : PySem.W.Frag) : V → Hp → (It → Hp → Prop) → Prop := fun x H R =>
  (∃ a xs, x = .ref a ∧ SqL K H a xs ∧ R (Itl K a) H) ∨ (∃ a xs, x = .ref a ∧ SqT K H a xs ∧ R (Itt K a) H)
theorem itr_seq : ItR X tg (rSeqI X.K) := by
  intro pins s σ H x v R I rx h
  have fresh_ok : ∀ b ∈ [s.heap.objs.size], FpOk X pins H b := by
    intro b hb
    have hb : b = s.heap.objs.size := List.mem_singleton.mp hb
    rw [hb]
    exact I.fpOk (Nat.le_refl _) (I.hok.fresh (Nat.le_refl _))
  rcases h with ⟨a, xs, rfl, hq, q⟩ | ⟨a, xs, rfl, hq, q⟩
  · cases rx
    obtain ⟨its, _, p, _⟩ := I.list hq
    refine wpAny_pyIter_list p.isList ⟨s.heap.objs.size, [s.heap.objs.size], _, _, H, rfl, ?_, turn_list a _, ?_, fresh_ok, q⟩
    · exact I.kept (t' := s.toks) (fun b o e => Heap.get?_push_of_some _ e)
    · exact ⟨_, Heap.get?_push_size _ rfl, rfl, rfl⟩
  · cases rx
    obtain ⟨its, _, p, _⟩ := I.tuple hq
    have p' : s.heap.IsTuple a its.toArray := p
    refine wpAny_pyIter_tuple p' ⟨s.heap.objs.size, [s.heap.objs.size], _, _, H, rfl, ?_, turn_tuple a _, ?_, fresh_ok, q⟩
    · exact I.kept (t' := s.toks) (fun b o e => Heap.get?_push_of_some _ e)
    · exact ⟨_, Heap.get?_push_size _ rfl, rfl, rfl⟩
theorem pi_of {l : Expr} {tl : TE} {r : V → Hp → (It → Hp → Prop) → Prop} (hr : ItR X tg r) (hl : PE X l tl) : PI X tg l (fun σ H R => tl σ H fun x H1 => r x H1 R) :=
  ⟨fun pins s σ H R I h => thn (hl.run pins s σ H _ I h) fun v s1 ⟨x, H1, I1, r1, q1⟩ => hr pins s1 σ H1 x v R I1 r1 q1⟩
theorem pdi_seq {l : Expr} {tl : DE} (hl : PD X l tl) : PDI X tg l (iSeq tl) := ⟨PI_imp (pi_of itr_seq hl.pe) fun σ H Q q => by
  obtain ⟨δ, M, R, S, m, h, k⟩ := q
  refine ⟨δ, M, _, S, m, h, fun d M1 v H1 h1 e1 r1 m1 => ?_⟩
  split at h1
  · rename_i xs ok he
    rcases src_imp m1 he r1 with ⟨a, vs, rfl, s, rv, it⟩ | ⟨a, vs, rfl, s, rv⟩
    · exact .inl ⟨a, vs, rfl, s, k _ _ M1 _ H1 h1 e1 m1 it⟩
    · exact .inr ⟨a, vs, rfl, s, k _ _ M1 _ H1 h1 e1 m1 (itt_ok s rv)⟩
  · exact h1.elim⟩

/-! ### range -/
def rangeD (lo : Int) (n : Nat) : List D := (List.range n).map fun (i : Nat) => D.int (lo + (i : Int))
theorem rangeD_length (lo : Int) (n : Nat) : (rangeD lo n).length = n := by simp [rangeD]
theorem rangeD_get {lo : Int} {n i : Nat} (h : i < n) : (rangeD lo n)[i]? = some (.int (lo + (i : Int))) := by
  simp [rangeD, List.getElem?_map, List.getElem?_range h]
theorem itr_ok {K : PySem.W.Frag} {H1 : Hp} (lo : Int) (n : Nat) : ItOk K H1 (Itr lo n) (rangeD lo n) (fun _ => True) where
  go := fun i H M e m o hi => by rw [rangeD_length] at hi; exact hi
  yld := fun i H M v H' e m o hi y => by
    rw [rangeD_length] at hi
    obtain ⟨rfl, rfl⟩ := y
    exact ⟨_, rangeD_get hi, Ext.refl _, rfl, m⟩
  stop := fun i H M e m o hi => by rw [rangeD_length] at hi; exact hi
def iRange1 (t : DA) : DI := fun δ M R => t δ M fun ds M1 => match ds with
  | [.int j] => (-(2 ^ 62) ≤ j ∧ j < 2 ^ 62) ∧ R (rangeD 0 j.toNat) (fun _ => True) M1
  | _ => False
def iRange2 (t : DA) : DI := fun δ M R => t δ M fun ds M1 => match ds with
  | [.int i, .int j] => (-(2 ^ 62) ≤ i ∧ i < 2 ^ 62 ∧ -(2 ^ 62) ≤ j ∧ j < 2 ^ 62) ∧ R (rangeD i (j - i).toNat) (fun _ => True) M1
  | _ => False
theorem pdi_range1 {a : Expr} {ta : DA} {p pos : Pos} (hg : Gl X "range") (hm : X.mg "range" = none) (ha : PDA X [a] ta) (hs : starEach [a] X.env = [(false, eval a X.env)] := by rfl) : PDI X tg (.Call (.Name "range" p) [a] [] pos) (iRange1 ta) :=
  ⟨PI_imp (pi_range1 hg hm ha.pa hs) fun σ H Q q => by
    obtain ⟨δ, M, R, S, m, h, k⟩ := q
    refine ⟨δ, M, _, S, m, h, fun ds M1 vs H1 h1 e1 r1 m1 => ?_⟩
    split at h1
    · obtain ⟨v, ws, rfl, q1, t⟩ := r1
      cases t; cases q1
      exact ⟨_, rfl, h1.1.1, h1.1.2, k _ _ M1 _ H1 h1.2 e1 m1 (itr_ok _ _)⟩
    · exact h1.elim⟩
theorem pdi_range2 {a b : Expr} {ta : DA} {p pos : Pos} (hg : Gl X "range") (hm : X.mg "range" = none) (ha : PDA X [a, b] ta) (hs : starEach [a, b] X.env = [(false, eval a X.env), (false, eval b X.env)] := by rfl) (hs2 : starEach [b] X.env = [(false, eval b X.env)] := by rfl) :
    PDI X tg (.Call (.Name "range" p) [a, b] [] pos) (iRange2 ta) :=
  ⟨PI_imp (pi_range2 hg hm ha.pa hs hs2) fun σ H Q q => by
    obtain ⟨δ, M, R, S, m, h, k⟩ := q
    refine ⟨δ, M, _, S, m, h, fun ds M1 vs H1 h1 e1 r1 m1 => ?_⟩
    split at h1
    · obtain ⟨v, ws, rfl, q1, v2, w2, rfl, q2, t⟩ := r1
      cases t; cases q1; cases q2
      exact ⟨_, _, rfl, h1.1, k _ _ M1 _ H1 h1.2 e1 m1 (itr_ok _ _)⟩
    · exact h1.elim⟩

/-! ### list comprehensions -/
def tYesD : DT := fun _ M R => R true M
structure PDTs (X : Cx) (ifs : List Expr) (t : DT) : Prop where
  pt : PTs X ifs (liftT X.K t)
theorem PTs_imp {ifs : List Expr} {t t' : TT} (h : PTs X ifs t) (f : ∀ σ H Q, t' σ H Q → t σ H Q) : PTs X ifs t' := ⟨fun pins s σ H Q I q => h.run pins s σ H Q I (f _ _ _ q)⟩
theorem pdts_nil : PDTs X [] tYesD := ⟨PTs_imp pts_nil fun σ H Q q => by
  obtain ⟨δ, M, R, S, m, h, k⟩ := q
  exact k true M H h (Ext.refl H) m⟩
theorem pdts_one {c : Expr} {t : DT} (h : PDT X c t) : PDTs X [c] t := ⟨pts_one h.pt⟩
/-- p: where the new list stands; W by the turn, the items so far, the memory without it -/
def dLc (di : DI) (g : DG) (tt : DT) (te : DE) (vs : List Nat) : DE := fun δ M R => di δ M fun ds ok M1 => ∀ p, M1 p = none → ∃ W : Nat → List D → Mem → Prop, W 0 [] M1 ∧
  (∀ i acc M, W i acc M → ok (updM M p (.lst acc))) ∧
  (∀ i x acc M, ds[i]? = some x → W i acc M → acc.length < sizeLine ∧ g x (wipeD δ vs) (updM M p (.lst acc)) fun δ2 M2 => tt δ2 M2 fun b M3 =>
    if b = true then te δ2 M3 fun y M4 => ∃ M5, M4 = updM M5 p (.lst acc) ∧ W (i + 1) (acc ++ [y]) M5 else ∃ M5, M3 = updM M5 p (.lst acc) ∧ W (i + 1) acc M5) ∧
  ∀ acc M, W ds.length acc M → R (.ref p) (updM M p (.lst acc))
theorem lc_imp {K : PySem.W.Frag} {di : DI} {is : List Nat} {g : DG} {tt : DT} {te : DE} {vs : List Nat} (hv : ∀ j ∈ is, j ∈ vs) (σ : L2.St) (H : Hp) (Q : VK) (q : lift K (dLc di g tt te vs) σ H Q) :
    tLc (liftI K di) (liftG K is g) (liftT K tt) (lift K te) vs σ H Q := by
  obtain ⟨δ, M, R, S, m, h, k⟩ := q
  refine ⟨δ, M, _, S, m, h, fun ds ok M1 J H1 h1 e1 m1 it => ?_⟩
  intro p hp
  obtain ⟨W, w0, hok, turn, done⟩ := h1 p (rm_none m1 hp)
  refine ⟨fun i n H' => n + i = ds.length ∧ ∃ acc M, RM K H' (updM M p (.lst acc)) ∧ Ext K H1 H' ∧ W i acc M, ⟨ds.length, by omega, [], M1, rm_newL m1 hp .nil, Ext.new hp, w0⟩, ?_⟩
  rintro i n H' ⟨hn, acc, M2, m2, e2, w⟩
  by_cases hi : i < ds.length
  · refine .inr ⟨it.go i H' _ e2 m2 (hok i acc M2 w) hi, fun H2 => ∃ acc M, RM K H2 (updM M p (.lst acc)) ∧ Ext K H1 H2 ∧ W (i + 1) acc M, ?_, ?_⟩
    · rintro H2 ⟨acc2, M3, z⟩
      exact ⟨n - 1, by omega, by omega, acc2, M3, z⟩
    · intro v H2 y
      obtain ⟨x, hx, e3, rv, m3⟩ := it.yld i H' _ v H2 e2 m2 (hok i acc M2 w) hi y
      obtain ⟨hz, t⟩ := turn i x acc M2 hx w
      have S2 : Sl K (L2.wipe σ vs) H2 (wipeD δ vs) := ((S.ext e1).ext (e2.trans e3)).wipe vs
      refine ⟨x, _, _, _, rv, S2, m3, t, fun δ4 M4 σ4 H4 h4 e4 S4 m4 o4 => ?_⟩
      have ww : L2.wipe (L2.wipe σ vs) vs = L2.wipe σ vs := by
        refine List.ext_getElem? fun j => ?_
        have at2 : ∀ (vs : List Nat) (σ : L2.St) (j : Nat), (L2.wipe σ vs)[j]? = if j ∈ vs then (if j < σ.length then some none else none) else σ[j]? := by
          intro vs
          induction vs with
          | nil => intro σ j; simp [L2.wipe]
          | cons v vs ih =>
            intro σ j
            unfold L2.wipe
            by_cases hj : v = j
            · subst hj
              rw [List.getElem?_set_self', ih, if_pos (List.mem_cons_self)]
              by_cases hv : v ∈ vs
              · rw [if_pos hv]; split <;> simp
              · rw [if_neg hv]
                by_cases hl : v < σ.length
                · rw [if_pos hl, List.getElem?_eq_getElem hl]; simp
                · rw [if_neg hl, List.getElem?_eq_none (by omega)]; simp
            · rw [List.getElem?_set_ne hj, ih]
              by_cases hv : j ∈ vs
              · rw [if_pos hv, if_pos (List.mem_cons_of_mem _ hv)]
              · rw [if_neg hv, if_neg (by simp only [List.mem_cons, not_or]; exact ⟨fun z => hj z.symm, hv⟩)]
        rw [at2, at2]
        by_cases hj : j ∈ vs
        · rw [if_pos hj, if_pos hj]; simp [wipe_length]
        · rw [if_neg hj]
      refine ⟨(o4.wipe hv).trans ww, δ4, M4, _, S4, m4, h4, fun b M5 H5 h5 e5 m5 => ?_⟩
      cases b with
      | true =>
        rw [if_pos rfl] at h5 ⊢
        refine ⟨δ4, M5, _, S4.ext e5, m5, h5, fun y M6 w6 H6 h6 e6 r6 m6 => ?_⟩
        obtain ⟨M7, rfl, w7⟩ := h6
        obtain ⟨us, a1, q1⟩ := rm_lst m6 updM_same
        refine ⟨us, a1, by rw [← q1.length]; exact hz, acc ++ [y], M7, ?_, ((((e2.trans e3).trans e4).trans e5).trans e6).trans (ext_lst a1), w7⟩
        have z := rm_putL m6 a1 (q1.append (.cons r6 .nil))
        rw [updM_upd] at z
        exact z
      | false =>
        rw [if_neg Bool.false_ne_true] at h5 ⊢
        obtain ⟨M7, rfl, w7⟩ := h5
        exact ⟨acc, M7, m5, ((e2.trans e3).trans e4).trans e5, w7⟩
  · have hi' : i = ds.length := by omega
    refine .inl ⟨it.stop i H' _ e2 m2 (hok i acc M2 w) (by omega), ?_⟩
    subst hi'
    exact k _ _ _ H' (done acc M2 w) (e1.trans e2) rfl m2
section
variable {elt iter : Expr} {ifs : List Expr} {scope : Scope} {own : List (Str × Nat)} {pos : Pos} {di : DI} {is : List Nat} {g : DG} {tt : DT} {te : DE}
theorem pd_lc (hc : X.calm = true) (hN : X.N.Nodup) (hi : PDI X tg iter di) (ok : BlkOk X.N X.env.scope scope own)
    (hg : ∀ (s : Shared) (H : Hp) (C : Addr) (cl : List (Str × Addr)) (fp : List Addr), PDG (X.blk s H scope (compEnvC scope cl C X.env) fp) tg is g)
    (ht : ∀ (s : Shared) (H : Hp) (C : Addr) (cl : List (Str × Addr)) (fp : List Addr), PDTs (X.blk s H scope (compEnvC scope cl C X.env) fp) ifs tt)
    (he : ∀ (s : Shared) (H : Hp) (C : Addr) (cl : List (Str × Addr)) (fp : List Addr), PD (X.blk s H scope (compEnvC scope cl C X.env) fp) elt te)
    (hv : ∀ j ∈ is, j ∈ own.map (·.2)) (hs : ∀ x, foldedSetIterable iter X.env x = pure x := by intro _; rfl) :
    PD X (.ListComp elt [⟨tg, iter, ifs, 0⟩] scope pos) (dLc di g tt te (own.map (·.2))) :=
  ⟨PE_imp (pe_lc hc hN hi.pi ok (fun s H C cl fp => (hg s H C cl fp).pg) (fun s H C cl fp => (ht s H C cl fp).pt) (fun s H C cl fp => (he s H C cl fp).pe) hs) (lc_imp hv)⟩
/-- name = [..] -/
theorem pds_setLc {i : Nat} {y : Str} {py spos : Pos} (hc : X.calm = true) (hN : X.N.Nodup) (hy : X.N[i]? = some y) (hyl : X.env.scope.names.lookup y = some .local)
    (hsw : swapsWith (.ListComp elt [⟨tg, iter, ifs, 0⟩] scope pos) (some (.Name y py)) spos.line X.env = pure true) (hi : PDI X tg iter di) (ok : BlkOk X.N X.env.scope scope own)
    (hg : ∀ (s : Shared) (H : Hp) (C : Addr) (cl : List (Str × Addr)) (fp : List Addr), PDG (X.blk s H scope (compEnvC scope cl C X.env) fp) tg is g)
    (ht : ∀ (s : Shared) (H : Hp) (C : Addr) (cl : List (Str × Addr)) (fp : List Addr), PDTs (X.blk s H scope (compEnvC scope cl C X.env) fp) ifs tt)
    (he : ∀ (s : Shared) (H : Hp) (C : Addr) (cl : List (Str × Addr)) (fp : List Addr), PD (X.blk s H scope (compEnvC scope cl C X.env) fp) elt te)
    (hv : ∀ j ∈ is, j ∈ own.map (·.2)) (hs : ∀ x, foldedSetIterable iter X.env x = pure x := by intro _; rfl) :
    PDS X (.Assign [.Name y py] (.ListComp elt [⟨tg, iter, ifs, 0⟩] scope pos) spos) (sAsg (dLc di g tt te (own.map (·.2))) (gNm i)) :=
  ⟨PS_imp (ps_setLc hc hN hy hyl hsw hi.pi ok (fun s H C cl fp => (hg s H C cl fp).pg) (fun s H C cl fp => (ht s H C cl fp).pt) (fun s H C cl fp => (he s H C cl fp).pe) hs) fun Dd σ H q => by
    have z := gName_imp Dd σ H q
    exact lc_imp hv σ H _ (by
      obtain ⟨δ, M, R, S, m, h, k⟩ := q
      exact ⟨δ, M, _, S, m, h, fun d M1 v H1 h1 e1 r1 m1 => k.nx _ M1 _ H1 h1 e1 ((S.ext e1).set r1) m1⟩)⟩
end

/-! ### defs of the text -/
abbrev DSp := List D → Mem → DK → Prop
def liftSp (K : PySem.W.Frag) (sp : DSp) : Sp := fun vs H Q _ => ∃ ds M R, RVs K H ds vs ∧ RM K H M ∧ sp ds M R ∧ KQ K H R Q
/-- the world of a claim -/
structure Wd where
  P : Program
  w : World
  K : PySem.W.Frag
  mg : Str → Option Value
  base : Heap
/-- a def (or a method) keeps its promise, by at most k levels -/
structure DFn (W : Wd) (k : Nat) (f : Addr) (fd : FuncData) (ps : List Str) (sp : DSp) : Prop where
  ok : FnOk W.P W.w W.K W.mg W.base CX0 k f fd ps (liftSp W.K sp)
  len : ∀ ds M R, sp ds M R → ds.length = ps.length
  bd : Binds W.K fd ps []
  kp : PySem.W.keepIn W.K (.ref f) = true
theorem DFn.mono {W : Wd} {j k : Nat} {f : Addr} {fd : FuncData} {ps : List Str} {sp : DSp} (F : DFn W j f fd ps sp) (h : j ≤ k) : DFn W k f fd ps sp := ⟨F.ok.mono h, F.len, F.bd, F.kp⟩
/-- a def of the module by its name -/
structure GFn (W : Wd) (k : Nat) (x : Str) (ps : List Str) (sp : DSp) : Prop where
  ex : ∃ f fd, W.mg x = some (.ref f) ∧ DFn W k f fd ps sp
theorem GFn.mono {W : Wd} {j k : Nat} {x : Str} {ps : List Str} {sp : DSp} (F : GFn W j x ps sp) (h : j ≤ k) : GFn W k x ps sp := by
  obtain ⟨f, fd, a, b⟩ := F.ex
  exact ⟨f, fd, a, b.mono h⟩
/-- the context stands in the world W, with room for k levels -/
structure In (X : Cx) (W : Wd) (k : Nat) : Prop where
  P : X.prog = W.P
  w : X.w = W.w
  K : X.K = W.K
  mg : X.mg = W.mg
  base : X.base = W.base
  room : Room k X.A
def dCall (sp : DSp) (t : DA) : DE := fun δ M R => t δ M fun ds M1 => sp ds M1 R
section
variable {W : Wd} {k : Nat} {x : Str} {ps : List Str} {sp : DSp} {p pos : Pos} {e : Expr} {es : List Expr} {t : DA}
theorem pd_call (F : GFn W k x ps sp) (hi : In X W k) (hg : Gl X x) (ha : PDA X (e :: es) t) (hdb : (x == ("__debug__" : Str)) = false := by decide)
    (he : starEach (e :: es) X.env = (false, eval e X.env) :: starEach es X.env := by rfl) (hpl : (backTo pos (starEach es X.env)).any (·.1) = false := by rfl) : PD X (.Call (.Name x p) (e :: es) [] pos) (dCall sp t) := by
  obtain ⟨f, fd, hm, G⟩ := F.ex
  obtain ⟨ok, len, bd, kp⟩ := G
  rw [← hi.P, ← hi.w, ← hi.K, ← hi.mg, ← hi.base] at ok
  rw [← hi.K] at bd kp
  rw [← hi.mg] at hm
  refine ⟨PE_imp (pe_call ok hi.room hg hm kp bd .nil pass0 ha.pa hdb he hpl) fun σ H Q q => ?_⟩
  obtain ⟨δ, M, R, S, m, h, kk⟩ := q
  refine ⟨δ, M, _, S, m, h, fun ds M1 vs H1 h1 e1 r1 m1 => ?_⟩
  show liftSp X.K sp (vs ++ []) H1 Q E0
  rw [List.append_nil]
  exact ⟨ds, M1, R, r1, m1, h1, kk.ext e1⟩
theorem pd_call0 (F : GFn W k x ps sp) (hi : In X W k) (hg : Gl X x) (hdb : (x == ("__debug__" : Str)) = false := by decide) : PD X (.Call (.Name x p) [] [] pos) (dCall sp aNil) := by
  obtain ⟨f, fd, hm, G⟩ := F.ex
  obtain ⟨ok, len, bd, kp⟩ := G
  rw [← hi.P, ← hi.w, ← hi.K, ← hi.mg, ← hi.base] at ok
  rw [← hi.K] at bd kp
  rw [← hi.mg] at hm
  refine ⟨PE_imp (pe_call0 ok hi.room hg hm kp bd .nil pass0 hdb) fun σ H Q q => ?_⟩
  obtain ⟨δ, M, R, S, m, h, kk⟩ := q
  exact ⟨[], M, R, .nil, m, h, kk⟩
end
def startD (N : List Str) (ds : List D) : DSt := ds.map some ++ List.replicate (N.length - ds.length) none
theorem start_sl {K : PySem.W.Frag} {H : Hp} {N : List Str} {ds : List D} {vs : List V} (r : RVs K H ds vs) : Sl K (L2.start N vs) H (startD N ds) := by
  refine ⟨by unfold L2.start startD; simp [r.length], fun i d q => ?_⟩
  unfold startD at q
  unfold L2.start
  by_cases hi : i < ds.length
  · rw [List.getElem?_append_left (by simpa using hi), List.getElem?_map] at q
    cases e : ds[i]? with
    | none => rw [e] at q; cases q
    | some d' =>
      rw [e] at q
      cases q
      obtain ⟨v, a, b⟩ := r.get e
      refine ⟨v, ?_, b⟩
      rw [List.getElem?_append_left (by simpa [← r.length] using hi), List.getElem?_map, a]
      rfl
  · rw [List.getElem?_append_right (by simpa using hi), List.getElem?_replicate] at q
    split at q <;> cases q
/-- what a body is to reach: R, of less memory where one likes -/
def endsF (R : DK) : DEnds where
  nx := fun _ M' => ∃ M0, Sub M0 M' ∧ R .non M0
  rt := fun d M' => ∃ M0, Sub M0 M' ∧ R d M0
abbrev BX (W : Wd) (N : List Str) (qual : Str) (sc : Scope) (f : Addr) (cdv : Value) (A : Around) (outer : List Env) (s : Shared) (H : Hp) (E : XK) : Cx := (cxOf CX0 W.P W.w W.K W.mg W.base N qual sc f cdv A outer s H E).nox
/-- a def's body: its reading t, wherever it runs -/
def Body (W : Wd) (k : Nat) (N : List Str) (qual : Str) (sc : Scope) (body : List Stmt) (t : DS) : Prop :=
  ∀ (f : Addr) (cdv : Value) (A : Around) (outer : List Env) (s : Shared) (H : Hp) (E : XK), In (BX W N qual sc f cdv A outer s H E) W k → PDSs (BX W N qual sc f cdv A outer s H E) body t
theorem dfn_mk {W : Wd} {k : Nat} {x qual : Str} {st : Stmt} {f : Addr} {fd : FuncData} {N ps : List Str} {sp : DSp} (F : Fun W.K x qual st f fd) (S : FnScope N ps (defScope st)) (bd : Binds W.K fd ps [])
    (len : ∀ ds M R, sp ds M R → ds.length = ps.length) (h : ∃ t, Body W k N qual (defScope st) (defBody st) t ∧ ∀ ds M R, sp ds M R → t (endsF R) (startD N ds) M) : DFn W (k + 1) f fd ps sp := by
  obtain ⟨t, hb, hr⟩ := h
  refine ⟨F.ok S (fun vs H Q E q => ?_) (fun cdv A outer s H vs Q E hroom q => ?_), len, bd, F.kp⟩
  · obtain ⟨ds, M, R, r, m, h, kk⟩ := q
    rw [← r.length]
    exact len ds M R h
  · refine ⟨_, (hb f cdv A outer s H E ⟨rfl, rfl, rfl, rfl, rfl, hroom⟩).ps, ?_⟩
    obtain ⟨ds, M, R, r, m, h, kk⟩ := q
    refine ⟨_, M, endsF R, start_sl r, m, hr ds M R h, ⟨?_, ?_, ?_, ?_⟩⟩
    · rintro δ M' σ H' ⟨M0, hs, q⟩ e S' m'
      exact kk .non M0 .non H' q e rfl (rm_sub m' hs)
    · intro δ M' σ H' q
      exact q.elim
    · intro δ M' σ H' q
      exact q.elim
    · rintro d M' v H' ⟨M0, hs, q⟩ e rv m'
      exact kk d M0 v H' q e rv (rm_sub m' hs)
end
end DD
end
section
namespace DD
open PySem PySem.Spec PyProof.Rows L2
/-! ### own classes -/
theorem lookup_at : ∀ {ws : List (Str × V)} {i : Nat} {f : Str} {v : V}, (ws.map (·.1)).Nodup → (ws.map (·.1))[i]? = some f → (ws.map (·.2))[i]? = some v → ws.lookup f = some v
  | [], _, _, _, _, h, _ => by simp at h
  | (k, x) :: r, 0, f, v, nd, h1, h2 => by
    simp at h1 h2
    subst h1; subst h2
    simp [List.lookup]
  | (k, x) :: r, i + 1, f, v, nd, h1, h2 => by
    have nd' := List.nodup_cons.mp nd
    have h1' : (r.map (·.1))[i]? = some f := by simpa using h1
    have ne : (f == k) = false := by
      refine beq_eq_false_iff_ne.mpr fun z => nd'.1 ?_
      rw [← z]
      exact List.mem_of_getElem? h1'
    simp only [List.lookup, ne]
    exact lookup_at nd'.2 h1' (by simpa using h2)
theorem putF_set : ∀ {ws : List (Str × V)} {i : Nat} {f : Str} {v : V}, (ws.map (·.1)).Nodup → (ws.map (·.1))[i]? = some f → (putF f v ws).map (·.1) = ws.map (·.1) ∧ (putF f v ws).map (·.2) = (ws.map (·.2)).set i v
  | [], _, _, _, _, h => by simp at h
  | (k, x) :: r, 0, f, v, nd, h1 => by
    simp at h1
    subst h1
    simp [putF]
  | (k, x) :: r, i + 1, f, v, nd, h1 => by
    have nd' := List.nodup_cons.mp nd
    have h1' : (r.map (·.1))[i]? = some f := by simpa using h1
    have ne : k ≠ f := fun z => nd'.1 (by
      have := List.mem_of_getElem? h1'
      rw [← z] at this
      exact this)
    obtain ⟨a, b⟩ := putF_set (v := v) nd'.2 h1'
    unfold putF
    rw [if_neg ne]
    simp [a, b]
theorem putF_new : ∀ {ws : List (Str × V)} {f : Str} {v : V}, f ∉ ws.map (·.1) → putF f v ws = ws ++ [(f, v)]
  | [], _, _, _ => rfl
  | (k, x) :: r, f, v, h => by
    have ne : k ≠ f := fun z => h (by simp [z])
    unfold putF
    rw [if_neg ne, putF_new fun z => h (List.mem_cons_of_mem _ z)]
    rfl
def putD (i : Nat) (v : D) (ds : List D) : List D := if i < ds.length then ds.set i v else ds ++ [v]
/-- the facts of a class that attributes ask -/
structure DCls (W : Wd) (C : Addr) (ns : List Str) : Prop where
  cl : Cls W.K C
  na : ∀ f ∈ ns, NoAttr W.K C f
  nd : ns.Nodup
  few : ns.length < 1000
section
variable {X : Cx} {W : Wd} {k : Nat} {C : Addr} {ns : List Str}
def onIns (C : Addr) (ns : List Str) (d : D) (M : Mem) (Q : Addr → List D → Prop) : Prop := match d with
  | .ref a => match M a with
    | some (.ins C' ns' ds) => C' = C ∧ ns' = ns ∧ Q a ds
    | _ => False
  | _ => False
theorem onIns_imp {K : PySem.W.Frag} {d : D} {M : Mem} {H : Hp} {v : V} {Q : Addr → List D → Prop} (h : onIns C ns d M Q) (m : RM K H M) (r : RV K H d v) :
    ∃ a dx ws ds, v = .ref a ∧ M a = some (.ins C ns ds) ∧ H a = some (.ins C dx ws) ∧ ws.map (·.1) = ns.take ds.length ∧ RVs K H ds (ws.map (·.2)) ∧ Q a ds := by
  unfold onIns at h
  split at h
  · cases r
    split at h
    · rename_i C' ns' ds he
      obtain ⟨rfl, rfl, q⟩ := h
      obtain ⟨dx, ws, a1, a2, a3⟩ := m _ _ he
      exact ⟨_, dx, ws, ds, rfl, he, a1, a2, a3, q⟩
    · exact h.elim
  · exact h.elim
def dFld (C : Addr) (ns : List Str) (i : Nat) (t : DE) : DE := fun δ M R => t δ M fun d M1 => onIns C ns d M1 fun _ ds => match ds[i]? with
  | some v => R v M1
  | none => False
theorem take_get {α : Type} {l : List α} {i n : Nat} {x : α} (h : l[i]? = some x) (hi : i < n) : (l.take n)[i]? = some x := by
  rw [List.getElem?_take_of_lt hi]; exact h
theorem pd_fld {e : Expr} {f : Str} {pos : Pos} {t : DE} {i : Nat} (c : DCls W C ns) (hi : In X W k) (hf : ns[i]? = some f) (he : PD X e t) (hb : attributeBase e f X.env (eval e X.env) = eval e X.env := by rfl) : PD X (.Attribute e f pos) (dFld C ns i t) :=
  ⟨PE_imp (pe_fld he.pe hb) fun σ H Q q => by
    obtain ⟨δ, M, R, S, m, h, kk⟩ := q
    refine ⟨δ, M, _, S, m, h, fun d M1 v H1 h1 e1 r1 m1 => ?_⟩
    obtain ⟨a, dx, ws, ds, rfl, _, a1, a2, a3, q⟩ := onIns_imp h1 m1 r1
    have c1 : Cls X.K C := by rw [hi.K]; exact c.cl
    have c2 : NoAttr X.K C f := by rw [hi.K]; exact c.na f (List.mem_of_getElem? hf)
    split at q
    · rename_i y hy
      have hil : i < ds.length := (List.getElem?_eq_some_iff.mp hy).1
      obtain ⟨u, b1, b2⟩ := a3.get hy
      refine ⟨a, C, dx, ws, u, rfl, a1, c1, c2, lookup_at (by rw [a2]; exact c.nd.sublist (List.take_sublist _ _)) (by rw [a2]; exact take_get hf hil) b1, ?_⟩
      exact kk y M1 u H1 q e1 b2 m1
    · exact q.elim⟩
/-- the object at a with another list of values -/
theorem put_ins {K : PySem.W.Frag} {H : Hp} {M : Mem} {a dx : Addr} {ws : List (Str × V)} {ds : List D} {i : Nat} {f : Str} {d : D} {v : V} (m : RM K H M) (nd : ns.Nodup) (hf : ns[i]? = some f) (a1 : H a = some (.ins C dx ws))
    (a2 : ws.map (·.1) = ns.take ds.length) (a3 : RVs K H ds (ws.map (·.2))) (hi : i ≤ ds.length) (r : RV K H d v) :
    Ext K H (upd H a (.ins C dx (putF f v ws))) ∧ RM K (upd H a (.ins C dx (putF f v ws))) (updM M a (.ins C ns (putD i d ds))) := by
  have e : Ext K H (upd H a (.ins C dx (putF f v ws))) := Ext.mut a1 (fun _ z => by cases z) (fun _ _ z => by cases z)
  refine ⟨e, rm_put m a1 e ?_⟩
  have nl : i < ns.length := (List.getElem?_eq_some_iff.mp hf).1
  by_cases hl : i < ds.length
  · obtain ⟨b1, b2⟩ := putF_set (v := v) (ws := ws) (i := i) (f := f) (by rw [a2]; exact nd.sublist (List.take_sublist _ _)) (by rw [a2]; exact take_get hf hl)
    refine ⟨dx, _, upd_same, ?_, ?_⟩
    · unfold putD
      rw [if_pos hl, b1, a2, List.length_set]
    · unfold putD
      rw [if_pos hl, b2]
      exact (a3.set i r).ext e
  · have hil : i = ds.length := by omega
    have nin : f ∉ ws.map (·.1) := by
      rw [a2]
      intro z
      obtain ⟨j, hj, hz⟩ := List.getElem_of_mem z
      rw [List.length_take] at hj
      have z2 : ns[j]? = some f := by
        rw [← hz, List.getElem_take]
        exact List.getElem?_eq_getElem (by omega)
      have := nodup_ix nd z2 hf
      omega
    refine ⟨dx, _, upd_same, ?_, ?_⟩
    · unfold putD
      rw [if_neg hl, putF_new nin, List.map_append, a2, List.length_append]
      show ns.take ds.length ++ [f] = ns.take (ds.length + 1)
      rw [List.take_add_one, ← hil, hf]
      rfl
    · unfold putD
      have z := (a3.append (RVs.cons r RVs.nil)).ext e
      rw [putF_new nin] at z
      rw [if_neg hl, putF_new nin, List.map_append]
      exact z
def sFldD (C : Addr) (ns : List Str) (i : Nat) (to tv : DE) : DS := fun E δ M => tv δ M fun y M1 => to δ M1 fun x M2 => onIns C ns x M2 fun a ds => i ≤ ds.length ∧ E.nx δ (updM M2 a (.ins C ns (putD i y ds)))
theorem pds_fld {o value : Expr} {f : Str} {pos pos' : Pos} {to tv : DE} {i : Nat} (c : DCls W C ns) (hi : In X W k) (hf : ns[i]? = some f) (ho : PD X o to) (hv : PD X value tv)
    (hs : swapsWith value (some (.Attribute o f pos')) pos.line X.env = pure false := by rfl) : PDS X (.Assign [.Attribute o f pos'] value pos) (sFldD C ns i to tv) :=
  ⟨PS_imp (ps_fld ho.pe hv.pe hs) fun Dd σ H q => by
    obtain ⟨δ, M, R, S, m, h, kk⟩ := q
    refine ⟨δ, M, _, S, m, h, fun y M1 w H1 h1 e1 r1 m1 => ?_⟩
    refine ⟨δ, M1, _, S.ext e1, m1, h1, fun x M2 v H2 h2 e2 r2 m2 => ?_⟩
    obtain ⟨a, dx, ws, ds, rfl, _, a1, a2, a3, hil, q⟩ := onIns_imp h2 m2 r2
    have c1 : Cls X.K C := by rw [hi.K]; exact c.cl
    have c2 : NoAttr X.K C f := by rw [hi.K]; exact c.na f (List.mem_of_getElem? hf)
    have few : ws.length < 1000 := by
      have z := congrArg List.length a2
      rw [List.length_map, List.length_take] at z
      have := c.few
      omega
    refine ⟨a, C, dx, ws, rfl, a1, c1, c2, few, ?_⟩
    obtain ⟨e3, m3⟩ := put_ins m2 c.nd hf a1 a2 a3 hil (r1.ext e2)
    exact kk.nx δ _ σ _ q ((e1.trans e2).trans e3) (S.ext ((e1.trans e2).trans e3)) m3⟩
def sFldAugD (C : Addr) (ns : List Str) (i : Nat) (to tv : DE) (g : DIp) : DS := fun E δ M => to δ M fun x M1 => onIns C ns x M1 fun a ds => match ds[i]? with
  | some v => tv δ M1 fun y M2 => g v y M2 fun z M3 => onIns C ns x M3 fun a ds => i ≤ ds.length ∧ E.nx δ (updM M3 a (.ins C ns (putD i z ds)))
  | none => False
theorem pds_fldaug {o value : Expr} {f : Str} {tpos pos : Pos} {to tv : DE} {i : Nat} {op : Operator} {rd : V → V → Hp → VK → Prop} {g : DIp} (c : DCls W C ns) (hi : In X W k) (hf : ns[i]? = some f) (ho : PD X o to) (hv : PD X value tv) (hop : InOp X op rd) (hg : IpD X.K rd g) :
    PDS X (.AugAssign (.Attribute o f tpos) op value pos) (sFldAugD C ns i to tv g) :=
  ⟨PS_imp (ps_fldaug ho.pe hv.pe hop) fun Dd σ H q => by
    obtain ⟨δ, M, R, S, m, h, kk⟩ := q
    refine ⟨δ, M, _, S, m, h, fun x M1 v H1 h1 e1 r1 m1 => ?_⟩
    obtain ⟨a, dx, ws, ds, rfl, he, a1, a2, a3, q⟩ := onIns_imp h1 m1 r1
    have c1 : Cls X.K C := by rw [hi.K]; exact c.cl
    have c2 : NoAttr X.K C f := by rw [hi.K]; exact c.na f (List.mem_of_getElem? hf)
    split at q
    · rename_i old hy
      have hil : i < ds.length := (List.getElem?_eq_some_iff.mp hy).1
      obtain ⟨u, b1, b2⟩ := a3.get hy
      refine ⟨a, C, dx, ws, u, rfl, a1, c1, c2, lookup_at (by rw [a2]; exact c.nd.sublist (List.take_sublist _ _)) (by rw [a2]; exact take_get hf hil) b1, ?_⟩
      refine ⟨δ, M1, _, S.ext e1, m1, q, fun y M2 w H2 h2 e2 r2 m2 => ?_⟩
      refine hg old y M2 _ H2 u w _ h2 m2 (b2.ext e2) r2 fun z M3 t H3 h3 e3 r3 m3 => ?_
      obtain ⟨a', dx', ws', ds', ea, _, a1', a2', a3', hil', q'⟩ := onIns_imp h3 m3 ((r1.ext e2).ext e3)
      cases ea
      have few : ws'.length < 1000 := by
        have z := congrArg List.length a2'
        rw [List.length_map, List.length_take] at z
        have := c.few
        omega
      refine ⟨dx', ws', a1', few, ?_⟩
      obtain ⟨e4, m4⟩ := put_ins m3 c.nd hf a1' a2' a3' hil' r3
      exact kk.nx δ _ σ _ q' (((e1.trans e2).trans e3).trans e4) (S.ext (((e1.trans e2).trans e3).trans e4)) m4
    · exact q.elim⟩
/-- a method of the class at C -/
structure MFn (W : Wd) (k : Nat) (C : Addr) (ns : List Str) (x : Str) (ps : List Str) (sp : DSp) : Prop where
  ex : ∃ f fd, Meth W.K C x f ∧ DFn W k f fd ps sp
  no : x ∉ ns
  cl : DCls W C ns
theorem MFn.mono {j k : Nat} {x : Str} {ps : List Str} {sp : DSp} (F : MFn W j C ns x ps sp) (h : j ≤ k) : MFn W k C ns x ps sp := by
  obtain ⟨f, fd, a, b⟩ := F.ex
  exact ⟨⟨f, fd, a, b.mono h⟩, F.no, F.cl⟩
def dMeth (C : Addr) (ns : List Str) (sp : DSp) (to : DE) (t : DA) : DE := fun δ M R => to δ M fun x M1 => onIns C ns x M1 fun _ _ => t δ M1 fun xs M2 => sp (x :: xs) M2 R
theorem lookup_none : ∀ {ws : List (Str × V)} {f : Str}, f ∉ ws.map (·.1) → ws.lookup f = none
  | [], _, _ => rfl
  | (k, x) :: r, f, h => by
    have ne : (f == k) = false := beq_eq_false_iff_ne.mpr fun z => h (by simp [z])
    simp only [List.lookup, ne]
    exact lookup_none fun z => h (List.mem_cons_of_mem _ z)
section
variable {x : Str} {ps : List Str} {sp : DSp} {o e : Expr} {es : List Expr} {apos pos : Pos} {to : DE} {t : DA}
theorem no_field {ws : List (Str × V)} {n : Nat} (a2 : ws.map (·.1) = ns.take n) (h : x ∉ ns) : ws.lookup x = none := lookup_none (by
  rw [a2]
  exact fun z => h (List.mem_of_mem_take z))
theorem pd_meth {pl : Sem Bool} (F : MFn W k C ns x ps sp) (hi : In X W k) (ho : PD X o to) (ha : PDA X (e :: es) t)
    (hst : starEach (e :: es) X.env = (false, eval e X.env) :: starEach es X.env := by rfl) (hpl : (backTo pos (starEach es X.env)).any (·.1) = false := by rfl)
    (ht : eval (.Call (.Attribute o x apos) (e :: es) [] pos) X.env = (do
      let ov ← eval o X.env
      standAt apos.atName
      let (f, first) ← holding [ov] (getMethod ov x pl)
      callWith pos f first (backTo pos (starEach (e :: es) X.env)) (backToKw pos (keywordEach [] X.env))) := by rfl) : PD X (.Call (.Attribute o x apos) (e :: es) [] pos) (dMeth C ns sp to t) := by
  obtain ⟨f, fd, hm, G⟩ := F.ex
  obtain ⟨ok, len, bd, kp⟩ := G
  have c1 : Cls X.K C := by rw [hi.K]; exact F.cl.cl
  rw [← hi.P, ← hi.w, ← hi.K, ← hi.mg, ← hi.base] at ok
  rw [← hi.K] at bd kp hm
  refine ⟨PE_imp (pe_meth ho.pe c1 hm ok hi.room bd .nil pass0 ha.pa hst hpl ht) fun σ H Q q => ?_⟩
  obtain ⟨δ, M, R, S, m, h, kk⟩ := q
  refine ⟨δ, M, _, S, m, h, fun d M1 v H1 h1 e1 r1 m1 => ?_⟩
  obtain ⟨a, dx, ws, ds, rfl, _, a1, a2, a3, q⟩ := onIns_imp h1 m1 r1
  refine ⟨a, dx, ws, rfl, a1, no_field a2 F.no, ?_⟩
  refine ⟨δ, M1, _, S.ext e1, m1, q, fun xs M2 vs H2 h2 e2 r2 m2 => ?_⟩
  show liftSp X.K sp (V.ref a :: (vs ++ [])) H2 Q E0
  rw [List.append_nil]
  exact ⟨d :: xs, M2, R, .cons (r1.ext e2) r2, m2, h2, kk.ext (e1.trans e2)⟩
theorem pd_meth0 {pl : Sem Bool} (F : MFn W k C ns x ps sp) (hi : In X W k) (ho : PD X o to)
    (ht : eval (.Call (.Attribute o x apos) [] [] pos) X.env = (do
      let ov ← eval o X.env
      standAt apos.atName
      let (f, first) ← holding [ov] (getMethod ov x pl)
      callWith pos f first (backTo pos (starEach [] X.env)) (backToKw pos (keywordEach [] X.env))) := by rfl) : PD X (.Call (.Attribute o x apos) [] [] pos) (dMeth C ns sp to aNil) := by
  obtain ⟨f, fd, hm, G⟩ := F.ex
  obtain ⟨ok, len, bd, kp⟩ := G
  have c1 : Cls X.K C := by rw [hi.K]; exact F.cl.cl
  rw [← hi.P, ← hi.w, ← hi.K, ← hi.mg, ← hi.base] at ok
  rw [← hi.K] at bd kp hm
  refine ⟨PE_imp (pe_meth0 ho.pe c1 hm ok hi.room bd .nil pass0 ht) fun σ H Q q => ?_⟩
  obtain ⟨δ, M, R, S, m, h, kk⟩ := q
  refine ⟨δ, M, _, S, m, h, fun d M1 v H1 h1 e1 r1 m1 => ?_⟩
  obtain ⟨a, dx, ws, ds, rfl, _, a1, a2, a3, q⟩ := onIns_imp h1 m1 r1
  refine ⟨a, dx, ws, rfl, a1, no_field a2 F.no, ?_⟩
  exact ⟨[d], M1, R, .cons r1 .nil, m1, q, kk.ext e1⟩
/-- C(..) -/
structure CFn (W : Wd) (k : Nat) (x : Str) (C : Addr) (ns : List Str) (ps : List Str) (sp : DSp) : Prop where
  ex : ∃ f fd, W.mg x = some (.ref C) ∧ Mk W.K C f ∧ DFn W k f fd ps sp
theorem CFn.mono {j k : Nat} {x : Str} {ps : List Str} {sp : DSp} (F : CFn W j x C ns ps sp) (h : j ≤ k) : CFn W k x C ns ps sp := by
  obtain ⟨f, fd, a, b, c⟩ := F.ex
  exact ⟨f, fd, a, b, c.mono h⟩
def dMake (C : Addr) (ns : List Str) (sp : DSp) (t : DA) : DE := fun δ M R => t δ M fun xs M1 => ∀ p, M1 p = none → sp (.ref p :: xs) (updM M1 p (.ins C ns [])) fun _ M2 => R (.ref p) M2
theorem make_imp {K : PySem.W.Frag} {sp' : DSp} {δ : DSt} {xs : List D} {M1 : Mem} {R : DK} {vs : List V} {H H1 : Hp} {Q : VK} (kk : KQ K H R Q) (e1 : Ext K H H1) (r1 : RVs K H1 xs vs) (m1 : RM K H1 M1)
    (h1 : ∀ p, M1 p = none → sp' (.ref p :: xs) (updM M1 p (.ins C ns [])) fun d M2 => R (.ref p) M2) (y dy : Addr) (hy : H1 y = none) (hdy : H1 dy = none) (ne : dy ≠ y)
    (hret : ∀ xs M R, sp' xs M R → sp' xs M fun d M2 => d = .non ∧ R d M2) :
    liftSp K sp' (V.ref y :: vs) (upd (upd H1 dy (.own y)) y (.ins C dy [])) (fun v H2 => v = .non ∧ Q (.ref y) H2) E0 := by
  have e2 : Ext K H1 (upd H1 dy (.own y)) := Ext.new hdy
  have hy2 : (upd H1 dy (.own y)) y = none := by rw [upd_ne ne.symm]; exact hy
  have e3 : Ext K (upd H1 dy (.own y)) (upd (upd H1 dy (.own y)) y (.ins C dy [])) := Ext.new hy2
  have m2 : RM K (upd H1 dy (.own y)) M1 := rm_skip m1 hdy
  refine ⟨.ref y :: xs, _, _, .cons rfl ((r1.ext e2).ext e3), rm_new (o := .ins C ns []) m2 hy2 ⟨dy, [], upd_same, by simp, .nil⟩, hret _ _ _ (h1 y (rm_none m1 hy)), ?_⟩
  rintro d M2 v H2 ⟨rfl, q⟩ e4 rv m3
  exact ⟨rv, kk _ M2 _ H2 q (((e1.trans e2).trans e3).trans e4) rfl m3⟩
theorem pd_make (F : CFn W k x C ns ps sp) (hi : In X W (k + 1)) (hg : Gl X x) (ha : PDA X (e :: es) t) (hret : ∀ xs M R, sp xs M R → sp xs M fun d M2 => d = .non ∧ R d M2) (hdb : (x == ("__debug__" : Str)) = false := by decide)
    (he : starEach (e :: es) X.env = (false, eval e X.env) :: starEach es X.env := by rfl) (hpl : (backTo pos (starEach es X.env)).any (·.1) = false := by rfl) : PD X (.Call (.Name x apos) (e :: es) [] pos) (dMake C ns sp t) := by
  obtain ⟨f, fd, hm, mk, G⟩ := F.ex
  obtain ⟨ok, len, bd, kp⟩ := G
  rw [← hi.P, ← hi.w, ← hi.K, ← hi.mg, ← hi.base] at ok
  rw [← hi.K] at bd kp mk
  rw [← hi.mg] at hm
  refine ⟨PE_imp (pe_make mk ok hi.room hg hm bd .nil pass0 ha.pa hdb he hpl) fun σ H Q q => ?_⟩
  obtain ⟨δ, M, R, S, m, h, kk⟩ := q
  refine ⟨δ, M, _, S, m, h, fun xs M1 vs H1 h1 e1 r1 m1 => ?_⟩
  intro y dy hy hdy ne
  show liftSp X.K sp (V.ref y :: (vs ++ [])) _ _ E0
  rw [List.append_nil]
  exact make_imp (δ := δ) kk e1 r1 m1 h1 y dy hy hdy ne hret
end
end
end DD
end
section
/-! ### enumerate(a tuple), at the library's level -/
namespace PySem
open AutoSeq1 (wpAny_loadPart')
section
variable {prog : Program} {w : World} {A : Around} {E : Value → Shared → Prop} {s : Shared}
theorem dd_meets_enumT (l : Addr) (items : Array Value) (o : Obj) (hc : o.cls = .type "tuple") (n : Nat) (hd : o.data = .seq items n) :
    Meets (Builtin.«enumerate.__new__» ⟨[.type "enumerate", .ref l], []⟩) (fun _ R s => s.heap.get? l = some o ∧
      R (.ok (.ret (.ref (s.heap.push { cls := .type "tuple_iterator", data := .fields #[.ref l, .int 0 0] }).objs.size)))
        { s with heap := (s.heap.push { cls := .type "tuple_iterator", data := .fields #[.ref l, .int 0 0] }).push { cls := .type "enumerate", data := .fields #[.none, .bool false, .ref s.heap.objs.size, rawInt 0, .none, .none] } }) :=
  .of_wp fun prog w A R s h => by
    obtain ⟨hp, g, d, tk, os⟩ := s
    obtain ⟨hl, h⟩ := h
    have hsub := sub_enumerate
    have hL : Heap.IsTuple (Shared.heap ⟨hp, g, d, tk, os⟩) l items := ⟨o, hl, hc, n, hd⟩
    obtain ⟨c, dct, dt, sl⟩ := o
    cases hc
    cases hd
    wp_walk using wpAny_loadPart' hl
    refine wpAny_stack_any fun st => wpAny_pure ?_
    split
    · rename_i c _ _ _ _ _
      cases (c == Value.type "enumerate") <;> (wp_walk using wpAny_loadPart' hl, wpAny_pyIter_tuple hL; exact ⟨_, rfl, h⟩)
    · wp_walk using wpAny_loadPart' hl, wpAny_pyIter_tuple hL
      exact ⟨_, rfl, h⟩
theorem dd_call_enumT {l : Addr} {items : Array Value} {Q : Value → Shared → Prop} (hL : s.heap.IsTuple l items)
    (h : ∀ h', IsEnum h' (s.heap.objs.size + 1) s.heap.objs.size 0 .none → h'.IsTupleIter s.heap.objs.size l 0 → h'.objs.size = s.heap.objs.size + 2 →
      (∀ b o, s.heap.get? b = some o → h'.get? b = some o) → Q (.ref (s.heap.objs.size + 1)) { s with heap := h' }) :
    wpAny (model prog w) A (call (.type "enumerate") [.ref l]) Q E s := by
  obtain ⟨o, hl, hc, n, hd⟩ := hL
  refine callType_new F.called_enumerate (by decide) (F.typeCall_enumerate_1 _) (F.newCall_enumerate_1 _) (fun obj => F.args_object_init_2 obj _) F.entry_enumerate_new
    (dd_meets_enumT l items o hc n hd) ⟨hl, ?_⟩
  have hz : (s.heap.push { cls := .type "tuple_iterator", data := .fields #[.ref l, .int 0 0] }).objs.size = s.heap.objs.size + 1 := Heap.size_push ..
  show _ ∧ _
  rw [hz]
  have he : IsEnum ((s.heap.push { cls := .type "tuple_iterator", data := .fields #[.ref l, .int 0 0] }).push
      { cls := .type "enumerate", data := .fields #[.none, .bool false, .ref s.heap.objs.size, rawInt 0, .none, .none] }) (s.heap.objs.size + 1) s.heap.objs.size 0 .none := by
    have q := Heap.get?_push_size (s.heap.push { cls := .type "tuple_iterator", data := .fields #[.ref l, .int 0 0] })
      (o := { cls := .type "enumerate", data := .fields #[.none, .bool false, .ref s.heap.objs.size, rawInt 0, .none, .none] }) rfl
    rw [hz] at q
    exact q
  refine ⟨⟨_, he, rfl⟩, h _ he ⟨_, Heap.get?_push_of_some _ (Heap.get?_push_size _ rfl), rfl, rfl⟩ (by rw [Heap.size_push, hz]) fun b o x => ?_⟩
  exact Heap.get?_push_of_some _ (Heap.get?_push_of_some _ x)
theorem dd_nextOf_tup {it l : Addr} {i : Nat} {items : Array Value} {x : Value} {Q : Value → Shared → Prop} (hit : s.heap.IsTupleIter it l i) (hl : s.heap.IsTuple l items) (hx : items[i]? = some x)
    (hQ : ∀ h', h'.IsTupleIter it l (i + 1) → Heap.SameBut it s.heap h' → Q x { s with heap := h' }) :
    wpAny (model prog w) A (Builtin.SmallTypes.nextOf (.ref it)) Q E s := by
  obtain ⟨o, ho, hc, hd⟩ := id hit
  obtain ⟨ol, hol, _, nl, hdl⟩ := hl
  unfold Builtin.SmallTypes.nextOf
  refine wpAny_bind (wpAny_callSpecial?_slot (name := Str.ofString "__next__") hit.typeIs F.slot_tuple_iterator_next (wpAny_call_entry F.slot_tuple_iterator_next hit.typeIs F.entry_tuple_iterator_next ?_ (F.args_tuple_iterator_next_1 _)))
  show wpAny _ _ (field (.ref it) 0 >>= _) _ _ s
  refine wpAny_bind (wpAny_field ho hd (x := .ref l) rfl ?_)
  show wpAny _ _ (if (Value.ref l == Value.none) = true then _ else _) _ _ s
  rw [if_neg (show ¬ ((Value.ref l == Value.none) = true) from Bool.false_ne_true)]
  show wpAny _ _ (field (.ref it) 1 >>= _) _ _ s
  refine wpAny_bind (wpAny_field ho hd (x := .int i 0) rfl ?_)
  show wpAny _ _ (seqItems? (.ref l) >>= _) _ _ s
  refine wpAny_bind (wpAny_seqItems hol hdl ?_)
  simp only [Int.toNat_natCast, hx]
  refine wpAny_bind (wpAny_setField ho hd (by simp) (wpAny_pure ⟨x, rfl, wpAny_pure (hQ _ ?_ (Heap.SameBut.update ..))⟩))
  refine ⟨_, Heap.get?_update_self _ ho (Obj.isFreed_of_fields (Obj.data_mapFields hd _)), (Obj.cls_mapFields ..).trans hc, ?_⟩
  rw [Obj.data_mapFields hd]; simp [rawInt]
theorem dd_nextOf_tupEnd {it l : Addr} {i : Nat} {items : Array Value} {Q : Value → Shared → Prop} (hh : A.handled = none) (hit : s.heap.IsTupleIter it l i) (hl : s.heap.IsTuple l items) (hx : items[i]? = none)
    (hE : ∀ h' e, Heap.ExtBut it s.heap h' → (∃ o, h'.get? e = some o ∧ o.cls = .type "StopIteration") → E (.ref e) { s with heap := h' }) :
    wpAny (model prog w) A (Builtin.SmallTypes.nextOf (.ref it)) Q E s := by
  obtain ⟨o, ho, hc, hd⟩ := id hit
  obtain ⟨ol, hol, _, nl, hdl⟩ := hl
  unfold Builtin.SmallTypes.nextOf
  refine wpAny_bind (wpAny_callSpecial?_slot (name := Str.ofString "__next__") hit.typeIs F.slot_tuple_iterator_next (wpAny_call_entry F.slot_tuple_iterator_next hit.typeIs F.entry_tuple_iterator_next ?_ (F.args_tuple_iterator_next_1 _)))
  show wpAny _ _ (field (.ref it) 0 >>= _) _ _ s
  refine wpAny_bind (wpAny_field ho hd (x := .ref l) rfl ?_)
  show wpAny _ _ (if (Value.ref l == Value.none) = true then _ else _) _ _ s
  rw [if_neg (show ¬ ((Value.ref l == Value.none) = true) from Bool.false_ne_true)]
  show wpAny _ _ (field (.ref it) 1 >>= _) _ _ s
  refine wpAny_bind (wpAny_field ho hd (x := .int i 0) rfl ?_)
  show wpAny _ _ (seqItems? (.ref l) >>= _) _ _ s
  refine wpAny_bind (wpAny_seqItems hol hdl ?_)
  simp only [Int.toNat_natCast, hx]
  refine wpAny_bind (wpAny_rule (wpAny_bind (wpAny_setField ho hd (by simp) ?_)))
  show wpAny _ _ (newExc (.type "StopIteration") [] >>= _) _ _ _
  refine wpAny_bind ?_
  simp only [newExc, newTuple]
  refine wpAny_bind (wpAny_newObj_type ?_ (by size_fits))
  refine wpAny_bind (m := firstArgMember _ _) (wpAny_of_eq (a := Value.none) (by first | rfl | (simp only [firstArgMember]; rfl)) ?_)
  refine wpAny_newObj_type ?_ (by size_fits)
  simp only [raiseNew]
  refine wpAny_bind (wpAny_handled ?_)
  first
    | rw [show A.in1.handled = none from hh]
    | rw [hh]
  refine wpAny_bind (wpAny_pure (wpAny_throw ?_))
  exact hE _ _ (((Heap.SameBut.update ..).extBut.push _).push _) ⟨_, Heap.get?_push_size _ rfl, rfl⟩
end
theorem dd_drawsT {prog : Program} {w : World} {A : Around} (hh : A.handled = none) (it l : Addr) (hne : l ≠ it) (items : Array Value) :
    Draws prog w A it [it, l] items.size (fun i v => items[i]? = some v) (fun i h => h.IsTupleIter it l i ∧ h.IsTuple l items) where
  live := fun _ _ st => let ⟨o, ho, _⟩ := st.1; ⟨o, ho⟩
  frame := fun _ _ _ st hk => ⟨let ⟨o, ho, r⟩ := st.1; ⟨o, hk it (by simp) o ho, r⟩, let ⟨o, ho, r⟩ := st.2; ⟨o, hk l (by simp) o ho, r⟩⟩
  item := fun i s Q E hi st hQ => by
    refine dd_nextOf_tup st.1 st.2 (x := items[i]) (by simp [hi]) fun h' hit' hs' => ?_
    exact hQ _ h' s.toks (by simp [hi]) ⟨hit', st.2.extBut hs'.extBut hne⟩ hs'
  done := fun s Q E st hE => dd_nextOf_tupEnd hh st.1 st.2 (by simp) hE
theorem dd_enum_end {prog : Program} {w : World} {A : Around} {E : Value → Shared → Prop} {s : Shared} {e it l : Addr} {i : Nat} {items : Array Value} {old : Value} {Q : Option Value → Shared → Prop} (hh : A.in1.handled = none)
    (he : IsEnum s.heap e it i old) (hit : s.heap.IsTupleIter it l i) (hl : s.heap.IsTuple l items) (hx : items[i]? = none)
    (hQ : ∀ h', Heap.ExtBut it s.heap h' → Q none { s with heap := h' }) : wpAny (model prog w) A (pyNext (.ref e)) Q E s := by
  have hT : s.TypeIs (.ref e) "enumerate" := ⟨_, he, rfl⟩
  unfold pyNext
  refine wpAny_bind (wpAny_attempt (wpAny_callSpecial?_slot (name := Str.ofString "__next__") hT F.slot_enumerate_next (wpAny_call_entry F.slot_enumerate_next hT F.entry_enumerate_next ?_ (F.args_enumerate_next_1 _))))
  show wpAny _ _ (field (.ref e) 2 >>= _) _ _ _
  refine wpAny_bind (wpAny_field he rfl (x := .ref it) rfl ?_)
  refine wpAny_bind (dd_nextOf_tupEnd hh hit hl hx fun h' x he' hx' => ?_)
  obtain ⟨o, ho, hc⟩ := hx'
  refine wpAny_bind (wpAny_isInstance (T := "StopIteration") (b := true) ⟨o, ho, hc⟩ isSubtype_stop ?_)
  exact wpAny_pure (hQ _ he')
end PySem

namespace DD
open PySem PySem.Spec PyProof.Rows L2
def IteT (K : PySem.W.Frag) (a : Addr) : It :=
  ⟨fun i H => ∃ (xs : List V) (x : V), SqT K H a xs ∧ xs[i]? = some x, fun i H v H' => ∃ T x, v = .ref T ∧ H T = none ∧ H' = upd H T (.tup [.int (i : Nat), x]) ∧ ∀ xs, SqT K H a xs → xs[i]? = some x, fun i H => ∃ xs : List V, SqT K H a xs ∧ xs.length ≤ i⟩
theorem turn_enumT {P : Program} {w : World} {K : PySem.W.Frag} {elts : List Expr} {kk : Nat} {tpos : Pos} (a e it : Addr) :
    Turn P w K (.Tuple elts kk tpos) (IteT K a) [e, it] e (fun i h => (∃ old, IsEnum h e it ((i : Nat) : Int) old) ∧ h.IsTupleIter it a i ∧ e ≠ it) where
  mem := by simp
  obj := fun i h st b hb => by
    obtain ⟨⟨old, he⟩, ⟨o, ho, hc, hd⟩, _⟩ := st
    have e' : b = e ∨ b = it := by simpa using hb
    rcases e' with z | z
    · rw [z]; exact ⟨_, he, fun v q => nomatch q⟩
    · rw [z]; exact ⟨o, ho, fun v q => by rw [hd] at q; cases q⟩
  keep := fun i h h' st k => let ⟨⟨old, he⟩, ⟨o, ho, r⟩, hne⟩ := st; ⟨⟨old, k e (by simp) _ he⟩, ⟨o, k it (by simp) o ho, r⟩, hne⟩
  item := by
    intro X hP hw hK hc i pins s σ H E I hf st hg
    subst hP hw hK
    obtain ⟨⟨old, he⟩, hit, hne⟩ := st
    obtain ⟨xs, x, hq, hx⟩ := hg
    obtain ⟨its, rv, p, hz⟩ := I.tuple hq
    obtain ⟨u, hu, ru⟩ := rv.get hx
    have p' : s.heap.IsTuple a its.toArray := p
    have hel : e < s.heap.objs.size := Heap.lt_size he
    have hil : it < s.heap.objs.size := by obtain ⟨_, q, _⟩ := hit; exact Heap.lt_size q
    have hai : a ≠ it := fun z => by
      obtain ⟨o1, q1, c1, _⟩ := p'
      obtain ⟨o2, q2, c2, _⟩ := hit
      rw [z, q2] at q1; cases q1
      rw [c2] at c1; exact absurd (Value.type.inj c1) (by decide)
    have hae : a ≠ e := fun z => by
      obtain ⟨o1, q1, c1, _⟩ := p'
      rw [z, he] at q1
      cases q1; exact absurd (Value.type.inj c1) (by decide)
    have hil2 : i < its.toArray.size := by
      have := rv.length
      have := (List.getElem?_eq_some_iff.mp hx).1
      simp only [List.size_toArray]; omega
    have hh : X.A.in1.handled = none := I.ok.hd hc
    refine wpAny_pyNext_enum_itemD (dd_drawsT (A := X.A.in1) hh it a hai its.toArray) he ⟨hit, p'⟩ hil2 hne (by simp [hne, Ne.symm hae]) fun y h' tk hP ho hs' hT hsz hk => ?_
    have hy : y = u := by
      have z : its.toArray[i]? = some y := hP
      have z2 : its.toArray[i]? = some u := by simpa using hu
      rw [z2] at z; cases z; rfl
    subst hy
    refine ⟨_, rfl, wpAny_letOwnedTupleGo_enum (s := { s with heap := h', toks := tk + 1 }) ho fun h'' he' sb => ?_⟩
    have hT2 : h''.get? s.heap.objs.size = some { cls := .type "tuple", data := .seq #[.int i tk, y] } := (sb.2 _ (Nat.ne_of_gt hel)).trans hT
    have new : ObjOk X.prog X.w (upd H s.heap.objs.size (.tup [.int (i : Nat), x])) h'' s.heap.objs.size (.tup [.int (i : Nat), x]) :=
      ⟨by show 2 ≤ sizeLine; decide, [.int i tk, y], .cons ⟨_, rfl⟩ (.cons ru .nil), ⟨_, hT2, rfl, _, rfl⟩⟩
    have I1 : Inv X pins σ (upd H s.heap.objs.size (.tup [.int (i : Nat), x])) { s with heap := h'', toks := tk + 1 } :=
      I.turnedNew (ch := [e, it]) (fun b ob hb q => (sb.2 b (fun z => hb (by simp [z]))).trans (hk b ob (fun z => hb (by simp [z])) (fun z => hb (by simp [z])) q)) hf (Nat.le_refl _) new
    refine ⟨.ref s.heap.objs.size, _, I1, rfl, ⟨_, x, rfl, I.hok.fresh (Nat.le_refl _), rfl, fun ys hy => by rw [I.tuple_inj hy hq]; exact hx⟩, ⟨⟨y, ?_⟩, ?_, hne⟩, fun b hb => ?_⟩
    · have e1 : ((i + 1 : Nat) : Int) = (i : Int) + 1 := by omega
      rw [e1]
      exact he'
    · obtain ⟨o, q, r⟩ := hs'.1
      exact ⟨o, (sb.2 it (Ne.symm hne)).trans q, r⟩
    · have hb' : b < s.heap.objs.size := by
        have e' : b = e ∨ b = it := by simpa using hb
        rcases e' with z | z
        · rw [z]; exact hel
        · rw [z]; exact hil
      rw [upd_ne (Nat.ne_of_lt hb')]
      exact (hf b hb).1
  done := by
    intro X hP hw hK hc i pins s σ H E I hf st hg
    subst hP hw hK
    obtain ⟨⟨old, he⟩, hit, hne⟩ := st
    obtain ⟨xs, hq, hx⟩ := hg
    obtain ⟨its, rv, p, hz⟩ := I.tuple hq
    have p' : s.heap.IsTuple a its.toArray := p
    obtain ⟨f0, f1, f2, f3, f4, f5⟩ := hf it (by simp)
    have hl := rv.length
    have hai : a ≠ it := fun z => by
      obtain ⟨o1, q1, c1, _⟩ := p'
      obtain ⟨o2, q2, c2, _⟩ := hit
      rw [z, q2] at q1; cases q1
      rw [c2] at c1; exact absurd (Value.type.inj c1) (by decide)
    have hh : X.A.in1.handled = none := I.ok.hd hc
    -- the end, with the iterator's place as it stands
    refine dd_enum_end hh he hit p' (by simp only [List.getElem?_toArray]; exact List.getElem?_eq_none (by omega)) fun h' eb => ⟨rfl, I.turned (t' := s.toks) (fun b o hb q => eb b o hb q) f0 f1 f3 f4 f5⟩
  self := fun A i s Q E st h => let ⟨⟨_, he⟩, _⟩ := st; wpAny_pyIter_enum he h
section
variable {X : Cx}
def iEnumA (K : PySem.W.Frag) (ta : TA) : TI := fun σ H R => ta σ H fun vs H1 => ∃ a xs, vs = [V.ref a] ∧ ((SqL K H1 a xs ∧ R (Ite K a) H1) ∨ (SqT K H1 a xs ∧ R (IteT K a) H1))
theorem pi_enumA {e : Expr} {ta : TA} {p pos tpos : Pos} {elts : List Expr} {kk : Nat} (hg : Gl X "enumerate") (hm : X.mg "enumerate" = none) (ha : PA X [e] ta) (hs : starEach [e] X.env = [(false, eval e X.env)] := by rfl) :
    PI X (.Tuple elts kk tpos) (.Call (.Name "enumerate" p) [e] [] pos) (iEnumA X.K ta) := by
  refine ⟨fun pins s σ H R I h => ?_⟩
  refine Call_ (ld_blt I hg hm boot_enumerate (PyProof.Rows.callWith_type1 (thn (ha.run pos pins s σ H _ I h) fun us s1 ⟨vs, H1, I1, r1, q1⟩ => ?_) hs rfl))
  obtain ⟨a, xs, ex, q⟩ := q1
  subst ex
  have fresh2 : ∀ b ∈ [s1.heap.objs.size + 1, s1.heap.objs.size], FpOk X pins H1 b := by
    intro b hb
    have e' : b = s1.heap.objs.size + 1 ∨ b = s1.heap.objs.size := by simpa using hb
    have hle : s1.heap.objs.size ≤ b := by rcases e' with z | z <;> omega
    exact I1.fpOk hle (I1.hok.fresh hle)
  cases r1 with
  | cons r rr =>
    cases rr
    cases r
    rcases q with ⟨hq, q⟩ | ⟨hq, q⟩
    · obtain ⟨its, rv, p', hz⟩ := I1.list hq
      refine call_enumerate_list p'.isList fun h' he hit hsz hk => wpAny_pyIter_enum he ?_
      have I2 : Inv X pins σ H1 { s1 with heap := h' } := I1.kept (t' := s1.toks) hk
      exact ⟨_, _, _, _, H1, rfl, I2, turn_enum a (s1.heap.objs.size + 1) s1.heap.objs.size, ⟨⟨.none, he⟩, hit, Nat.succ_ne_self _⟩, fresh2, q⟩
    · obtain ⟨its, rv, p', hz⟩ := I1.tuple hq
      have p2 : s1.heap.IsTuple a its.toArray := p'
      refine dd_call_enumT p2 fun h' he hit hsz hk => wpAny_pyIter_enum he ?_
      have I2 : Inv X pins σ H1 { s1 with heap := h' } := I1.kept (t' := s1.toks) hk
      exact ⟨_, _, _, _, H1, rfl, I2, turn_enumT a (s1.heap.objs.size + 1) s1.heap.objs.size, ⟨⟨.none, he⟩, hit, Nat.succ_ne_self _⟩, fresh2, q⟩
/-- (0, x), (1, y), .. -/
def enumD (xs : List D) : List D := (List.range xs.length).map fun (i : Nat) => D.tup [.int (i : Int), xs.getD i .non]
theorem enumD_length (xs : List D) : (enumD xs).length = xs.length := by simp [enumD]
theorem enumD_get {xs : List D} {i : Nat} {x : D} (h : xs[i]? = some x) : (enumD xs)[i]? = some (.tup [.int (i : Int), x]) := by
  have hi := (List.getElem?_eq_some_iff.mp h).1
  simp [enumD, List.getElem?_map, List.getElem?_range hi, h]
theorem new_tup {K : PySem.W.Frag} {H : Hp} {M : Mem} {T : Addr} {ds : List D} {vs : List V} (m : RM K H M) (hT : H T = none) (r : RVs K H ds vs) :
    Ext K H (upd H T (.tup vs)) ∧ RV K (upd H T (.tup vs)) (.tup ds) (.ref T) ∧ RM K (upd H T (.tup vs)) M :=
  ⟨Ext.new hT, ⟨T, vs, rfl, .inl (.inl upd_same), r.ext (Ext.new hT)⟩, rm_skip m hT⟩
theorem ite_ok {K : PySem.W.Frag} {H1 : Hp} {a : Addr} {xs : List D} {ok : Mem → Prop} (h : ∀ H M, Ext K H1 H → RM K H M → ok M → ∃ vs, SqL K H a vs ∧ RVs K H xs vs) : ItOk K H1 (Ite K a) (enumD xs) ok where
  go := fun i H M e m o hi => by
    rw [enumD_length] at hi
    obtain ⟨vs, s, r⟩ := h H M e m o
    obtain ⟨v, hv, _⟩ := r.get (List.getElem?_eq_getElem hi)
    exact ⟨vs, v, s, hv⟩
  yld := fun i H M v H' e m o hi y => by
    rw [enumD_length] at hi
    obtain ⟨vs, s, r⟩ := h H M e m o
    obtain ⟨T, x, rfl, hT, rfl, hx⟩ := y
    obtain ⟨u, hu, ru⟩ := r.get (List.getElem?_eq_getElem hi)
    have z := (hx vs s).symm.trans hu
    cases z
    obtain ⟨a1, a2, a3⟩ := new_tup m hT (ds := [.int (i : Int), xs[i]]) (.cons rfl (.cons ru .nil))
    exact ⟨_, enumD_get (List.getElem?_eq_getElem hi), a1, a2, a3⟩
  stop := fun i H M e m o hi => by
    rw [enumD_length] at hi
    obtain ⟨vs, s, r⟩ := h H M e m o
    exact ⟨vs, s, by rw [← r.length]; exact hi⟩
theorem iteT_ok {K : PySem.W.Frag} {H1 : Hp} {a : Addr} {xs : List D} {vs : List V} {ok : Mem → Prop} (s : SqT K H1 a vs) (r : RVs K H1 xs vs) : ItOk K H1 (IteT K a) (enumD xs) ok where
  go := fun i H M e m o hi => by
    rw [enumD_length] at hi
    obtain ⟨v, hv, _⟩ := r.get (List.getElem?_eq_getElem hi)
    exact ⟨vs, v, e.sqT s, hv⟩
  yld := fun i H M v H' e m o hi y => by
    rw [enumD_length] at hi
    obtain ⟨T, x, rfl, hT, rfl, hx⟩ := y
    obtain ⟨u, hu, ru⟩ := (r.ext e).get (List.getElem?_eq_getElem hi)
    have z := (hx vs (e.sqT s)).symm.trans hu
    cases z
    obtain ⟨a1, a2, a3⟩ := new_tup m hT (ds := [.int (i : Int), xs[i]]) (.cons rfl (.cons ru .nil))
    exact ⟨_, enumD_get (List.getElem?_eq_getElem hi), a1, a2, a3⟩
  stop := fun i H M e m o hi => by
    rw [enumD_length] at hi
    exact ⟨vs, e.sqT s, by rw [← r.length]; exact hi⟩
def iEnumerate (t : DA) : DI := fun δ M R => t δ M fun ds M1 => match ds with
  | [d] => match srcD M1 d with
    | some (xs, ok) => R (enumD xs) ok M1
    | none => False
  | _ => False
theorem src_imp2 {K : PySem.W.Frag} {H : Hp} {M : Mem} {d : D} {xs : List D} {ok : Mem → Prop} {v : V} (m : RM K H M) (e : srcD M d = some (xs, ok)) (h : RV K H d v) :
    (∃ a vs, v = .ref a ∧ SqL K H a vs ∧ RVs K H xs vs ∧ ∀ H' M', Ext K H H' → RM K H' M' → ok M' → ∃ vs, SqL K H' a vs ∧ RVs K H' xs vs) ∨ (∃ a vs, v = .ref a ∧ SqT K H a vs ∧ RVs K H xs vs) := by
  unfold srcD at e
  split at e
  · cases e
    obtain ⟨a, vs, rfl, s, r⟩ := h
    exact .inr ⟨a, vs, rfl, s, r⟩
  · cases e
    obtain ⟨a, vs, rfl, s, r⟩ := h
    exact .inl ⟨a, vs, rfl, s.sq, r, fun H' M' e' m' _ => ⟨vs, (e'.rol s).sq, r.ext e'⟩⟩
  · cases h
    split at e
    · rename_i ys he
      cases e
      obtain ⟨vs, a1, q1⟩ := rm_lst m he
      refine .inl ⟨_, vs, rfl, .inl (.inl a1), q1, fun H' M' e' m' o => ?_⟩
      obtain ⟨ws, a2, q2⟩ := rm_lst m' o
      exact ⟨ws, .inl (.inl a2), q2⟩
    · cases e
  · cases e
theorem pdi_enumerate {e : Expr} {ta : DA} {p pos tpos : Pos} {elts : List Expr} {kk : Nat} (hg : Gl X "enumerate") (hm : X.mg "enumerate" = none) (ha : PDA X [e] ta) (hs : starEach [e] X.env = [(false, eval e X.env)] := by rfl) :
    PDI X (.Tuple elts kk tpos) (.Call (.Name "enumerate" p) [e] [] pos) (iEnumerate ta) := ⟨PI_imp (pi_enumA hg hm ha.pa hs) fun σ H Q q => by
  obtain ⟨δ, M, R, S, m, h, k⟩ := q
  refine ⟨δ, M, _, S, m, h, fun ds M1 vs H1 h1 e1 r1 m1 => ?_⟩
  split at h1
  · obtain ⟨v, ws, rfl, q1, t⟩ := r1
    cases t
    split at h1
    · rename_i xs ok he
      rcases src_imp2 m1 he q1 with ⟨a, us, rfl, s, rv, it⟩ | ⟨a, us, rfl, s, rv⟩
      · exact ⟨a, us, rfl, .inl ⟨s, k _ _ M1 _ H1 h1 e1 m1 (ite_ok it)⟩⟩
      · exact ⟨a, us, rfl, .inr ⟨s, k _ _ M1 _ H1 h1 e1 m1 (iteT_ok s rv)⟩⟩
    · exact h1.elim
  · exact h1.elim⟩
end
end DD
end
section
namespace DD
open PySem PySem.Spec PyProof.Rows L2
/-- the built-in names that the module leaves alone -/
structure NB (W : Wd) : Prop where
  len : W.mg "len" = none
  abs : W.mg "abs" = none
  sum : W.mg "sum" = none
  min : W.mg "min" = none
  max : W.mg "max" = none
  any : W.mg "any" = none
  all : W.mg "all" = none
  sorted : W.mg "sorted" = none
  isinstance : W.mg "isinstance" = none
  int_ : W.mg "int" = none
  bool_ : W.mg "bool" = none
  str_ : W.mg "str" = none
  list_ : W.mg "list" = none
  tuple_ : W.mg "tuple" = none
  dict_ : W.mg "dict" = none
  set_ : W.mg "set" = none
  range : W.mg "range" = none
  enumerate : W.mg "enumerate" = none
  zip : W.mg "zip" = none
  reversed : W.mg "reversed" = none
/-- a constant of the module -/
structure GConst (W : Wd) (x : Str) (d : D) : Prop where
  ex : ∃ u v, W.mg x = some u ∧ RelV v u ∧ ∀ H, RV W.K H d v
section
variable {X : Cx} {W : Wd} {k : Nat}
theorem In.blk {s : Shared} {H : Hp} {scope : Scope} {cenv : Env} {fp : List Addr} (hi : In X W k) : In (X.blk s H scope cenv fp) W k := ⟨hi.P, hi.w, hi.K, hi.mg, hi.base, hi.room⟩
theorem GConst.pd {x : Str} {d : D} {pos : Pos} (g : GConst W x d) (hi : In X W k) (hg : Gl X x) (hd : (x == ("__debug__" : Str)) = false := by decide) : PD X (.Name x pos) (dC d) := by
  obtain ⟨u, v, hm, r, hr⟩ := g.ex
  refine pd_c (pe_glob hg (by rw [hi.mg]; exact hm) r hd) fun H => ?_
  rw [hi.K]
  exact hr H
theorem pd_ty {x : Str} {n : String} {pos : Pos} (hg : Gl X x) (hm : X.mg x = none) (hv : bootBuiltins x = some (.type n)) (hn : x ≠ "__name__" := by decide) (hd : (x == ("__debug__" : Str)) = false := by decide) : PD X (.Name x pos) (dC (.ty n)) :=
  pd_c (v := .ty n) (pe_bltn hg hm hv rfl hn hd) fun _ => rfl
/-! ### n += 1 of a field -/
abbrev gAddI : D2 := gI0 fun i j => .int (i + j)
theorem in_addI : InOp X .Add rAdd := in_add
theorem od_addI {K : PySem.W.Frag} : IpD K rAdd gAddI := by
  intro x y M R H v w Q q m rx ry k
  unfold gAddI gI0 at q
  split at q
  · cases rx; cases ry
    exact ⟨_, _, rfl, rfl, kq_keep k m q rfl⟩
  · exact q.elim
theorem od_iadd {K : PySem.W.Frag} : OpD K (rI0 fun i j => .int (i + j)) gAddI := od_I0 fun _ _ _ => rfl
/-! ### isinstance of a value and a built-in type -/
def tyD (M : Mem) : D → Option String
  | .non => some "NoneType"
  | .bl _ => some "bool"
  | .int _ => some "int"
  | .str _ => some "str"
  | .tup _ => some "tuple"
  | .rol _ => some "list"
  | .ref a => match M a with
    | some (.lst _) => some "list"
    | some (.dK _) => some "dict"
    | _ => none
  | .ty _ => none
  | .pup _ => none
def isB (a b : String) : Bool := a == b || (a == "bool" && b == "int")
theorem kit_isB : ∀ a ∈ ["NoneType", "bool", "int", "str", "tuple", "list", "dict"], ∀ b ∈ ["bool", "int", "str", "tuple", "list", "dict"], kitB a b = some (isB a b) := by decide +kernel
theorem tyD_mem {M : Mem} {d : D} {a : String} (h : tyD M d = some a) : a ∈ ["NoneType", "bool", "int", "str", "tuple", "list", "dict"] := by
  cases d with
  | ref p =>
    have h : (match M p with
      | some (.lst _) => some "list"
      | some (.dK _) => some "dict"
      | _ => none) = some a := h
    split at h <;> first | (cases h; simp) | cases h
  | ty n => cases h
  | pup n => cases h
  | _ => cases h; simp
theorem tyD_x {K : PySem.W.Frag} {H : Hp} {M : Mem} {d : D} {a : String} {v : V} (m : RM K H M) (h : tyD M d = some a) (r : RV K H d v) : TyX K H v (.type a) := by
  cases d with
  | non => cases h; cases r; exact .base .non
  | bl b => cases h; cases r; exact .base (.bl b)
  | int b => cases h; cases r; exact .base (.int b)
  | str b => cases h; cases r; exact .base (.str b)
  | ty n => cases h
  | pup n => cases h
  | tup ds =>
    cases h
    obtain ⟨p, vs, rfl, s, _⟩ := r
    rcases s with (s | ⟨o, s⟩) | ⟨o, its, n, hk, hc, _⟩
    · exact .base (.tup s)
    · exact .fTuple s
    · exact .kTuple hk hc
  | rol ds =>
    cases h
    obtain ⟨p, vs, rfl, s, _⟩ := r
    rcases s with ⟨o, s⟩ | ⟨o, its, n, hk, hc, _⟩
    · exact .base (.frz s)
    · exact .kList hk hc
  | ref p =>
    cases r
    have h : (match M p with
      | some (.lst _) => some "list"
      | some (.dK _) => some "dict"
      | _ => none) = some a := h
    split at h
    · rename_i xs he
      cases h
      obtain ⟨us, a1, _⟩ := rm_lst m he
      exact .base (.lst a1)
    · rename_i xs he
      cases h
      obtain ⟨us, a1, _⟩ := m _ _ he
      exact .base (.dK a1)
    · cases h
def gIsi : DC1 := fun xs M R => match xs with
  | [d, .ty n] => match tyD M d with
    | some a => n ∈ ["bool", "int", "str", "tuple", "list", "dict"] ∧ R (.bl (isB a n)) M
    | none => False
  | _ => False
theorem cd_isi {K : PySem.W.Frag} : CallD K (rIsi K) gIsi := by
  intro xs M R H vs Q g m r k
  unfold gIsi at g
  split at g
  · obtain ⟨v, ws, rfl, q, v2, w2, rfl, q2, t⟩ := r
    cases t; cases q2
    split at g
    · rename_i a ha
      exact ⟨v, .ty _, .type a, .type _, isB a _, rfl, .ty _, tyD_x m ha q, kit_ty (kit_isB a (tyD_mem ha) _ g.1), kq_keep k m g.2 rfl⟩
    · exact g.elim
  · exact g.elim

/-! ### sorted(xs), xs a list of data that can be compared -/
def toP (d : D) : PyData := (pyd d).getD .none
theorem pyds_map : ∀ {xs : List D} {ps : List PyData}, pyds xs = some ps → ps = xs.map toP ∧ ∀ x ∈ xs, pyd x = some (toP x)
  | [], _, h => by cases h; exact ⟨rfl, fun _ z => nomatch z⟩
  | x :: xs, ps, h => by
    unfold pyds at h
    split at h
    · rename_i y ys h1 h2
      cases h
      obtain ⟨a, b⟩ := pyds_map h2
      refine ⟨?_, fun z hz => ?_⟩
      · rw [a, List.map_cons]
        unfold toP
        rw [h1]; rfl
      · rcases List.mem_cons.mp hz with rfl | hz
        · unfold toP
          rw [h1]; rfl
        · exact b z hz
    · cases h
def dLe : D → D → Bool := PySem.W.dataLe false toP
def gSorted : DC1 := fun xs M R => match xs with
  | [d] => match itemsD M d with
    | some ys => isLst d M ∧ (∃ ps, pyds ys = some ps) ∧ PySem.W.AllAlike (ys.map toP) ∧ PySem.W.Sortable (ys.map toP) ∧ (∀ y ∈ ys, (toP y).depth ≤ 60) ∧ ys.length ≤ sizeLine ∧
      ∃ M0, Sub M0 M ∧ ∀ p, M0 p = none → R (.ref p) (updM M0 p (.lst (ys.mergeSort dLe)))
    | none => False
  | _ => False
theorem each_of {K : PySem.W.Frag} {H : Hp} : ∀ {ds : List D} {vs : List V} {us : List Value}, RVs K H ds vs → Vals vs us → PySem.W.EachIs (fun u d => ∃ v, RelV v u ∧ RV K H d v) us ds
  | [], _, _, h, r => by cases h; cases r; exact .nil
  | d :: ds, _, _, h, r => by
    obtain ⟨v, ws, rfl, q, t⟩ := h
    cases r with
    | cons r1 r2 => exact .cons ⟨v, r1, q⟩ (each_of t r2)
theorem of_each {K : PySem.W.Frag} {H : Hp} : ∀ {ds : List D} {us : List Value}, PySem.W.EachIs (fun u d => ∃ v, RelV v u ∧ RV K H d v) us ds → ∃ vs, RVs K H ds vs ∧ Vals vs us
  | _, _, .nil => ⟨[], .nil, .nil⟩
  | _, _, .cons ⟨v, r, q⟩ t => by
    obtain ⟨vs, a, b⟩ := of_each t
    exact ⟨v :: vs, .cons q a, .cons r b⟩
def rSortedD (K : PySem.W.Frag) : List V → Hp → VK → Prop := fun vs H Q => ∃ (a : Addr) (xs : List V) (ds : List D), vs = [V.ref a] ∧ H a = some (.lst xs) ∧ RVs K H ds xs ∧ (∀ x ∈ ds, pyd x = some (toP x)) ∧ PySem.W.AllAlike (ds.map toP) ∧ PySem.W.Sortable (ds.map toP) ∧ (∀ y ∈ ds, (toP y).depth ≤ 60) ∧
  ∀ p ys, RVs K H (ds.mergeSort dLe) ys → H p = none → Q (.ref p) (upd H p (.lst ys))
theorem cr_sortedD (hu : X.A.units + 64 < cLine) : CallR X (.builtin "sorted") (rSortedD X.K) := by
  intro pins s σ H vs us Q I r h
  obtain ⟨a, xs, ds, rfl, hs, rd, hp, hal, hso, hdp, q⟩ := h
  obtain ⟨its, rv, hl, hz⟩ := I.list (.inl (.inl hs))
  rw [Vals.ref1 r]
  have e := each_of rd rv
  have er : PySem.W.EachIs (fun v b => ∃ as, Reads s.heap v (toP b) as) its ds := by
    have gen : ∀ {us : List Value} {ds : List D}, (∀ x ∈ ds, pyd x = some (toP x)) → PySem.W.EachIs (fun u d => ∃ v, RelV v u ∧ RV X.K H d v) us ds → PySem.W.EachIs (fun v b => ∃ as, Reads s.heap v (toP b) as) us ds := by
      intro us ds hp e
      induction e with
      | nil => exact .nil
      | cons h t ih =>
        obtain ⟨v, r1, q1⟩ := h
        exact .cons (Dp.reads I _ v _ (pyd_dp (hp _ List.mem_cons_self) q1) r1) (ih fun x hx => hp x (List.mem_cons_of_mem _ hx))
    exact gen hp e
  have hlen : ds.length = its.length := rd.length.trans rv.length
  refine PySem.W.sorted_data hl.isList e er hal hso (by rw [rd.length]; exact hz) (fun b hb => by have := hdp b hb; omega) fun out ho eo => ?_
  obtain ⟨ys, b1, b2⟩ := of_each eo
  have hfr : H (s.heap.objs.size + 1) = none := I.hok.fresh (Nat.le_succ _)
  obtain ⟨n, hn⟩ := PyProof.Rows.sortedAll_at s.heap its out.toArray
  refine ⟨.ref (s.heap.objs.size + 1), upd H (s.heap.objs.size + 1) (.lst ys), I.laid (t' := s.toks) (fun b o e => PyProof.Rows.sortedAll_old e) (Nat.le_succ _) ⟨?_, out, n, b2, hn⟩, rfl, q _ ys b1 hfr⟩
  rw [b2.length, ho, rd.length]
  exact hz
theorem cd_sorted {K : PySem.W.Frag} : CallD K (rSortedD K) gSorted := by
  intro xs M R H vs Q g m r k
  unfold gSorted at g
  split at g
  · rename_i d
    obtain ⟨v, ws, rfl, q, t⟩ := r
    cases t
    split at g
    · rename_i ys he
      obtain ⟨hl, ⟨ps, hp⟩, h1, h2, h3, h4, M0, hs, g⟩ := g
      unfold isLst at hl
      split at hl
      · rename_i a
        cases q
        split at hl
        · rename_i zs hz
          have e2 : itemsD M (.ref a) = some zs := by
            show (match M a with
              | some (.lst xs) => some xs
              | _ => none) = some zs
            rw [hz]
          rw [e2] at he
          cases he
          obtain ⟨us, a1, r2⟩ := rm_lst m hz
          exact ⟨a, us, _, rfl, a1, r2, (pyds_map hp).2, h1, h2, h3, fun p ws rw' hp' => kq_new k (rm_sub m hs) hp' rw' (g p (rm_none (rm_sub m hs) hp'))⟩
        · exact hl.elim
      · exact hl.elim
    · exact g.elim
  · exact g.elim
/-! ### gcd -/
def gGcd : DC1 := fun xs M R => match xs with
  | [.int a, .int b] => R (.int ((Nat.gcd a.natAbs b.natAbs : Nat) : Int)) M
  | _ => False
theorem cd_gcd {K : PySem.W.Frag} : CallD K rGcd gGcd := by
  intro xs M R H vs Q g m r k
  unfold gGcd at g
  split at g
  · obtain ⟨v, ws, rfl, q, v2, w2, rfl, q2, t⟩ := r
    cases t; cases q; cases q2
    exact ⟨_, _, rfl, kq_keep k m g rfl⟩
  · exact g.elim
/-! ### f(k = v, ..), keywords alone -/
structure PDK (X : Cx) (kws : List Keyword) (t : DA) : Prop where
  pk : PK X kws (liftA X.K t)
theorem PK_imp {kws : List Keyword} {t t' : TA} (h : PK X kws t) (f : ∀ σ H Q, t' σ H Q → t σ H Q) : PK X kws t' := ⟨fun pos pins s σ H Q I q => h.run pos pins s σ H Q I (f _ _ _ q)⟩
theorem pdk_nil : PDK X [] aNil := ⟨PK_imp pk_nil fun σ H Q h => by
  obtain ⟨δ, M, R, S, m, h, k⟩ := h
  exact k [] M [] H h (Ext.refl H) .nil m⟩
theorem pdk_cons {nm : Option Str} {kpos : Pos} {e : Expr} {kws : List Keyword} {te : DE} {t : DA} (ha : PD X e te) (hr : PDK X kws t) : PDK X (⟨nm, e, kpos⟩ :: kws) (aCons te t) := ⟨PK_imp (pk_cons ha.pe hr.pk) fun σ H Q h => by
  obtain ⟨δ, M, R, S, m, h, k⟩ := h
  refine ⟨δ, M, _, S, m, h, fun x M1 v H1 h1 e1 r1 m1 => ?_⟩
  refine ⟨δ, M1, _, S.ext e1, m1, h1, fun xs M2 vs H2 h2 e2 r2 m2 => ?_⟩
  exact k _ M2 _ H2 h2 (e1.trans e2) (.cons (r1.ext e2) r2) m2⟩
/-- the items at these places -/
def permL {α : Type} (is : List Nat) (xs : List α) : List α := is.filterMap fun i => xs[i]?
theorem permL_rel {K : PySem.W.Frag} {H : Hp} {ds : List D} {vs : List V} (r : RVs K H ds vs) : ∀ is : List Nat, RVs K H (permL is ds) (permL is vs)
  | [] => .nil
  | i :: is => by
    unfold permL
    rw [List.filterMap_cons, List.filterMap_cons]
    cases e : ds[i]? with
    | none =>
      have : vs[i]? = none := by
        rw [List.getElem?_eq_none_iff] at e ⊢
        rw [← r.length]; exact e
      rw [this]
      exact permL_rel r is
    | some d =>
      obtain ⟨v, a, b⟩ := r.get e
      rw [a]
      exact .cons b (permL_rel r is)
theorem permL_vals {vs : List V} {us : List Value} (r : Vals vs us) : ∀ is : List Nat, Vals (permL is vs) (permL is us)
  | [] => .nil
  | i :: is => by
    unfold permL
    rw [List.filterMap_cons, List.filterMap_cons]
    cases e : vs[i]? with
    | none =>
      rw [r.none_of e]
      exact permL_vals r is
    | some d =>
      obtain ⟨v, a, b⟩ := r.get e
      rw [a]
      exact .cons b (permL_vals r is)
/-- a def that may be called by these keywords alone -/
structure GFnK (W : Wd) (k : Nat) (x : Str) (ps : List Str) (sp : DSp) (ks : List Str) (is : List Nat) : Prop where
  ex : ∃ f fd, W.mg x = some (.ref f) ∧ DFn W k f fd ps sp ∧ ∀ (s : Shared) (ws : List Value), ws.length = ks.length → BindsTo s fd ⟨[], ks.zip ws⟩ (ps.zip (permL is ws))
def dCallK (sp : DSp) (is : List Nat) (n : Nat) (t : DA) : DE := fun δ M R => t δ M fun ds M1 => ds.length = n ∧ sp (permL is ds) M1 R
theorem pd_callK {x : Str} {ps ks : List Str} {sp : DSp} {is : List Nat} {p pos : Pos} {kws : List Keyword} {t : DA} (F : GFnK W k x ps sp ks is) (hi : In X W k) (hg : Gl X x) (hkw : PDK X kws t)
    (hall : (backToKw pos (keywordEach kws X.env)).all (·.1.isSome) = true := by rfl) (hks : (backToKw pos (keywordEach kws X.env)).filterMap (·.1) = ks := by rfl)
    (hdb : (x == ("__debug__" : Str)) = false := by decide)
    (hpl : ((backTo pos (starEach [] X.env)).any (·.1) || (backToKw pos (keywordEach kws X.env)).any (·.1.isNone)) = false := by rfl) :
    PD X (.Call (.Name x p) [] kws pos) (dCallK sp is ks.length t) := by
  obtain ⟨f, fd, hm, G, hb⟩ := F.ex
  obtain ⟨ok, len, bd, kp⟩ := G
  rw [← hi.P, ← hi.w, ← hi.K, ← hi.mg, ← hi.base] at ok
  rw [← hi.K] at kp
  rw [← hi.mg] at hm
  refine ⟨⟨fun pins s σ H Q I h => ?_⟩⟩
  obtain ⟨δ, M, R, S, m, h, kk⟩ := h
  refine wpAny_Call_Name_kw (ld_glob I hg hm ?_ hdb)
  refine PySem.W.callWith_KW0 (h₀ := X.base) I.ok.mod.kin kp hall (thn (hkw.pk.run pos pins s σ H (fun vs H1 => vs.length = ks.length ∧ liftSp X.K sp (permL is vs) H1 Q E0) I ?_) fun ws s2 ⟨zs, H2, I2, rz, hn, q2⟩ => ⟨I2.kIn, ?_⟩) hpl
  · refine ⟨δ, M, _, S, m, h, fun ds M1 vs H1 h1 e1 r1 m1 => ⟨by rw [← r1.length]; exact h1.1, permL is ds, M1, R, permL_rel r1 is, m1, h1.2, kk.ext e1⟩⟩
  · rw [hks]
    show wpAny _ _ (call (.ref f) [] (ks.zip ws)) _ _ _
    refine wpAny_call (codeAny_mono (ok.run X.A X.stack s2 H2 ⟨[], ks.zip ws⟩ (permL is ws) (permL is zs) Q E0 hi.room I2.env0 (hb s2 ws (by rw [← rz.length]; exact hn)) (permL_vals rz is) q2) fun r s' hq => ?_)
    cases r with
    | error e => exact hq.elim
    | ok fl =>
      cases fl with
      | ret u => exact I2.after hq
      | next => exact False.elim hq
      | brk => exact False.elim hq
      | cont => exact False.elim hq
end
end DD
end
section
namespace DD
open PySem PySem.Spec PyProof.Rows L2 GxR
/-! ### the table of code objects -/
theorem rm_tab {K : PySem.W.Frag} {H H' : Hp} {M : Mem} {P : Addr} (m : RM K H M) (t : M P = some .tbl) (h : Tabbed P H H') : RM K H' M ∧ Ext K H H' := by
  obtain ⟨ps, h1, h2⟩ := m P _ t
  obtain ⟨⟨qs, q1, q2⟩, ne⟩ := h
  have e : Ext K H H' := ⟨fun a xs e => by
    have : a ≠ P := fun z => by rw [z, h1] at e; cases e
    rw [ne a this]; exact e, fun a o xs e => by
    have : a ≠ P := fun z => by rw [z, h1] at e; cases e
    rw [ne a this]; exact e⟩
  refine ⟨fun a o ha => ?_, e⟩
  by_cases hp : a = P
  · subst hp
    rw [t] at ha; cases ha
    exact ⟨qs, q1, q2⟩
  · exact ro_stay e (ne a hp) (m a o ha)
theorem tab_of {K : PySem.W.Frag} {H : Hp} {M : Mem} {P : Addr} (m : RM K H M) (t : M P = some .tbl) : TabG H P := m P _ t
/-- the generator expression's own scope, two names -/
structure GenS2 (env : Env) (scope : Scope) (xa xb : Str) : Prop where
  kind : scope.kind = .function
  co : scope.isCoroutine = false
  cell : ∀ y ∈ scope.names, y.2 ≠ .cell
  dot : scope.names.lookup (".0" : Str) = some NameKind.local
  la : scope.names.lookup xa = some .local
  lb : scope.names.lookup xb = some .local
  ne : xa ≠ xb
  free : ∀ y ∈ scope.names, y.2 = .free → ∃ c, env.cells.lookup y.1 = some c
theorem genS2_plain {env : Env} {scope : Scope} {xa xb : Str} (kind : scope.kind = .function) (co : scope.isCoroutine = false) (cf : ∀ y ∈ scope.names, y.2 ≠ .cell ∧ y.2 ≠ .free) (dot : scope.names.lookup (".0" : Str) = some NameKind.local)
    (la : scope.names.lookup xa = some .local) (lb : scope.names.lookup xb = some .local) (ne : xa ≠ xb) : GenS2 env scope xa xb := ⟨kind, co, fun y hy => (cf y hy).1, dot, la, lb, ne, fun y hy e => absurd e (cf y hy).2⟩
/-- a quiet element over two ints -/
def QE2 (prog : Program) (w : World) (scope : Scope) (xa xb : Str) (e : Expr) (C : Int → Int → Prop) (f : Int → Int → Int) : Prop :=
  ∀ (cenv : Env) (A' : Around) (E' : Value → Shared → Prop) (i n : Int) (t u : Tok) (s₂ : Shared) (m₂ : Str → Option Value), cenv.scope = scope → s₂.heap.Ns cenv.locals m₂ → m₂ xa = some (.int i t) → m₂ xb = some (.int n u) → C i n →
    wpAny (model prog w) A' (eval e cenv) (fun y s₃ => (∃ t, y = .int (f i n) t) ∧ Keeps s₂ s₃) E' s₂
theorem keeps_then {s s1 s2 : Shared} (a : Keeps s s1) (b : Keeps s1 s2) : Keeps s s2 := by
  obtain ⟨h1, t1, rfl, k1⟩ := a
  obtain ⟨h2, t2, rfl, k2⟩ := b
  exact ⟨h2, t2, rfl, fun b o e => k2 b o (k1 b o e)⟩
section
variable {prog : Program} {w : World} {scope : Scope} {xa xb : Str} {pos : Pos}
theorem qe_a {C : Int → Int → Prop} (hk : scope.kind = .function) (hl : scope.names.lookup xa = some .local) (hd : (xa == ("__debug__" : Str)) = false := by decide) : QE2 prog w scope xa xb (.Name xa pos) C (fun i _ => i) := by
  intro cenv A' E' i n t u s₂ m₂ hs hn ha hb _
  exact wpAny_Name (wpAny_loadName_local (by rw [hs]; exact hk) (show cenv.scope.names.lookup xa = some .local by rw [hs]; exact hl) hn ha ⟨⟨t, rfl⟩, keeps_refl _⟩) hd
theorem qe_b {C : Int → Int → Prop} (hk : scope.kind = .function) (hl : scope.names.lookup xb = some .local) (hd : (xb == ("__debug__" : Str)) = false := by decide) : QE2 prog w scope xa xb (.Name xb pos) C (fun _ n => n) := by
  intro cenv A' E' i n t u s₂ m₂ hs hn ha hb _
  exact wpAny_Name (wpAny_loadName_local (by rw [hs]; exact hk) (show cenv.scope.names.lookup xb = some .local by rw [hs]; exact hl) hn hb ⟨⟨u, rfl⟩, keeps_refl _⟩) hd
theorem qe_c {C : Int → Int → Prop} {j : Int} {kk : Nat} : QE2 prog w scope xa xb (.Constant (.int j) kk pos) C (fun _ _ => j) := by
  intro cenv A' E' i n t u s₂ m₂ hs hn ha hb _
  exact wpAny_Constant_int ⟨⟨_, rfl⟩, keeps_tok _ _⟩
theorem qe_add {C : Int → Int → Prop} {a b : Expr} {f g : Int → Int → Int} (ha : QE2 prog w scope xa xb a C f) (hb : QE2 prog w scope xa xb b C g) : QE2 prog w scope xa xb (.BinOp a .Add b pos) C (fun i n => f i n + g i n) := by
  intro cenv A' E' i n t u s₂ m₂ hs hn h1 h2 hc
  refine wpAny_BinOp (wpAny_mono (ha cenv A' E' i n t u s₂ m₂ hs hn h1 h2 hc) (fun x s3 r => ?_) fun _ _ e => e)
  obtain ⟨⟨t3, rfl⟩, k3⟩ := r
  refine wpAny_mono (hb cenv A' E' i n t u s3 m₂ hs (by obtain ⟨h, tk, rfl, kk⟩ := k3; exact hn.keeps kk) h1 h2 hc) (fun y s4 r => ?_) fun _ _ e => e
  obtain ⟨⟨t4, rfl⟩, k4⟩ := r
  exact PySem.P.add_int ⟨⟨_, rfl⟩, keeps_then k3 (keeps_then k4 (keeps_tok _ _))⟩
theorem qe_mul {C : Int → Int → Prop} {a b : Expr} {f g : Int → Int → Int} (ha : QE2 prog w scope xa xb a C f) (hb : QE2 prog w scope xa xb b C g) (hm : ∀ i n, C i n → MulOk (f i n) (g i n)) : QE2 prog w scope xa xb (.BinOp a .Mult b pos) C (fun i n => f i n * g i n) := by
  intro cenv A' E' i n t u s₂ m₂ hs hn h1 h2 hc
  refine wpAny_BinOp (wpAny_mono (ha cenv A' E' i n t u s₂ m₂ hs hn h1 h2 hc) (fun x s3 r => ?_) fun _ _ e => e)
  obtain ⟨⟨t3, rfl⟩, k3⟩ := r
  refine wpAny_mono (hb cenv A' E' i n t u s3 m₂ hs (by obtain ⟨h, tk, rfl, kk⟩ := k3; exact hn.keeps kk) h1 h2 hc) (fun y s4 r => ?_) fun _ _ e => e
  obtain ⟨⟨t4, rfl⟩, k4⟩ := r
  exact PyProof.Rows.mul_int ⟨⟨_, rfl⟩, keeps_then k3 (keeps_then k4 (keeps_tok _ _))⟩ (hm i n hc).ok
end
section
variable {X : Cx} {pins : List (Addr × Obj)} {σ : L2.St} {H : Hp} {s : Shared}
/-- the generator g of ints, ready to be walked -/
def ReadyI (X : Cx) (pins : List (Addr × Obj)) (σ : L2.St) (H1 : Hp) (P : Addr) (n : Nat) (val : Nat → Int) (g : Addr) (s5 : Shared) : Prop :=
  ∃ (fp wr : List Addr) (G : Array GenState → Array GenState → Prop) (F : Nat → Value → Prop) (St : Nat → Shared → Prop),
    WalksS X.prog X.w X.A.in1 g fp wr G n F St ∧ St 0 s5 ∧ (∀ b ∈ fp, b < s5.heap.objs.size) ∧ (∀ i v, F i v → ∃ t, v = .int (val i) t) ∧
    ∀ s', Moved wr G s5 s' → ∃ H2, Tabbed P H1 H2 ∧ Inv X pins σ H2 s'
theorem passing_all (n : Nat) : passing (fun _ => true) n 0 = List.range n := GxR.passing_true n
theorem gen_enumI {c P : Addr} {elt e : Expr} {xa xb : Str} {pa pb pt p ipos gpos : Pos} {kt : Nat} {scope : Scope} {C : Int → Int → Prop} {f : Int → Int → Int} {ta : TA} {k : Nat} {Q' : Value → Shared → Prop} {R : List Int → Hp → Prop}
    (hr : Room k X.A) (TB : TabB X.base X.mg c P) (hcode : X.env.code = .ref c) (S : GenS2 X.env scope xa xb) (hg : Gl X "enumerate") (hm : X.mg "enumerate" = none) (ha : PA X [e] ta) (hel : QE2 X.prog X.w scope xa xb elt C f)
    (hs : ∀ v, genFold (.Call (.Name "enumerate" p) [e] [] ipos) X.env v = pure v) (hse : starEach [e] X.env = [(false, eval e X.env)]) (I : Inv X pins σ H s)
    (h : ta σ H fun vs H1 => ∃ a ns, vs = [V.ref a] ∧ SqT X.K H1 a (ns.map V.int) ∧ TabG H1 P ∧ (∀ (i : Nat) (n : Int), ns[i]? = some n → C (i : Int) n) ∧ R ns H1)
    (hQ : ∀ (ns : List Int) (H1 : Hp) (g : Addr) (s5 : Shared), R ns H1 → ReadyI X pins σ H1 P ns.length (fun i => f (i : Int) (ns.getD i 0)) g s5 → Q' (.ref g) s5) :
    wpAny (model X.prog X.w) X.A (eval (.GeneratorExp elt [⟨.Tuple [.Name xa pa, .Name xb pb] kt pt, .Call (.Name "enumerate" p) [e] [] ipos, [], 0⟩] scope gpos) X.env) Q' X.xe s := by
  refine wpAny_GeneratorExp_walksQT hr.hd S.co (closure_ok S.free) S.cell S.dot S.la S.lb S.ne S.kind (by have := hr.dp; omega) ?_ hs
  refine wpAny_Call_Name_kw (ld_blt I hg hm boot_enumerate (PyProof.Rows.callWith_type1 (thn (ha.run ipos pins s σ H _ I h) fun us s0 ⟨vs, H1, I0, r1, q1⟩ => ?_) hse rfl))
  obtain ⟨a, ns, ex, hq, ⟨ps, hP, ht⟩, hC, q1⟩ := q1
  subst ex
  cases r1 with
  | cons r rr =>
  cases rr
  cases r
  obtain ⟨its, rv, p', hz⟩ := I0.tuple hq
  have p2 : s0.heap.IsTuple a its.toArray := p'
  refine dd_call_enumT p2 fun h1 he hit hsz1 hk1 => wpAny_pyIter_enum he ?_
  have I1 : Inv X pins σ H1 { s0 with heap := h1 } := I0.kept (t' := s0.toks) hk1
  have hPs0 : s0.heap.get? P = some { cls := .none, data := .fields ps } := I0.hok P _ hP
  have hPs : h1.get? P = some { cls := .none, data := .fields ps } := hk1 _ _ hPs0
  have hPlt : P < s0.heap.objs.size := Heap.lt_size hPs0
  have p2' : h1.IsTuple a its.toArray := let ⟨o, q, r⟩ := p2; ⟨o, hk1 _ _ q, r⟩
  have halt : a < s0.heap.objs.size := let ⟨o, q, r⟩ := p2; Heap.lt_size q
  have cd : PySem.W.CodeHd h1 c P := TB.code.keeps fun b u e => hk1 _ _ (I0.bk b u e)
  have lim1 : h1.NoLimit := I1.nolimit
  have hcl0 : cStatics < s0.heap.objs.size := let ⟨_, hns, _⟩ := I0.nolimit; hns.lt
  have hlen : ns.length = its.length := by
    have := rv.length
    simpa using this
  have cont : ∀ (code : Value) (h3 : Heap) (tk : Nat) (ps' : Array Value), Heap.ExtBut P h1 h3 → h1.objs.size ≤ h3.objs.size → h3.get? P = some { cls := .none, data := .fields ps' } → (∃ more, ps' = ps ++ more) → TriplesOk ps'.toList →
      wpAny (model X.prog X.w) X.A (builtinsFor X.env.globals X.env.builtins) (fun bi s₄ =>
        ∃ Ia fp wr n₀ Pt St₀ Mid pz F, Value.ref (s0.heap.objs.size + 1) = .ref Ia ∧ (∀ A' : Around, A'.handled = none → WalksU X.prog X.w A' Ia fp wr n₀ Pt St₀ Mid) ∧ (∀ i vals, Pt i vals → ∃ va vb, vals = #[va, vb]) ∧ St₀ 0 s₄.heap ∧ (∀ b ∈ fp, b < s₄.heap.objs.size) ∧ s₄.heap.NoLimit ∧ cStatics ∉ wr ∧
          (∀ href : Heap, (∀ b o, s₄.heap.get? b = some o → href.get? b = some o) →
            QuietGenT X.prog X.w (genEnv scope (cloFrom X.env.cells scope.names []) s₄.heap.objs.size code bi X.env) xa xb [] elt (List.range s₄.heap.objs.size) wr Pt pz F href) ∧
          (∀ a h₅ tk gs, gs.bare = true → s₄.heap.objs.size < a → h₅.objs.size = a + 1 → (∀ b o, s₄.heap.get? b = some o → h₅.get? b = some o) →
            WalksS X.prog X.w X.A.in4 a (a :: s₄.heap.objs.size :: List.range s₄.heap.objs.size) (s₄.heap.objs.size :: wr) (GenOnlyQ s₄.gens.size) (passing pz n₀ 0).length
              (fun j y => ∃ i, (passing pz n₀ 0)[j]? = some i ∧ F i y) (GenAt X.prog X.w X.A.in4 a s₄.gens.size s₄.heap.objs.size (List.range s₄.heap.objs.size) wr pz n₀ F) →
            GenAt X.prog X.w X.A.in4 a s₄.gens.size s₄.heap.objs.size (List.range s₄.heap.objs.size) wr pz n₀ F 0 { s₄ with gens := s₄.gens.push gs, toks := tk, heap := h₅ } →
            Q' (.ref a) { s₄ with gens := s₄.gens.push gs, toks := tk, heap := h₅ })) X.xe { s0 with heap := h3, toks := tk } := by
    intro code h3 tk ps' hx hsz hP3 hmore ht3
    obtain ⟨bm, ob, e1, e2, e3, e4, e5, e6, e7, e8⟩ := TB.bm
    have hcP : cStatics ≠ P := fun e => by
      obtain ⟨_, hns, _⟩ := I0.nolimit
      obtain ⟨o', es, ep, ho, hd, _⟩ := hns
      rw [e, hPs0] at ho
      cases ho
      cases hd
    have keep3 : ∀ b u, b ≠ P → s0.heap.get? b = some u → h3.get? b = some u := fun b u hb e => hx b u hb (hk1 _ _ e)
    refine wpAny_builtinsFor (m := X.mg) (by rw [I0.ok.glob]; exact ((I0.mod.glob.keeps I0.bk).keeps hk1).extBut hx TB.gP) e1 e2 (keep3 _ _ e4 (I0.bk _ _ e5)) e6 e7 e8 ?_
    have hne : a ≠ s0.heap.objs.size := Nat.ne_of_lt halt
    have WT := fun (A' : Around) (hA : A'.handled = none) => (WalksT.enumerateD (A := A') (dd_drawsT (prog := X.prog) (w := X.w) (A := A'.in1) hA s0.heap.objs.size a hne its.toArray) (s0.heap.objs.size + 1) (Nat.succ_ne_self _) (fun hm => by
      rcases List.mem_cons.mp hm with z | z
      · exact Nat.succ_ne_self _ z
      · have z := List.mem_singleton.mp z
        have z2 : @Eq Nat (s0.heap.objs.size + 1) a := z
        have h2 : @LT.lt Nat _ a s0.heap.objs.size := halt
        omega) (List.mem_cons_self)).toU
    refine ⟨s0.heap.objs.size + 1, _, _, its.toArray.size, _, _, _, (fun _ => true), (fun i y => i < ns.length ∧ ∃ t, y = .int (f (i : Int) (ns.getD i 0)) t), rfl, WT, ?_, ?_, ?_, lim1.extBut hx hcP, ?_, ?_, ?_⟩
    · rintro i vals ⟨t, x, _, rfl⟩
      exact ⟨_, _, rfl⟩
    · have nP1 : s0.heap.objs.size + 1 ≠ P := by
        have h2 : @LT.lt Nat _ P s0.heap.objs.size := hPlt
        intro z
        have z2 : @Eq Nat (s0.heap.objs.size + 1) P := z
        omega
      have nP2 : s0.heap.objs.size ≠ P := by
        have h2 : @LT.lt Nat _ P s0.heap.objs.size := hPlt
        intro z
        have z2 : @Eq Nat s0.heap.objs.size P := z
        omega
      have nP3 : a ≠ P := fun z => by
        obtain ⟨o, q, c1, _⟩ := p2
        rw [z, hPs0] at q
        cases q
        cases c1
      refine ⟨⟨.none, ?_⟩, ?_, ?_⟩
      · exact hx _ _ nP1 he
      · obtain ⟨o, q, r⟩ := hit
        exact ⟨o, hx _ _ nP2 q, r⟩
      · obtain ⟨o, q, r⟩ := p2'
        exact ⟨o, hx _ _ nP3 q, r⟩
    · intro b hb
      have hsz' : (s0.heap.objs.size + 2 : Nat) ≤ h3.objs.size := by rw [← hsz1]; exact hsz
      have ha' : @LT.lt Nat _ a s0.heap.objs.size := halt
      show @LT.lt Nat _ b h3.objs.size
      have hb' : b = s0.heap.objs.size + 1 ∨ b = s0.heap.objs.size ∨ b = a := by simpa using hb
      rcases hb' with z | z | z
      · have z : @Eq Nat b (s0.heap.objs.size + 1) := z
        omega
      · have z : @Eq Nat b s0.heap.objs.size := z
        omega
      · rw [z]; omega
    · intro z
      have z : @Eq Nat cStatics (s0.heap.objs.size + 1) ∨ @Eq Nat cStatics s0.heap.objs.size := by simpa using z
      have h2 : @LT.lt Nat _ cStatics s0.heap.objs.size := hcl0
      omega
    · intro href hhref
      refine ⟨fun A' E' i va vb s₂ m₂ hA hPv hn hma hmb hk => ?_, fun A' E' i va vb s₂ m₂ hA hPv hp hn hma hmb hk => ?_⟩
      · simp only [List.forIn_nil]
        exact wpAny_pure ⟨rfl, keeps_refl _⟩
      · obtain ⟨t, x, hx1, hx2⟩ := hPv
        have e1 : va = .int (i : Int) t := by
          have z := congrArg (fun z : Array Value => z[0]?) hx2
          simpa using z
        have e2 : vb = x := by
          have z := congrArg (fun z : Array Value => z[1]?) hx2
          simpa using z
        subst e1 e2
        have hx1 : its.toArray[i]? = some vb := hx1
        have hi : i < its.length := by
          have := (Array.getElem?_eq_some_iff.mp hx1).1
          simpa using this
        have hi2 : i < ns.length := by rw [hlen]; exact hi
        have hn1 : (ns.map V.int)[i]? = some (.int ns[i]) := by simp [hi2]
        obtain ⟨u, hu, ru⟩ := rv.get hn1
        have e3 : vb = u := by
          have z : its.toArray[i]? = some u := by simpa using hu
          rw [hx1] at z
          exact Option.some.inj z
        obtain ⟨tt, rfl⟩ := ru
        subst e3
        have hg : ns.getD i 0 = ns[i] := by simp [List.getD, hi2]
        exact wpAny_mono (hel _ A' E' (i : Int) ns[i] t tt s₂ m₂ rfl hn hma hmb (hC i _ (List.getElem?_eq_getElem hi2))) (fun y s3 r => ⟨⟨hi2, by rw [hg]; exact r.1⟩, r.2⟩) fun _ _ e => e
    · intro g h5 tk5 gs hgb hag hsz5 hk5 W5 hat
      simp only [passing_all, List.length_range] at W5
      have hsn : its.toArray.size = ns.length := by simp [hlen]
      rw [hsn] at W5 hat
      refine hQ ns H1 g _ q1 ⟨_, _, _, _, _, W5.in4_1, hat, ?_, ?_, fun s' hm => ?_⟩
      · intro b hb
        have hag : @LT.lt Nat _ h3.objs.size g := hag
        show @LT.lt Nat _ b h5.objs.size
        rw [hsz5]
        have hb' : b = g ∨ b = h3.objs.size ∨ b < h3.objs.size := by simpa using hb
        have gg : @LT.lt Nat _ g (g + 1) := Nat.lt_succ_self g
        rcases hb' with z | z | z
        · rw [z]; exact gg
        · rw [z]; exact Nat.lt_trans hag gg
        · exact Nat.lt_trans (Nat.lt_trans z hag) gg
      · rintro i v ⟨j, hj, hF, t, rfl⟩
        obtain ⟨hjl, ej⟩ := List.getElem?_eq_some_iff.mp hj
        rw [List.getElem_range] at ej
        subst ej
        exact ⟨t, rfl⟩
      · obtain ⟨more, em⟩ := hmore
        have nwr : ∀ b u, s0.heap.get? b = some u → b ∉ h3.objs.size :: [s0.heap.objs.size + 1, s0.heap.objs.size] := fun b u e hb => by
          have hl : @LT.lt Nat _ b s0.heap.objs.size := Heap.lt_size e
          have hsz' : (s0.heap.objs.size + 2 : Nat) ≤ h3.objs.size := by rw [← hsz1]; exact hsz
          have hb' : @Eq Nat b h3.objs.size ∨ @Eq Nat b (s0.heap.objs.size + 1) ∨ @Eq Nat b s0.heap.objs.size := by simpa using hb
          have hsz'' : @LE.le Nat _ (s0.heap.objs.size + 2) h3.objs.size := hsz'
          omega
        have J := inv_tab (more := more) (h' := s'.heap) (g' := s'.gens) (d' := s'.drawn) (t' := s'.toks) I0 hP (fun b u hb e => hm.heap b u (nwr b u e) (hk5 b u (keep3 b u hb e)))
          (by rw [← em]; exact hm.heap P _ (nwr P _ hPs0) (hk5 P _ hP3)) (AllBare.movedS (I0.bare.push hgb) hm)
        rw [sh_eta s0 s' hm.os] at J
        refine ⟨upd H1 P (.tbl (ps ++ more)), ⟨⟨ps ++ more, upd_same, by rw [← em]; exact ht3⟩, fun b hb => upd_ne hb⟩, J⟩
  refine ⟨lim1, ?_⟩
  cases hf : codeAmong gpos ps.toList with
  | none =>
    refine wpAny_genexprCodeX hcode (cd.code hPs ht) (cd.tab hPs) hf fun c' h' tk hx hge hlt hco' _ htab' _ => ?_
    obtain ⟨o1, vs, f1, tf, fl, tg, inF, tx, tt, op, _, _, _, _, _, _, _, _, _, htr, _⟩ := hco'
    exact cont _ h' tk _ hx (Nat.le_trans hge (Nat.le_of_lt hlt)) htab'.2 ⟨_, rfl⟩ htr
  | some cv =>
    refine wpAny_genexprCode_hit hcode (cd.code hPs ht) hf ?_
    exact cont cv h1 s0.toks ps (Heap.ExtBut.refl _ _) (Nat.le_refl _) hPs ⟨#[], by simp⟩ ht
/-- sum(elt for i, n in enumerate(tuple of ints)) -/
def sumF (f : Int → Int → Int) (ns : List Int) : Int := preSum (fun i => f (i : Int) (ns.getD i 0)) ns.length
def dSumEnum (P : Addr) (C : Int → Int → Prop) (f : Int → Int → Int) (t : DA) : DE := fun δ M R => t δ M fun ds M1 => match ds with
  | [.tup xs] => M1 P = some .tbl ∧ ∃ ns : List Int, xs = ns.map D.int ∧ (∀ (i : Nat) (n : Int), ns[i]? = some n → C (i : Int) n) ∧
      (∀ j, j < ns.length → InLong (f (j : Int) (ns.getD j 0)) ∧ InLong (preSum (fun i => f (i : Int) (ns.getD i 0)) (j + 1))) ∧ R (.int (sumF f ns)) M1
  | _ => False
theorem pd_sumEnum {c P : Addr} {elt e : Expr} {xa xb : Str} {pa pb pt p sp pos ipos gpos : Pos} {kt : Nat} {scope : Scope} {C : Int → Int → Prop} {f : Int → Int → Int} {t : DA} {k : Nat}
    (hr : Room k X.A) (TB : TabB X.base X.mg c P) (hcode : X.env.code = .ref c) (S : GenS2 X.env scope xa xb) (hgs : Gl X "sum") (hms : X.mg "sum" = none) (hg : Gl X "enumerate") (hm : X.mg "enumerate" = none) (ha : PDA X [e] t) (hel : QE2 X.prog X.w scope xa xb elt C f)
    (hs : ∀ v, genFold (.Call (.Name "enumerate" p) [e] [] ipos) X.env v = pure v := by intro _; rfl) (hse : starEach [e] X.env = [(false, eval e X.env)] := by rfl)
    (he : starEach [.GeneratorExp elt [⟨.Tuple [.Name xa pa, .Name xb pb] kt pt, .Call (.Name "enumerate" p) [e] [] ipos, [], 0⟩] scope gpos] X.env = (false, eval (.GeneratorExp elt [⟨.Tuple [.Name xa pa, .Name xb pb] kt pt, .Call (.Name "enumerate" p) [e] [] ipos, [], 0⟩] scope gpos) X.env) :: starEach [] X.env := by rfl) :
    PD X (.Call (.Name "sum" sp) [.GeneratorExp elt [⟨.Tuple [.Name xa pa, .Name xb pb] kt pt, .Call (.Name "enumerate" p) [e] [] ipos, [], 0⟩] scope gpos] [] pos) (dSumEnum P C f t) := by
  refine ⟨⟨fun pins s σ H Q I h => ?_⟩⟩
  obtain ⟨δ, M, R, S0, m, h, kk⟩ := h
  refine wpAny_Call_Name_kw (ld_blt I hgs hms (by decide +kernel : bootBuiltins "sum" = some (.builtin "sum")) ?_)
  refine PyProof.Rows.callWith_builtin1 ?_ he (by rfl)
  rw [he]
  show wpAny _ _ (spliced ((false, eval (.GeneratorExp elt [⟨.Tuple [.Name xa pa, .Name xb pb] kt pt, .Call (.Name "enumerate" p) [e] [] ipos, [], 0⟩] scope gpos) X.env) :: backTo pos (starEach [] X.env))) _ _ s
  refine Calls.spliced_cons (gen_enumI (R := fun ns H1 => (∀ j, j < ns.length → InLong (f (j : Int) (ns.getD j 0)) ∧ InLong (preSum (fun i => f (i : Int) (ns.getD i 0)) (j + 1))) ∧ ∀ H2, Tabbed P H1 H2 → Q (.int (sumF f ns)) H2) hr TB hcode S hg hm ha.pa hel hs hse I ?_ fun ns H1 g s5 hR hG => ?_)
  · refine ⟨δ, M, _, S0, m, h, fun ds M1 vs H1 h1 e1 r1 m1 => ?_⟩
    split at h1
    · obtain ⟨tb, ns, rfl, hC, hin, hQ⟩ := h1
      obtain ⟨v, ws, rfl, q, t⟩ := r1
      cases t
      obtain ⟨a, vs, rfl, hs, rs⟩ := q
      cases rs.ints
      refine ⟨a, ns, rfl, hs, tab_of m1 tb, hC, hin, fun H2 ht => ?_⟩
      obtain ⟨m2, e2⟩ := rm_tab m1 tb ht
      exact kk _ M1 _ H2 hQ (e1.trans e2) rfl m2
    · exact h1.elim
  · obtain ⟨hin, hR⟩ := hR
    obtain ⟨fp, wr, G, F, St, W, hst, hfp, hval, hI⟩ := hG
    refine Calls.spliced_nil ?_
    refine call_sum_walkS (W.self 0 _ _ _ hst ⟨g, fp, wr, G, ns.length, F, St, _, rfl, W, hst, hfp, hval, hin, fun s' t' hmv => ?_⟩)
    obtain ⟨H2, hT, J⟩ := hI s' hmv
    exact ⟨.int _, H2, J, ⟨t', rfl⟩, hR H2 hT⟩
end
/-! ### a def whose code object is told -/
def BodyC (W : Wd) (k : Nat) (N : List Str) (qual : Str) (sc : Scope) (body : List Stmt) (cdv : Value) (t : DS) : Prop :=
  ∀ (f : Addr) (A : Around) (outer : List Env) (s : Shared) (H : Hp) (E : XK), In (BX W N qual sc f cdv A outer s H E) W k → PDSs (BX W N qual sc f cdv A outer s H E) body t
theorem Body.c {W : Wd} {k : Nat} {N : List Str} {qual : Str} {sc : Scope} {body : List Stmt} {cdv : Value} {t : DS} (h : Body W k N qual sc body t) : BodyC W k N qual sc body cdv t := fun f A outer s H E hi => h f cdv A outer s H E hi
end DD
end
section
namespace DD
open PySem PySem.Spec PyProof.Rows L2
section
variable {X : Cx} {W : Wd} {k : Nat}
theorem In.tab {c P : Addr} (hi : In X W k) (TB : GxR.TabB W.base W.mg c P) : GxR.TabB X.base X.mg c P := by
  rw [hi.base, hi.mg]; exact TB
theorem pd_makeS {x : Str} {C : Addr} {ns ps : List Str} {sp : DSp} {e : Expr} {es : List Expr} {apos pos : Pos} {t : DA} (hk : 0 < k) (F : CFn W (k - 1) x C ns ps sp) (hi : In X W k) (hg : Gl X x) (ha : PDA X (e :: es) t) (hret : ∀ xs M R, sp xs M R → sp xs M fun d M2 => d = .non ∧ R d M2) (hdb : (x == ("__debug__" : Str)) = false := by decide)
    (he : starEach (e :: es) X.env = (false, eval e X.env) :: starEach es X.env := by rfl) (hpl : (backTo pos (starEach es X.env)).any (·.1) = false := by rfl) : PD X (.Call (.Name x apos) (e :: es) [] pos) (dMake C ns sp t) := by
  obtain ⟨j, rfl⟩ : ∃ j, k = j + 1 := ⟨k - 1, by omega⟩
  exact pd_make F hi hg ha hret hdb he hpl
end
/-! ### defs as the head tells them -/
abbrev FnP (K : PySem.W.Frag) (x qual : Str) (st : Stmt) (f : Addr) (fd : FuncData) : Prop := FunD K x qual (defArgs st) (defBody st) (defScope st) [] [] f fd
theorem dfn_mkD {W : Wd} {k : Nat} {x qual : Str} {st : Stmt} {f : Addr} {fd : FuncData} {N ps : List Str} {sp : DSp} (F : FnP W.K x qual st f fd) (S : FnScope N ps (defScope st)) (bd : Binds W.K fd ps [])
    (len : ∀ ds M R, sp ds M R → ds.length = ps.length) (h : ∃ t, BodyC W k N qual (defScope st) (defBody st) fd.code t ∧ ∀ ds M R, sp ds M R → t (endsF R) (startD N ds) M) : DFn W (k + 1) f fd ps sp := by
  obtain ⟨t, hb, hr⟩ := h
  have kp := F.kp
  obtain ⟨oc, od, dV, kV, doc, pm, an, cdv, ct, osl, rfl, lk, hcd, _, _⟩ := F.ex
  refine ⟨fn_of lk hcd S (fun vs H Q E q => ?_) (fun A outer s H vs Q E hroom q => ?_), len, bd, kp⟩
  · obtain ⟨ds, M, R, r, m, h, kk⟩ := q
    rw [← r.length]
    exact len ds M R h
  · refine ⟨_, PSs.nox (hb f A outer s H E ⟨rfl, rfl, rfl, rfl, rfl, hroom⟩).ps, ?_⟩
    obtain ⟨ds, M, R, r, m, h, kk⟩ := q
    refine ⟨_, M, endsF R, start_sl r, m, hr ds M R h, ⟨?_, ?_, ?_, ?_⟩⟩
    · rintro δ M' σ H' ⟨M0, hs, q⟩ e S' m'
      exact kk .non M0 .non H' q e rfl (rm_sub m' hs)
    · intro δ M' σ H' q
      exact q.elim
    · intro δ M' σ H' q
      exact q.elim
    · rintro d M' v H' ⟨M0, hs, q⟩ e rv m'
      exact kk d M0 v H' q e rv (rm_sub m' hs)
/-! ### the end of a law -/
/-- the promise of law: the script comes, True goes -/
def spLaw (tabs : List Addr) : DSp := fun ds M R => ∃ (d : D) (cells : List Int), ds = [d] ∧ itemsD M d = some (cells.map D.int) ∧ isSc M d ∧ cells.length ≤ 63 ∧ (∀ z ∈ cells, Builtin.Int.intBits z ≤ 1048576) ∧ (∀ p ∈ tabs, M p = some .tbl) ∧ ∀ M', R (.bl true) M'
where isSc (M : Mem) : D → Prop
  | .rol _ => True
  | .ref a => ∃ xs, M a = some (.lst xs)
  | _ => False
theorem spLaw_ok {K : PySem.W.Frag} {H : Hp} {a : Addr} {ns : List Int} {tabs : List Addr} (hl : ns.length ≤ 63) (hb : ∀ z ∈ ns, Builtin.Int.intBits z ≤ 1048576) (hT : ∀ p ∈ tabs, H p = some (.tbl #[])) (hS : SqL K H a (ns.map V.int)) :
    liftSp K (spLaw tabs) [.ref a] H (fun v _ => v = .bl true) fun _ _ _ => False := by
  have ro : ∀ b, b ∈ tabs → RO K H b .tbl := fun b hb => ⟨#[], hT b hb, trivial⟩
  rcases hS with (hS | ⟨u, hS⟩) | hS
  · have na : a ∉ tabs := fun z => by
      have := hT a z
      rw [hS] at this
      cases this
    refine ⟨[.ref a], fun b => if b = a then some (.lst (ns.map D.int)) else if b ∈ tabs then some .tbl else none, fun d _ => d = .bl true, .cons rfl .nil, fun b o h => ?_, ⟨.ref a, ns, rfl, ?_, ⟨_, if_pos rfl⟩, hl, hb, fun p hp => ?_, fun _ => rfl⟩, ?_⟩
    · by_cases z : b = a
      · simp only [if_pos z] at h
        cases h
        rw [z]
        exact ⟨_, hS, RVs.of_ints ns⟩
      · simp only [if_neg z] at h
        by_cases z2 : b ∈ tabs
        · rw [if_pos z2] at h
          cases h
          exact ro b z2
        · rw [if_neg z2] at h
          cases h
    · show (match (if a = a then some (MO.lst (ns.map D.int)) else _) with
        | some (.lst xs) => some xs
        | _ => none) = _
      rw [if_pos rfl]
    · have z : p ≠ a := fun e => na (e ▸ hp)
      show (if p = a then _ else if p ∈ tabs then _ else _) = _
      rw [if_neg z, if_pos hp]
    · rintro d M' v H' rfl e rv m'
      exact rv
  all_goals
    have hR : RoL K H a (ns.map V.int) := by
      first
        | exact .inl ⟨u, hS⟩
        | exact .inr hS
    refine ⟨[.rol (ns.map D.int)], fun b => if b ∈ tabs then some .tbl else none, fun d _ => d = .bl true, .cons ⟨a, _, rfl, hR, RVs.of_ints ns⟩ .nil, fun b o h => ?_, ⟨.rol (ns.map D.int), ns, rfl, rfl, trivial, hl, hb, fun p hp => if_pos hp, fun _ => rfl⟩, ?_⟩
    · by_cases z2 : b ∈ tabs
      · simp only [if_pos z2] at h
        cases h
        exact ro b z2
      · simp only [if_neg z2] at h
        cases h
    · rintro d M' v H' rfl e rv m'
      exact rv
/-- what the law's text gives: from the head's facts, the def of law -/
theorem lawAt {l : PySem.W.OpenLaw} {w : World} {K : PySem.W.Frag} {mg : Str → Option Value} {fa : Addr} {h : Heap} {k : Nat} {fd : FuncData} {x : Str} {fs : List He.Fa} {fn : List He.DefD} {tf : List He.Defn} {ex : PySem.W.Frag → Bool}
    (Y : He.SaysX fs fn [] tf ex w h K) (hKin : K.In h) (hb : ∀ (s : Shared) (u : Value), BindsTo s fd ⟨[u], []⟩ [(x, u)])
    (F : ∀ base : Heap, K.In base → base.Ns mainGlobals mg → (∀ p ∈ tf, GxR.TabB base mg (He.cT K p).1 (He.cT K p).2) → DFn ⟨l.prog, w, K, mg, base⟩ k fa fd [x] (spLaw (tf.map fun p => (He.cT K p).2))) :
    LamX.LawAtS l w K CX0 k 63 x mg fa h := by
  refine ⟨fd, tf.map (He.cT K), liftSp K (spLaw (tf.map fun p => (He.cT K p).2)), fun p hp => ?_, fun p hp => ?_, fun p hp => ?_, hb, fun H a ns hl hbits hT hS => ?_, fun base hKb hN hTB => ?_⟩
  · obtain ⟨q, hq, rfl⟩ := List.mem_map.mp hp
    exact Y.empty q hq
  · obtain ⟨q, hq, rfl⟩ := List.mem_map.mp hp
    exact Y.out q hq
  · obtain ⟨q, hq, rfl⟩ := List.mem_map.mp hp
    exact PySem.W.codeHd_of_K hKin (Y.hd q hq)
  · refine spLaw_ok hl hbits (fun p hp => ?_) hS
    obtain ⟨q, hq, rfl⟩ := List.mem_map.mp hp
    exact hT _ (List.mem_map_of_mem hq)
  · have z := F base hKb hN fun p hp => have q := hTB _ (List.mem_map_of_mem hp); ⟨q.code, q.bm, q.gP⟩
    exact z.ok
end DD
end
section
namespace DD
open PySem PySem.Spec PyProof.Rows L2
/-! ### readings, unfolded by simp -/
section
variable {δ : DSt} {M : Mem} {R : DK} {RT : Bool → Mem → Prop} {RA : List D → Mem → Prop} {E : DEnds}
@[simp] theorem eq_dVar {i : Nat} : dVar i δ M R = (match δ[i]? with
  | some (some d) => R d M
  | _ => False) := propext Iff.rfl
@[simp] theorem eq_dC {d : D} : dC d δ M R = R d M := propext Iff.rfl
@[simp] theorem eq_dBin {g : D2} {ta tb : DE} : dBin g ta tb δ M R = ta δ M fun x M1 => tb δ M1 fun y M2 => g x y M2 R := propext Iff.rfl
@[simp] theorem eq_dUn {g : D1} {ta : DE} : dUn g ta δ M R = ta δ M fun x M1 => g x M1 R := propext Iff.rfl
@[simp] theorem eq_dTest {t : DE} : dTest t δ M RT = t δ M fun d M1 => (match d with
  | .bl b => RT b M1
  | _ => False) := propext Iff.rfl
@[simp] theorem eq_gI {C : Int → Int → Prop} {f : Int → Int → D} {i j : Int} : gI C f (.int i) (.int j) M R = (C i j ∧ R (f i j) M) := propext Iff.rfl
@[simp] theorem eq_gI0 {f : Int → Int → D} {i j : Int} : gI0 f (.int i) (.int j) M R = R (f i j) M := propext Iff.rfl
@[simp] theorem eq_gAddii {i j : Int} : gAdd (.int i) (.int j) M R = R (.int (i + j)) M := propext Iff.rfl
@[simp] theorem eq_gAddtt {xs ys : List D} : gAdd (.tup xs) (.tup ys) M R = (xs.length + ys.length ≤ sizeLine ∧ R (.tup (xs ++ ys)) M) := propext Iff.rfl
@[simp] theorem eq_gAddll {a b : Addr} : gAdd (.ref a) (.ref b) M R = (match M a, M b with
    | some (.lst xs), some (.lst ys) => xs.length + ys.length ≤ sizeLine ∧ ∀ p, M p = none → R (.ref p) (updM M p (.lst (xs ++ ys)))
    | _, _ => False) := propext Iff.rfl
@[simp] theorem eq_gNeg {i : Int} : gNeg (.int i) M R = R (.int (-i)) M := propext Iff.rfl
@[simp] theorem eq_gEqii {i j : Int} : gEq (.int i) (.int j) M R = R (.bl (decide (i = j))) M := by
  show (true = true ∧ true = true ∧ R (.bl (PyData.eqv (.int i) (.int j))) M) = _
  have : PyData.eqv (.int i) (.int j) = decide (i = j) := by
    unfold PyData.eqv
    exact Bool.eq_iff_iff.mpr (by simp)
  rw [this]; simp
@[simp] theorem eq_gNeii {i j : Int} : gNe (.int i) (.int j) M R = R (.bl (!decide (i = j))) M := by
  show (true = true ∧ true = true ∧ R (.bl (!PyData.eqv (.int i) (.int j))) M) = _
  have : PyData.eqv (.int i) (.int j) = decide (i = j) := by
    unfold PyData.eqv
    exact Bool.eq_iff_iff.mpr (by simp)
  rw [this]; simp
@[simp] theorem eq_gIsN {d : D} : gIsN d .non M R = R (.bl (isNon d)) M := propext Iff.rfl
@[simp] theorem eq_gNotN {d : D} : gNotN d .non M R = R (.bl (!isNon d)) M := propext Iff.rfl
@[simp] theorem eq_aNil : aNil δ M RA = RA [] M := propext Iff.rfl
@[simp] theorem eq_aCons {ta : DE} {tr : DA} : aCons ta tr δ M RA = ta δ M fun x M1 => tr δ M1 fun xs M2 => RA (x :: xs) M2 := propext Iff.rfl
@[simp] theorem eq_dTup {t : DA} : dTup t δ M R = t δ M fun xs M1 => xs.length ≤ sizeLine ∧ R (.tup xs) M1 := propext Iff.rfl
@[simp] theorem eq_dLst {t : DA} : dLst t δ M R = t δ M fun xs M1 => xs.length ≤ sizeLine ∧ ∀ p, M1 p = none → R (.ref p) (updM M1 p (.lst xs)) := propext Iff.rfl
@[simp] theorem eq_gIxt {xs : List D} {i : Int} : gIx (.tup xs) (.int i) M R = (match atI xs i with
    | some d => R d M
    | none => False) := propext Iff.rfl
@[simp] theorem eq_gIxr {xs : List D} {i : Int} : gIx (.rol xs) (.int i) M R = (match atI xs i with
    | some d => R d M
    | none => False) := propext Iff.rfl
@[simp] theorem eq_gIxl {a : Addr} {i : Int} : gIx (.ref a) (.int i) M R = (match M a with
    | some (.lst xs) => (match atI xs i with
      | some d => R d M
      | none => False)
    | _ => False) := propext Iff.rfl
@[simp] theorem eq_gIxs {z : Str} {i : Int} : gIx (.str z) (.int i) M R = (match atI z.cps.toList i with
    | some c => z.length ≤ sizeLine ∧ R (.str ⟨#[c]⟩) M
    | none => False) := propext Iff.rfl
@[simp] theorem eq_dCB {g : DC1} {t : DA} : dCB g t δ M R = t δ M fun xs M1 => g xs M1 R := propext Iff.rfl
@[simp] theorem eq_gLent {xs : List D} : gLen [.tup xs] M R = R (.int xs.length) M := propext Iff.rfl
@[simp] theorem eq_gLenr {xs : List D} : gLen [.rol xs] M R = R (.int xs.length) M := propext Iff.rfl
@[simp] theorem eq_gLenl {a : Addr} : gLen [.ref a] M R = (match M a with
    | some (.lst xs) => R (.int xs.length) M
    | _ => False) := by
  show (match (match M a with
      | some (.lst xs) => some xs
      | _ => none) with
    | some ys => R (.int (List.length ys)) M
    | none => False) = _
  cases M a with
  | none => rfl
  | some o => cases o <;> rfl
@[simp] theorem eq_gLens {z : Str} : gLen [.str z] M R = (z.length ≤ sizeLine ∧ R (.int z.length) M) := propext Iff.rfl
@[simp] theorem eq_gAbs {i : Int} : gAbs [.int i] M R = R (.int (if i < 0 then -i else i)) M := propext Iff.rfl
@[simp] theorem eq_gInti {i : Int} : gInt [.int i] M R = R (.int i) M := propext Iff.rfl
@[simp] theorem eq_gMax2 {i j : Int} : gMax2 [.int i, .int j] M R = R (.int (if j > i then j else i)) M := propext Iff.rfl
@[simp] theorem eq_gMin2 {i j : Int} : gMin2 [.int i, .int j] M R = R (.int (if j < i then j else i)) M := propext Iff.rfl
@[simp] theorem eq_gGcd {a b : Int} : gGcd [.int a, .int b] M R = R (.int ((Nat.gcd a.natAbs b.natAbs : Nat) : Int)) M := propext Iff.rfl
@[simp] theorem items_ref {a : Addr} : itemsD M (.ref a) = (match M a with
      | some (.lst xs) => some xs
      | _ => none) := rfl
@[simp] theorem items_tup {xs : List D} : itemsD M (.tup xs) = some xs := rfl
@[simp] theorem items_rol {xs : List D} : itemsD M (.rol xs) = some xs := rfl
@[simp] theorem eq_gTuple {d : D} : gTuple [d] M R = (match itemsD M d with
    | some ys => ∃ M0, Sub M0 M ∧ R (.tup ys) M0
    | none => False) := propext Iff.rfl
@[simp] theorem eq_gList {d : D} : gList [d] M R = (match itemsD M d with
    | some ys => ∀ p, M p = none → R (.ref p) (updM M p (.lst ys))
    | none => False) := propext Iff.rfl
@[simp] theorem eq_dBM {ty : D → Mem → Prop} {g : DM} {to : DE} {t : DA} : dBM ty g to t δ M R = to δ M fun x M1 => ty x M1 ∧ t δ M1 fun xs M2 => g x xs M2 R := propext Iff.rfl
@[simp] theorem eq_dBM0 {ty : D → Mem → Prop} {g : DM} {to : DE} : dBM0 ty g to δ M R = to δ M fun x M1 => ty x M1 ∧ g x [] M1 R := propext Iff.rfl
@[simp] theorem onLst_at {a : Addr} {Q : Addr → List D → Prop} : onLst (.ref a) M Q = (match M a with
    | some (.lst xs) => Q a xs
    | _ => False) := propext Iff.rfl
@[simp] theorem isLst_at {a : Addr} : isLst (.ref a) M = (match M a with
    | some (.lst _) => True
    | _ => False) := propext Iff.rfl
@[simp] theorem eq_gAppend {x y : D} : gAppend x [y] M R = onLst x M fun a xs => xs.length < sizeLine ∧ R .non (updM M a (.lst (xs ++ [y]))) := propext Iff.rfl
@[simp] theorem eq_gReverse {x : D} : gReverse x [] M R = onLst x M fun a xs => R .non (updM M a (.lst xs.reverse)) := propext Iff.rfl
@[simp] theorem eq_gPop {x : D} : gPop x [] M R = onLst x M fun a xs => (match xs[xs.length - 1]? with
    | some y => R y (updM M a (.lst xs.dropLast))
    | none => False) := propext Iff.rfl
@[simp] theorem eq_dTru {t : DE} : dTru t δ M RT = t δ M fun d M1 => (match truD M1 d with
  | some b => RT b M1
  | none => False) := propext Iff.rfl
@[simp] theorem eq_dAnd {t u : DT} : dAnd t u δ M RT = t δ M fun b M1 => if b = true then u δ M1 RT else RT false M1 := propext Iff.rfl
@[simp] theorem eq_dOr {t u : DT} : dOr t u δ M RT = t δ M fun b M1 => if b = true then RT true M1 else u δ M1 RT := propext Iff.rfl
@[simp] theorem eq_dNot {t : DT} : dNot t δ M RT = t δ M fun b M1 => RT (!b) M1 := propext Iff.rfl
@[simp] theorem eq_dIf {t : DT} {ta tb : DE} : dIf t ta tb δ M R = t δ M fun b M1 => if b = true then ta δ M1 R else tb δ M1 R := propext Iff.rfl
@[simp] theorem eq_dAndV {ta tb : DE} : dAndV ta tb δ M R = ta δ M fun d M1 => (match truD M1 d with
  | some true => tb δ M1 R
  | some false => R d M1
  | none => False) := propext Iff.rfl
@[simp] theorem eq_dOrV {ta tb : DE} : dOrV ta tb δ M R = ta δ M fun d M1 => (match truD M1 d with
  | some true => R d M1
  | some false => tb δ M1 R
  | none => False) := propext Iff.rfl
@[simp] theorem eq_dNotV {ta : DE} : dNotV ta δ M R = ta δ M fun d M1 => (match truD M1 d with
  | some b => R (.bl (!b)) M1
  | none => False) := propext Iff.rfl
@[simp] theorem eq_sNext : sNext E δ M = E.nx δ M := propext Iff.rfl
@[simp] theorem eq_sSeq {t u : DS} : sSeq t u E δ M = t { E with nx := u E } δ M := propext Iff.rfl
@[simp] theorem eq_sDrop {te : DE} : sDrop te E δ M = te δ M fun _ M1 => E.nx δ M1 := propext Iff.rfl
@[simp] theorem eq_sRet {te : DE} : sRet te E δ M = te δ M E.rt := propext Iff.rfl
@[simp] theorem eq_sRetN : sRetN E δ M = E.rt .non M := propext Iff.rfl
@[simp] theorem eq_sIf {c : DT} {t u : DS} : sIf c t u E δ M = c δ M fun b M1 => if b = true then t E δ M1 else u E δ M1 := propext Iff.rfl
@[simp] theorem eq_sBreak : sBreak E δ M = E.bk δ M := propext Iff.rfl
@[simp] theorem eq_sCont : sCont E δ M = E.ct δ M := propext Iff.rfl
@[simp] theorem eq_gNm {i : Nat} {d : D} {Q : DSt → Mem → Prop} : gNm i d δ M Q = Q (δ.set i (some d)) M := propext Iff.rfl
@[simp] theorem eq_gsNil {Q : DSt → Mem → Prop} : gsNil [] δ M Q = Q δ M := propext Iff.rfl
@[simp] theorem eq_gsCons {t : DG} {u : DGs} {d : D} {r : List D} {Q : DSt → Mem → Prop} : gsCons t u (d :: r) δ M Q = t d δ M fun δ' M' => u r δ' M' Q := propext Iff.rfl
@[simp] theorem eq_gUnp {n : Nat} {t : DGs} {d : D} {Q : DSt → Mem → Prop} : gUnp n t d δ M Q = (match itemsD M d with
  | some xs => xs.length = n ∧ t xs δ M Q
  | none => False) := propext Iff.rfl
@[simp] theorem eq_gSetL {x z : D} {i : Int} {Q : Mem → Prop} : gSetL x (.int i) z M Q = onLst x M fun a xs => (match ixN xs.length i with
    | some j => Q (updM M a (.lst (xs.set j z)))
    | none => False) := propext Iff.rfl
@[simp] theorem eq_gSubD {to ti : DE} {t : DSet} {d : D} {Q : DSt → Mem → Prop} : gSubD to ti t d δ M Q = to δ M fun o M1 => ti δ M1 fun i M2 => t o i d M2 fun M3 => Q δ M3 := propext Iff.rfl
@[simp] theorem eq_sAsg {te : DE} {g : DG} : sAsg te g E δ M = te δ M fun d M1 => g d δ M1 E.nx := propext Iff.rfl
@[simp] theorem eq_sPar {i j : Nat} {t : DA} : sPar i j t E δ M = t δ M fun ds M1 => (match ds with
  | [v, w] => E.nx ((δ.set i (some v)).set j (some w)) M1
  | _ => False) := propext Iff.rfl
@[simp] theorem eq_sAug {i : Nat} {te : DE} {g : DIp} : sAug i te g E δ M = (match δ[i]? with
  | some (some x) => te δ M fun y M1 => g x y M1 fun z M2 => E.nx (δ.set i (some z)) M2
  | _ => False) := propext Iff.rfl
@[simp] theorem eq_dCall {sp : DSp} {t : DA} : dCall sp t δ M R = t δ M fun ds M1 => sp ds M1 R := propext Iff.rfl
@[simp] theorem eq_dCallK {sp : DSp} {is : List Nat} {n : Nat} {t : DA} : dCallK sp is n t δ M R = t δ M fun ds M1 => ds.length = n ∧ sp (permL is ds) M1 R := propext Iff.rfl
@[simp] theorem onIns_at {C a : Addr} {ns : List Str} {Q : Addr → List D → Prop} : onIns C ns (.ref a) M Q = (match M a with
    | some (.ins C' ns' ds) => C' = C ∧ ns' = ns ∧ Q a ds
    | _ => False) := propext Iff.rfl
@[simp] theorem eq_dFld {C : Addr} {ns : List Str} {i : Nat} {t : DE} : dFld C ns i t δ M R = t δ M fun d M1 => onIns C ns d M1 fun _ ds => (match ds[i]? with
  | some v => R v M1
  | none => False) := propext Iff.rfl
@[simp] theorem eq_sFldD {C : Addr} {ns : List Str} {i : Nat} {to tv : DE} : sFldD C ns i to tv E δ M = tv δ M fun y M1 => to δ M1 fun x M2 => onIns C ns x M2 fun a ds => i ≤ ds.length ∧ E.nx δ (updM M2 a (.ins C ns (putD i y ds))) := propext Iff.rfl
@[simp] theorem eq_sFldAugD {C : Addr} {ns : List Str} {i : Nat} {to tv : DE} {g : DIp} : sFldAugD C ns i to tv g E δ M = to δ M fun x M1 => onIns C ns x M1 fun a ds => (match ds[i]? with
  | some v => tv δ M1 fun y M2 => g v y M2 fun z M3 => onIns C ns x M3 fun a ds => i ≤ ds.length ∧ E.nx δ (updM M3 a (.ins C ns (putD i z ds)))
  | none => False) := propext Iff.rfl
@[simp] theorem eq_dMeth {C : Addr} {ns : List Str} {sp : DSp} {to : DE} {t : DA} : dMeth C ns sp to t δ M R = to δ M fun x M1 => onIns C ns x M1 fun _ _ => t δ M1 fun xs M2 => sp (x :: xs) M2 R := propext Iff.rfl
@[simp] theorem eq_dMake {C : Addr} {ns : List Str} {sp : DSp} {t : DA} : dMake C ns sp t δ M R = t δ M fun xs M1 => ∀ p, M1 p = none → sp (.ref p :: xs) (updM M1 p (.ins C ns [])) fun _ M2 => R (.ref p) M2 := propext Iff.rfl
@[simp] theorem eq_rt {R' : DK} {d : D} : (endsF R').rt d M = ∃ M0, Sub M0 M ∧ R' d M0 := propext Iff.rfl
@[simp] theorem eq_nx {R' : DK} : (endsF R').nx δ M = ∃ M0, Sub M0 M ∧ R' .non M0 := propext Iff.rfl
@[simp] theorem eq_startD {N : List Str} {ds : List D} : startD N ds = ds.map some ++ List.replicate (N.length - ds.length) none := rfl
@[simp] theorem updM_at {a b : Addr} {o : MO} : updM M a o b = if b = a then some o else M b := rfl
end
/-! ### the values at places -/
theorem atI_nat {α : Type} {xs : List α} {i : Int} {d : α} (h0 : 0 ≤ i) (h : xs[i.toNat]? = some d) : atI xs i = some d := by
  unfold atI ixN
  have hi : i.toNat < xs.length := (List.getElem?_eq_some_iff.mp h).1
  rw [if_pos h0, if_pos (by omega)]
  exact h
theorem ixN_nat {n : Nat} {i : Int} (h0 : 0 ≤ i) (h : i < n) : ixN n i = some i.toNat := by
  unfold ixN
  rw [if_pos h0, if_pos h]
end DD
end
section
namespace DD
open PySem PySem.Spec PyProof.Rows L2
/-! ### comprehensions and loops that leave the memory alone -/
def LcIn (g : DG) (tt : DT) (te : DE) (vs : List Nat) (δ : DSt) (R : DK) (ds : List D) (ok : Mem → Prop) (M1 : Mem) : Prop := ∀ p, M1 p = none → ∃ W : Nat → List D → Mem → Prop, W 0 [] M1 ∧
  (∀ i acc M, W i acc M → ok (updM M p (.lst acc))) ∧
  (∀ i x acc M, ds[i]? = some x → W i acc M → acc.length < sizeLine ∧ g x (wipeD δ vs) (updM M p (.lst acc)) fun δ2 M2 => tt δ2 M2 fun b M3 =>
    if b = true then te δ2 M3 fun y M4 => ∃ M5, M4 = updM M5 p (.lst acc) ∧ W (i + 1) (acc ++ [y]) M5 else ∃ M5, M3 = updM M5 p (.lst acc) ∧ W (i + 1) acc M5) ∧
  ∀ acc M, W ds.length acc M → R (.ref p) (updM M p (.lst acc))
@[simp] theorem eq_dLc {di : DI} {g : DG} {tt : DT} {te : DE} {vs : List Nat} {δ : DSt} {M : Mem} {R : DK} : dLc di g tt te vs δ M R = di δ M (LcIn g tt te vs δ R) := propext Iff.rfl
@[simp] theorem eq_iSeq {te : DE} {δ : DSt} {M : Mem} {Q : List D → (Mem → Prop) → Mem → Prop} : iSeq te δ M Q = te δ M fun d M1 => (match srcD M1 d with
  | some (xs, ok) => Q xs ok M1
  | none => False) := propext Iff.rfl
@[simp] theorem eq_srct {M : Mem} {xs : List D} : srcD M (.tup xs) = some (xs, fun _ => True) := rfl
@[simp] theorem eq_srcr {M : Mem} {xs : List D} : srcD M (.rol xs) = some (xs, fun _ => True) := rfl
@[simp] theorem eq_srcl {M : Mem} {a : Addr} : srcD M (.ref a) = (match M a with
    | some (.lst xs) => some (xs, fun M' => M' a = some (.lst xs))
    | _ => none) := rfl
@[simp] theorem eq_iRange1 {t : DA} {δ : DSt} {M : Mem} {Q : List D → (Mem → Prop) → Mem → Prop} : iRange1 t δ M Q = t δ M fun ds M1 => (match ds with
  | [.int j] => (-(2 ^ 62) ≤ j ∧ j < 2 ^ 62) ∧ Q (rangeD 0 j.toNat) (fun _ => True) M1
  | _ => False) := propext Iff.rfl
@[simp] theorem eq_iRange2 {t : DA} {δ : DSt} {M : Mem} {Q : List D → (Mem → Prop) → Mem → Prop} : iRange2 t δ M Q = t δ M fun ds M1 => (match ds with
  | [.int i, .int j] => (-(2 ^ 62) ≤ i ∧ i < 2 ^ 62 ∧ -(2 ^ 62) ≤ j ∧ j < 2 ^ 62) ∧ Q (rangeD i (j - i).toNat) (fun _ => True) M1
  | _ => False) := propext Iff.rfl
@[simp] theorem eq_tYesD {δ : DSt} {M : Mem} {Q : Bool → Mem → Prop} : tYesD δ M Q = Q true M := propext Iff.rfl
def ForIn (g : DG) (tb : DS) (E : DEnds) (δ : DSt) (ds : List D) (ok : Mem → Prop) (M1 : Mem) : Prop := ∃ W : Nat → DSt → Mem → Prop, W 0 δ M1 ∧ (∀ i δ M, i ≤ ds.length → W i δ M → ok M) ∧
  (∀ i x δ M, ds[i]? = some x → W i δ M → g x δ M fun δ2 M2 => tb { E with nx := W (i + 1), ct := W (i + 1), bk := E.nx } δ2 M2) ∧ ∀ δ M, W ds.length δ M → E.nx δ M
@[simp] theorem eq_sFor {di : DI} {g : DG} {tb : DS} {E : DEnds} {δ : DSt} {M : Mem} : sFor di g tb E δ M = di δ M (ForIn g tb E δ) := propext Iff.rfl
theorem lc_fm {g : DG} {tt : DT} {te : DE} {vs : List Nat} {δ : DSt} {R : DK} {ds : List D} {ok : Mem → Prop} {M1 : Mem} (f : D → Option D) (hl : ds.length ≤ sizeLine) (hok : ∀ p acc, M1 p = none → ok (updM M1 p (.lst acc)))
    (step : ∀ (x : D) (p : Addr) (acc : List D) (RY : D → Mem → Prop) (RN : Mem → Prop), x ∈ ds → M1 p = none → (∀ y, f x = some y → RY y (updM M1 p (.lst acc))) → (f x = none → RN (updM M1 p (.lst acc))) →
      g x (wipeD δ vs) (updM M1 p (.lst acc)) fun δ2 M2 => tt δ2 M2 fun b M3 => if b = true then te δ2 M3 RY else RN M3)
    (hR : ∀ p, M1 p = none → R (.ref p) (updM M1 p (.lst (ds.filterMap f)))) : LcIn g tt te vs δ R ds ok M1 := by
  intro p hp
  refine ⟨fun i acc M => M = M1 ∧ acc = (ds.take i).filterMap f, ⟨rfl, by simp⟩, ?_, ?_, ?_⟩
  · rintro i acc M ⟨rfl, rfl⟩
    exact hok p _ hp
  · rintro i x acc M hx ⟨rfl, rfl⟩
    have hi : i < ds.length := (List.getElem?_eq_some_iff.mp hx).1
    refine ⟨?_, step x p _ _ _ (List.mem_of_getElem? hx) hp ?_ ?_⟩
    · have h1 := List.length_filterMap_le f (ds.take i)
      rw [List.length_take] at h1
      omega
    · intro y hy
      refine ⟨_, rfl, rfl, ?_⟩
      rw [List.take_add_one, hx, List.filterMap_append]
      simp [hy]
    · intro hy
      refine ⟨_, rfl, rfl, ?_⟩
      rw [List.take_add_one, hx, List.filterMap_append]
      simp [hy]
  · rintro acc M ⟨rfl, rfl⟩
    rw [List.take_length]
    exact hR p hp
theorem lc_map {g : DG} {te : DE} {vs : List Nat} {δ : DSt} {R : DK} {ds : List D} {ok : Mem → Prop} {M1 : Mem} (f : D → D) (hl : ds.length ≤ sizeLine) (hok : ∀ p acc, M1 p = none → ok (updM M1 p (.lst acc)))
    (step : ∀ (x : D) (p : Addr) (acc : List D) (RY : D → Mem → Prop), x ∈ ds → M1 p = none → RY (f x) (updM M1 p (.lst acc)) → g x (wipeD δ vs) (updM M1 p (.lst acc)) fun δ2 M2 => te δ2 M2 RY)
    (hR : ∀ p, M1 p = none → R (.ref p) (updM M1 p (.lst (ds.map f)))) : LcIn g tYesD te vs δ R ds ok M1 := by
  refine lc_fm (fun x => some (f x)) hl hok (fun x p acc RY RN hx hp h1 h2 => ?_) (fun p hp => ?_)
  · simpa using step x p acc RY hx hp (h1 _ rfl)
  · have e : ds.filterMap (fun x => some (f x)) = ds.map f := by simp
    rw [e]
    exact hR p hp
/-- a loop over a list in which the memory and the slots go by W -/
theorem for_in {g : DG} {tb : DS} {E : DEnds} {δ : DSt} {ds : List D} {ok : Mem → Prop} {M1 : Mem} (W : Nat → DSt → Mem → Prop) (h0 : W 0 δ M1) (hok : ∀ i δ M, i ≤ ds.length → W i δ M → ok M)
    (step : ∀ i x δ M, ds[i]? = some x → W i δ M → g x δ M fun δ2 M2 => tb { E with nx := W (i + 1), ct := W (i + 1), bk := E.nx } δ2 M2) (done : ∀ δ M, W ds.length δ M → E.nx δ M) : ForIn g tb E δ ds ok M1 := ⟨W, h0, hok, step, done⟩
/-! ### the bag of numbers that laws draw from -/
structure Bag (M : Mem) (b g c : Addr) (N : Nat) : Prop where
  ex : ∃ (z n : Int) (gs cs : List Int), M b = some (.lst [.int z, .int n, .ref g, .ref c]) ∧ M g = some (.lst (gs.map D.int)) ∧ M c = some (.lst (cs.map D.int)) ∧
    0 ≤ z ∧ 0 ≤ n ∧ n ≤ N ∧ (∀ x ∈ gs, 0 ≤ x) ∧ cs ≠ [] ∧ (∀ x ∈ cs, 0 ≤ x ∧ x < 2147483647)
  bg : b ≠ g
  bc : b ≠ c
  gc : g ≠ c
/-- all but the bag's parts is as it was -/
def SameBut (b g : Addr) (M M' : Mem) : Prop := ∀ a, a ≠ b → a ≠ g → M' a = M a
theorem SameBut.refl {b g : Addr} (M : Mem) : SameBut b g M M := fun _ _ _ => rfl
theorem SameBut.trans {b g : Addr} {M M1 M2 : Mem} (h : SameBut b g M M1) (k : SameBut b g M1 M2) : SameBut b g M M2 := fun a h1 h2 => (k a h1 h2).trans (h a h1 h2)
theorem Bag.mono {M : Mem} {b g c : Addr} {N N' : Nat} (h : Bag M b g c N) (hn : N ≤ N') : Bag M b g c N' := by
  obtain ⟨⟨z, n, gs, cs, h1, h2, h3, h4, h5, h6, h7⟩, q⟩ := h
  exact ⟨⟨z, n, gs, cs, h1, h2, h3, h4, h5, by omega, h7⟩, by assumption, by assumption, by assumption⟩
theorem Bag.frame {M M' : Mem} {b g c : Addr} {N : Nat} (h : Bag M b g c N) (hb : M' b = M b) (hg : M' g = M g) (hc : M' c = M c) : Bag M' b g c N := by
  obtain ⟨⟨z, n, gs, cs, h1, h2, h3, h4⟩, q⟩ := h
  exact ⟨⟨z, n, gs, cs, hb.trans h1, hg.trans h2, hc.trans h3, h4⟩, by assumption, by assumption, by assumption⟩
theorem Bag.ne {M : Mem} {b g c p : Addr} {N : Nat} (h : Bag M b g c N) (hp : M p = none) : p ≠ b ∧ p ≠ g ∧ p ≠ c := by
  obtain ⟨⟨z, n, gs, cs, h1, h2, h3, _⟩, _⟩ := h
  refine ⟨fun e => ?_, fun e => ?_, fun e => ?_⟩
  · rw [e, h1] at hp; cases hp
  · rw [e, h2] at hp; cases hp
  · rw [e, h3] at hp; cases hp
theorem Bag.upd {M : Mem} {b g c p : Addr} {o : MO} {N : Nat} (h : Bag M b g c N) (hb : p ≠ b) (hg : p ≠ g) (hc : p ≠ c) : Bag (updM M p o) b g c N :=
  h.frame (updM_ne hb.symm) (updM_ne hg.symm) (updM_ne hc.symm)
theorem Bag.new {M : Mem} {b g c p : Addr} {o : MO} {N : Nat} (h : Bag M b g c N) (hp : M p = none) : Bag (updM M p o) b g c N := h.upd (h.ne hp).1 (h.ne hp).2.1 (h.ne hp).2.2
theorem log2_lt {i : Int} {k : Nat} (h : i.natAbs < 2 ^ k) (hk : 0 < k) : i.natAbs.log2 < k := by
  by_cases z : i.natAbs = 0
  · rw [z]; simpa using hk
  · exact (Nat.log2_lt z).mpr h
theorem mul_ok {i j : Int} (a b : Nat) (hi : i.natAbs < 2 ^ a) (hj : j.natAbs < 2 ^ b) (ha : 0 < a) (hb : 0 < b) (h : a + b < 100000000) : MulOk i j := by
  have h1 := log2_lt hi ha
  have h2 := log2_lt hj hb
  unfold MulOk
  omega
theorem div_ok {i j : Int} (a : Nat) (h0 : j ≠ 0) (hj : j.natAbs < 2 ^ a) (ha : 0 < a) (h : a ≤ 9000) : DivOk i j := ⟨h0, .inl (by have := log2_lt hj ha; omega)⟩
/-- draw: a digit -/
def spDraw : DSp := fun ds M R => ∃ (b g c : Addr) (N : Nat) (many : Int), ds = [.ref b, .int many] ∧ Bag M b g c N ∧ N ≤ 2 ^ 40 ∧ 0 < many ∧ many < 2 ^ 200 ∧
  ∀ (x : Int) (M' : Mem), 0 ≤ x → x < many → Bag M' b g c (N + 1) → SameBut b g M M' → R (.int x) M'
def rK_draw  : DS := sSeq (sAsg (dBin gAdd (dBin gIx (dVar 0) (dC (.int 1))) (dC (.int 1))) (gSubD (dVar 0) (dC (.int 1)) gSetL)) (sSeq (sIf (dAnd (dTest (dBin gEq (dBin gIx (dVar 0) (dC (.int 0))) (dC (.int 0)))) (dTest (dBin gGt (dCB gLen (aCons (dBin gIx (dVar 0) (dC (.int 2))) (aNil))) (dC (.int 0))))) (sAsg (dBM0 isLst gPop (dBin gIx (dVar 0) (dC (.int 2)))) (gSubD (dVar 0) (dC (.int 0)) gSetL)) (sNext)) (sSeq (sIf (dTest (dBin gGt (dBin gIx (dVar 0) (dC (.int 0))) (dC (.int 0)))) (sSeq (sAsg (dBin gMod (dCB gInt (aCons (dBin gIx (dVar 0) (dC (.int 0))) (aNil))) (dVar 1)) (gNm 2)) (sSeq (sAsg (dBin gDiv (dBin gIx (dVar 0) (dC (.int 0))) (dVar 1)) (gSubD (dVar 0) (dC (.int 0)) gSetL)) (sRet (dVar 2)))) (sNext)) (sSeq (sAsg (dBin gIx (dBin gIx (dVar 0) (dC (.int 3))) (dBin gMod (dCB gInt (aCons (dBin gIx (dVar 0) (dC (.int 1))) (aNil))) (dCB gLen (aCons (dBin gIx (dVar 0) (dC (.int 3))) (aNil))))) (gNm 3)) (sSeq (sAsg (dBin gMod (dCB gInt (aCons (dBin gAdd (dBin gAdd (dBin gMul (dVar 3) (dC (.int 48271))) (dBin gMul (dBin gIx (dVar 0) (dC (.int 1))) (dC (.int 69621)))) (dC (.int 1))) (aNil))) (dC (.int 2147483647))) (gNm 4)) (sRet (dBin gMod (dBin gDiv (dBin gMod (dCB gInt (aCons (dBin gAdd (dBin gAdd (dBin gMul (dVar 4) (dVar 4)) (dBin gMul (dVar 4) (dC (.int 16807)))) (dBin gMul (dBin gIx (dVar 0) (dC (.int 1))) (dC (.int 40014)))) (aNil))) (dC (.int 2147483629))) (dC (.int 32))) (dVar 1)))))))
theorem fmod_nn {a b : Int} (h : 0 < b) : 0 ≤ a.fmod b := Int.fmod_nonneg_of_pos a h
theorem fmod_lt {a b : Int} (h : 0 < b) : a.fmod b < b := Int.fmod_lt_of_pos a h
theorem atI4_0 {a b c d : D} : atI [a, b, c, d] 0 = some a := rfl
theorem atI4_1 {a b c d : D} : atI [a, b, c, d] 1 = some b := rfl
theorem atI4_2 {a b c d : D} : atI [a, b, c, d] 2 = some c := rfl
theorem atI4_3 {a b c d : D} : atI [a, b, c, d] 3 = some d := rfl
/-- the last steps of a draw -/
theorem k_draw (ds : List D) (M : Mem) (R : DK) (h : spDraw ds M R) : rK_draw (endsF R) (startD ["bag", "many", "digit", "cell", "mixed"] ds) M := by
  obtain ⟨b, g, c, N, many, rfl, hB, hN, hm0, hm1, k⟩ := h
  obtain ⟨⟨z, n, gs, cs, h1, h2, h3, hz, hn0, hnN, hgs, hcs, hcs2⟩, bg, bc, gc⟩ := hB
  have nb : g ≠ b := bg.symm
  have nc : c ≠ b := bc.symm
  have ncg : c ≠ g := gc.symm
  have ix0 : ixN 4 0 = some 0 := rfl
  have ix1 : ixN 4 1 = some 1 := rfl
  have hm : many ≠ 0 := by omega
  have hdiv : ∀ i, DivOk i many := fun i => div_ok 200 hm (by omega) (by omega) (by omega)
  have hl0 : (0 : Int) < cs.length := by
    cases cs with
    | nil => exact absurd rfl hcs
    | cons a r => simp only [List.length_cons]; omega
  obtain ⟨cell, hcell, hc0, hc1⟩ : ∃ cell, atI (cs.map D.int) ((n + 1).fmod cs.length) = some (.int cell) ∧ 0 ≤ cell ∧ cell < 2147483647 := by
    have a1 := fmod_nn (a := n + 1) hl0
    have a2 := fmod_lt (a := n + 1) hl0
    have hi : ((n + 1).fmod cs.length).toNat < cs.length := by omega
    refine ⟨cs[((n + 1).fmod cs.length).toNat], atI_nat a1 (by simp [hi]), hcs2 _ (List.getElem_mem hi)⟩
  have m1 : MulOk cell 48271 := mul_ok 40 40 (by omega) (by omega) (by omega) (by omega) (by omega)
  have m2 : MulOk (n + 1) 69621 := mul_ok 60 40 (by omega) (by omega) (by omega) (by omega) (by omega)
  have m5 : MulOk (n + 1) 40014 := mul_ok 60 40 (by omega) (by omega) (by omega) (by omega) (by omega)
  have x0 := fmod_nn (a := cell * 48271 + (n + 1) * 69621 + 1) (b := 2147483647) (by omega)
  have x1 := fmod_lt (a := cell * 48271 + (n + 1) * 69621 + 1) (b := 2147483647) (by omega)
  generalize hx : (cell * 48271 + (n + 1) * 69621 + 1).fmod 2147483647 = mixed at x0 x1
  have m3 : MulOk mixed mixed := mul_ok 40 40 (by omega) (by omega) (by omega) (by omega) (by omega)
  have m4 : MulOk mixed 16807 := mul_ok 40 40 (by omega) (by omega) (by omega) (by omega) (by omega)
  have d32 : ∀ i, DivOk i 32 := fun i => div_ok 10 (by omega) (by omega) (by omega) (by omega)
  have bag2 : ∀ (z' : Int) (gs' : List Int) (M' : Mem), 0 ≤ z' → (∀ x ∈ gs', 0 ≤ x) → M' b = some (.lst [.int z', .int (n + 1), .ref g, .ref c]) → M' g = some (.lst (gs'.map D.int)) → M' c = M c → Bag M' b g c (N + 1) :=
    fun z' gs' M' a1 a2 a3 a4 a5 => ⟨⟨z', n + 1, gs', cs, a3, a4, a5.trans h3, a1, by omega, by omega, a2, hcs, hcs2⟩, bg, bc, gc⟩
  have dn : ∀ z' : Int, 0 ≤ z' → 0 ≤ z'.fdiv many := fun z' h => by
    rw [Int.fdiv_eq_ediv_of_nonneg _ (by omega)]; exact Int.ediv_nonneg h (by omega)
  by_cases hz0 : z = 0
  · subst hz0
    rcases List.eq_nil_or_concat gs with rfl | ⟨gs', y, rfl⟩
    · unfold rK_draw
      simp [h1, h2, h3, nb, nc, ncg, bg, bc, gc, atI4_0, atI4_1, atI4_2, atI4_3, ix0, ix1, hcell, m1, m2, m3, m4, m5, hx, hcs, d32, hm]
      exact ⟨_, Sub.refl _, k _ _ (fmod_nn hm0) (fmod_lt hm0) (bag2 0 [] _ (by omega) (by simp) (by simp) (by simp [nb, h2]) (by simp [nc])) fun a a1 a2 => by simp [a1]⟩
    · have hy : 0 ≤ y := hgs y (by simp)
      have hgs' : ∀ x ∈ gs', 0 ≤ x := fun x hx => hgs x (by simp [hx])
      have e1 : (gs' ++ [y])[gs'.length]? = some y := by simp
      by_cases hy0 : 0 < y
      · unfold rK_draw
        simp [h1, h2, h3, nb, nc, ncg, bg, bc, gc, atI4_0, atI4_1, atI4_2, atI4_3, ix0, ix1, hcell, m1, m2, m3, m4, m5, hx, hcs, d32, hm, hdiv, hy0]
        exact ⟨_, Sub.refl _, k _ _ (fmod_nn hm0) (fmod_lt hm0) (bag2 (y.fdiv many) gs' _ (dn y hy) hgs' (by simp) (by simp [nb]) (by simp [nc, ncg])) fun a a1 a2 => by simp [a1, a2]⟩
      · have : y = 0 := by omega
        subst this
        unfold rK_draw
        simp [h1, h2, h3, nb, nc, ncg, bg, bc, gc, atI4_0, atI4_1, atI4_2, atI4_3, ix0, ix1, hcell, m1, m2, m3, m4, m5, hx, hcs, d32, hm, hdiv]
        exact ⟨_, Sub.refl _, k _ _ (fmod_nn hm0) (fmod_lt hm0) (bag2 0 gs' _ (by omega) hgs' (by simp) (by simp [nb]) (by simp [nc, ncg])) fun a a1 a2 => by simp [a1, a2]⟩
  · have hz1 : 0 < z := by omega
    unfold rK_draw
    simp [h1, h2, h3, nb, nc, ncg, bg, bc, gc, atI4_0, atI4_1, atI4_2, atI4_3, ix0, ix1, hm, hdiv, hz0, hz1]
    exact ⟨_, Sub.refl _, k _ _ (fmod_nn hm0) (fmod_lt hm0) (bag2 (z.fdiv many) gs _ (dn z hz) hgs (by simp) (by simp [nb, h2]) (by simp [nc])) fun a a1 a2 => by simp [a1]⟩
theorem len_draw (ds : List D) (M : Mem) (R : DK) (h : spDraw ds M R) : ds.length = 2 := by
  obtain ⟨b, g, c, N, many, rfl, _⟩ := h
  rfl
/-- pick -/
def spPick : DSp := fun ds M R => ∃ (b g c l : Addr) (N : Nat) (xs : List D), ds = [.ref b, .ref l] ∧ Bag M b g c N ∧ N ≤ 2 ^ 40 ∧ M l = some (.lst xs) ∧ xs ≠ [] ∧ xs.length < 2 ^ 60 ∧ l ≠ b ∧ l ≠ g ∧ l ≠ c ∧
  ∀ (x : D) (M' : Mem), x ∈ xs → Bag M' b g c (N + 1) → SameBut b g M M' → R x M'
def rK_pick (sp_draw : DSp) : DS := sRet (dBin gIx (dVar 1) (dCall sp_draw (aCons (dVar 0) (aCons (dCB gLen (aCons (dVar 1) (aNil))) (aNil)))))
theorem k_pick (ds : List D) (M : Mem) (R : DK) (h : spPick ds M R) : rK_pick spDraw (endsF R) (startD ["bag", "some"] ds) M := by
  obtain ⟨b, g, c, l, N, xs, rfl, hB, hN, hl, hx, hx2, lb, lg, lc, k⟩ := h
  have hn : (0 : Int) < xs.length := by
    cases xs with
    | nil => exact absurd rfl hx
    | cons a r => simp only [List.length_cons]; omega
  unfold rK_pick
  simp [hl]
  refine ⟨b, g, c, N, xs.length, rfl, hB, hN, hn, by omega, fun x M' h0 h1 hB' hS => ?_⟩
  have e : M' l = some (.lst xs) := (hS l lb lg).trans hl
  have hi : x.toNat < xs.length := by omega
  have hat : atI xs x = some xs[x.toNat] := atI_nat h0 (List.getElem?_eq_getElem hi)
  simp [e, hat]
  exact ⟨M', Sub.refl _, k _ M' (List.getElem_mem hi) hB' hS⟩
theorem len_pick (ds : List D) (M : Mem) (R : DK) (h : spPick ds M R) : ds.length = 2 := by
  obtain ⟨b, g, c, l, N, xs, rfl, _⟩ := h
  rfl
/-! ### bag -/
def cellsOf (ns : List Int) : List Int := ns.map (fun i => if i < 0 then -i else i) ++ [7]
def spBag : DSp := fun ds M R => ∃ (d : D) (ns : List Int) (ok : Mem → Prop), ds = [d] ∧ srcD M d = some (ns.map D.int, ok) ∧ (∀ p o, M p = none → ok (updM M p o)) ∧ ns.length ≤ 63 ∧
  ∀ (b g c : Addr) (M' : Mem), M b = none → M g = none → M c = none → Bag M' b g c 0 → Sub M M' → R (.ref b) M'
def rK_bag  : DS := sSeq (sAsg (dBin gAdd (dLc (iSeq (dVar 0)) (gNm 2) (tYesD) (dCB gAbs (aCons (dCB gInt (aCons (dVar 2) (aNil))) (aNil))) [2]) (dLst (aCons (dC (.int 7)) (aNil)))) (gNm 1)) (sSeq (sAsg (dLst (aNil)) (gNm 3)) (sSeq (sIf (dTest (dBin gEq (dBin gMod (dCB gInt (aCons (dBin gIx (dVar 1) (dC (.int 0))) (aNil))) (dC (.int 2))) (dC (.int 0)))) (sSeq (sAsg (dLc (iSeq (dVar 1)) (gNm 2) (dTest (dBin gGe (dVar 2) (dBin gPow (dC (.int 10)) (dC (.int 18))))) (dBin gDiv (dVar 2) (dC (.int 2))) [2]) (gNm 3)) (sDrop (dBM0 isLst gReverse (dVar 3)))) (sNext)) (sRet (dLst (aCons (dC (.int 0)) (aCons (dC (.int 0)) (aCons (dVar 3) (aCons (dLc (iSeq (dVar 1)) (gNm 2) (tYesD) (dBin gMod (dCB gInt (aCons (dVar 2) (aNil))) (dC (.int 2147483647))) [2]) (aNil)))))))))
theorem size_line : sizeLine = 16777216 := by decide
theorem new_some {M : Mem} {p : Addr} {o : MO} (h : M p = none) : (updM M p o) p = some o ∧ Sub M (updM M p o) := ⟨updM_same, Sub.new h⟩
theorem Sub.un {M M' : Mem} {a : Addr} (h : Sub M M') (e : M' a = none) : M a = none := by
  cases q : M a with
  | none => rfl
  | some o => rw [h a o q] at e; cases e
theorem Sub.put {M M' : Mem} {a : Addr} {o : MO} (h : Sub M M') (e : M a = none) : Sub M (updM M' a o) := fun b u q => by
  have : b ≠ a := fun z => by rw [z, e] at q; cases q
  rw [updM_ne this]; exact h b u q
theorem ne_none {M : Mem} {p q : Addr} {o : MO} (h : M p = none) (h2 : M q = some o) : q ≠ p := fun e => by rw [e, h] at h2; cases h2
def matA (d : D) : D := match d with
  | .int i => .int (if i < 0 then -i else i)
  | _ => d
def matM (d : D) : D := match d with
  | .int i => .int (i.fmod 2147483647)
  | _ => d
def matG (d : D) : Option D := match d with
  | .int i => if (10 : Int) ^ 18 ≤ i then some (.int (i.fdiv 2)) else none
  | _ => none
theorem map_matA (ns : List Int) : (ns.map D.int).map matA ++ [D.int 7] = (cellsOf ns).map D.int := by
  unfold cellsOf matA
  simp
theorem matG_ints : ∀ ns : List Int, ∃ gs : List Int, (ns.map D.int).filterMap matG = gs.map D.int ∧ ∀ x ∈ gs, 0 ≤ x
  | [] => ⟨[], rfl, fun _ z => nomatch z⟩
  | n :: r => by
    obtain ⟨gs, h1, h2⟩ := matG_ints r
    by_cases hn : (10 : Int) ^ 18 ≤ n
    · refine ⟨n.fdiv 2 :: gs, ?_, ?_⟩
      · simp only [List.map_cons, List.filterMap_cons, matG, if_pos hn, h1]
      · intro x hx
        rcases List.mem_cons.mp hx with rfl | hx
        · rw [Int.fdiv_eq_ediv_of_nonneg _ (by omega)]
          exact Int.ediv_nonneg (by omega) (by omega)
        · exact h2 x hx
    · refine ⟨gs, ?_, h2⟩
      simp only [List.map_cons, List.filterMap_cons, matG, if_neg hn, h1]
theorem matM_ints (ns : List Int) : (ns.map D.int).map matM = (ns.map fun i => i.fmod 2147483647).map D.int := by simp [matM]
theorem k_bag (ds : List D) (M : Mem) (R : DK) (h : spBag ds M R) : rK_bag (endsF R) (startD ["script", "cells", "cell", "great"] ds) M := by
  obtain ⟨d, ns, ok, rfl, hd, hok, hl, k⟩ := h
  have cpow : CPow 10 18 := ⟨by omega, by omega, by decide⟩
  have d2 : ∀ i, DivOk i 2 := fun i => div_ok 10 (by omega) (by omega) (by omega) (by omega)
  have cl : (cellsOf ns).length ≤ 64 := by unfold cellsOf; simp; omega
  have sl := size_line
  unfold rK_bag
  simp only [eq_sSeq, eq_sAsg, eq_dBin, eq_dLc, eq_iSeq, eq_dVar, eq_startD, List.map_cons, List.map_nil, List.cons_append, List.getElem?_cons_zero, hd]
  refine lc_map matA (by simp; omega) (fun p acc hp => hok p _ hp) (fun x p acc RY hx hp h => ?_) (fun p hp => ?_)
  · obtain ⟨n, hn, rfl⟩ := List.mem_map.mp hx
    simpa [wipeD, matA] using h
  obtain ⟨e1, s1⟩ := new_some (o := .lst ((ns.map D.int).map matA)) hp
  generalize updM M p (.lst ((ns.map D.int).map matA)) = M1 at e1 s1
  simp only [eq_dLst, eq_aCons, eq_dC, eq_aNil]
  refine ⟨by simp; omega, fun p2 hp2 => ?_⟩
  obtain ⟨e2, s2⟩ := new_some (o := .lst [D.int 7]) hp2
  generalize updM M1 p2 (.lst [D.int 7]) = M2 at e2 s2
  simp only [eq_gAddll, s2 _ _ e1, e2, map_matA]
  refine ⟨by simp; omega, fun l hl' => ?_⟩
  obtain ⟨e3, s3⟩ := new_some (o := .lst ((cellsOf ns).map D.int)) hl'
  generalize updM M2 l (.lst ((cellsOf ns).map D.int)) = M3 at e3 s3
  have S3 : Sub M M3 := (s1.trans s2).trans s3
  obtain ⟨c0, hc0⟩ : ∃ c0 : Int, atI ((cellsOf ns).map D.int) 0 = some (.int c0) := by
    cases hq : cellsOf ns with
    | nil => simp [cellsOf] at hq
    | cons a r => exact ⟨a, atI_nat (by omega) (by simp)⟩
  simp only [eq_gNm, eq_sSeq, eq_sAsg, eq_dLst, eq_aNil]
  refine ⟨by simp, fun g hg => ?_⟩
  obtain ⟨e4, s4⟩ := new_some (o := .lst []) hg
  generalize updM M3 g (.lst []) = M4 at e4 s4
  have l4 := s4 _ _ e3
  have gM : M g = none := S3.un hg
  have lg : l ≠ g := ne_none hg e3
  -- the rest, from where the list of great cells stands
  have rest : ∀ (M5 : Mem) (g' : Addr) (gs : List Int) (o : Option D), M g' = none → Sub M M5 → M5 l = some (.lst ((cellsOf ns).map D.int)) → M5 g' = some (.lst (gs.map D.int)) → (∀ x ∈ gs, 0 ≤ x) → l ≠ g' →
      (sRet (dLst (aCons (dC (.int 0)) (aCons (dC (.int 0)) (aCons (dVar 3) (aCons (dLc (iSeq (dVar 1)) (gNm 2) (tYesD) (dBin gMod (dCB gInt (aCons (dVar 2) (aNil))) (dC (.int 2147483647))) [2]) (aNil))))))) (endsF R) [some d, some (.ref l), o, some (.ref g')] M5 := by
    intro M5 g' gs o n5 S5 l5 g5 hgs lg5
    simp [l5]
    refine lc_map matM (by simp; omega) (fun q acc hq => ?_) (fun x q acc RY hx hq h => ?_) (fun q hq => ?_)
    · rw [updM_ne (ne_none hq l5)]; exact l5
    · obtain ⟨n, hn, rfl⟩ := List.mem_map.mp hx
      simpa [wipeD, matM] using h
    · obtain ⟨e6, s6⟩ := new_some (o := .lst (((cellsOf ns).map D.int).map matM)) hq
      generalize updM M5 q (.lst (((cellsOf ns).map D.int).map matM)) = M6 at e6 s6
      refine ⟨by omega, fun b hb => ?_⟩
      obtain ⟨e7, s7⟩ := new_some (o := .lst [D.int 0, D.int 0, D.ref g', D.ref q]) hb
      generalize updM M6 b (.lst [D.int 0, D.int 0, D.ref g', D.ref q]) = M7 at e7 s7
      have S7 : Sub M M7 := (S5.trans s6).trans s7
      refine ⟨M7, Sub.refl _, k b g' q M7 ((S5.trans s6).un hb) n5 (S5.un hq) ⟨⟨0, 0, gs, (cellsOf ns).map fun i => i.fmod 2147483647, e7, s7 _ _ (s6 _ _ g5), ?_, Int.le_refl _, Int.le_refl _, Int.le_refl _, hgs, ?_, ?_⟩, ?_, ?_, ?_⟩ S7⟩
      · rw [← matM_ints]; exact s7 _ _ e6
      · simp [cellsOf]
      · intro x hx
        obtain ⟨i, _, rfl⟩ := List.mem_map.mp hx
        exact ⟨fmod_nn (by omega), fmod_lt (by omega)⟩
      · exact (ne_none hb (s6 _ _ g5)).symm
      · exact (ne_none hb e6).symm
      · exact ne_none hq g5
  have fin := rest M4 g [] none gM (S3.trans s4) l4 e4 (fun _ z => nomatch z) lg
  by_cases hev : c0.fmod 2 = 0
  · simp [l4, hc0, hev]
    obtain ⟨gs, hgs, hgs0⟩ := matG_ints (cellsOf ns)
    refine lc_fm matG (by simp; omega) (fun q acc hq => ?_) (fun x q acc RY RN hx hq h1 h2 => ?_) (fun q hq => ?_)
    · rw [updM_ne (ne_none hq l4)]; exact l4
    · obtain ⟨n, hn, rfl⟩ := List.mem_map.mp hx
      by_cases hn18 : (10 : Int) ^ 18 ≤ n
      · have := h1 (.int (n.fdiv 2)) (if_pos hn18)
        simp [wipeD, cpow, d2]
        rw [if_pos (by omega)]
        exact this
      · have := h2 (if_neg hn18)
        simp [wipeD, cpow, d2]
        rw [if_neg (by omega)]
        exact this
    · rw [hgs]
      have lq : l ≠ q := ne_none hq l4
      simp
      have S4 : Sub M M4 := S3.trans s4
      have := rest (updM (updM M4 q (.lst (gs.map D.int))) q (.lst (gs.map D.int).reverse)) q gs.reverse none (S4.un hq) ((S4.put (S4.un hq)).put (S4.un hq)) (by simp [lq, l4]) (by simp) (by simpa using hgs0) lq
      simpa using this
  · simp [l4, hc0, hev]
    simpa [l4] using fin
theorem len_bag (ds : List D) (M : Mem) (R : DK) (h : spBag ds M R) : ds.length = 1 := by
  obtain ⟨d, ns, ok, rfl, _⟩ := h
  rfl
end DD
end
section
namespace DD
open PySem PySem.Spec PyProof.Rows L2
/-! ### same -/
@[simp] theorem eq_gIsi {M : Mem} {R : DK} {d : D} {n : String} : gIsi [d, .ty n] M R = (match tyD M d with
    | some a => n ∈ ["bool", "int", "str", "tuple", "list", "dict"] ∧ R (.bl (isB a n)) M
    | none => False) := propext Iff.rfl
@[simp] theorem ty_non {M : Mem} : tyD M .non = some "NoneType" := rfl
@[simp] theorem ty_bl {M : Mem} {b : Bool} : tyD M (.bl b) = some "bool" := rfl
@[simp] theorem ty_int {M : Mem} {b : Int} : tyD M (.int b) = some "int" := rfl
@[simp] theorem ty_str {M : Mem} {b : Str} : tyD M (.str b) = some "str" := rfl
@[simp] theorem ty_tup {M : Mem} {b : List D} : tyD M (.tup b) = some "tuple" := rfl
@[simp] theorem tru_bl {M : Mem} {b : Bool} : truD M (.bl b) = some b := rfl
@[simp] theorem isNon_non : isNon .non = true := rfl
@[simp] theorem isNon_bl {b : Bool} : isNon (.bl b) = false := rfl
@[simp] theorem isNon_int {b : Int} : isNon (.int b) = false := rfl
@[simp] theorem isNon_str {b : Str} : isNon (.str b) = false := rfl
@[simp] theorem isNon_tup {b : List D} : isNon (.tup b) = false := rfl
theorem isB_1 : isB "NoneType" "bool" = false := by decide
theorem isB_2 : isB "bool" "bool" = true := by decide
theorem isB_3 : isB "int" "bool" = false := by decide
theorem isB_4 : isB "str" "bool" = false := by decide
theorem isB_5 : isB "tuple" "bool" = false := by decide
theorem isB_6 : isB "int" "int" = true := by decide
theorem isB_7 : isB "str" "int" = false := by decide
theorem isB_8 : isB "tuple" "int" = false := by decide
theorem isB_9 : isB "str" "str" = true := by decide
theorem isB_10 : isB "tuple" "str" = false := by decide
theorem isB_11 : isB "tuple" "tuple" = true := by decide
@[simp] theorem eq_gEqbb {M : Mem} {R : DK} {b : Bool} : gEq (.bl b) (.bl b) M R = R (.bl true) M := by
  show (true = true ∧ true = true ∧ R (.bl (PyData.eqv (.bool b) (.bool b))) M) = _
  have : PyData.eqv (.bool b) (.bool b) = true := by unfold PyData.eqv; simp
  rw [this]; simp
@[simp] theorem eq_gEqss {M : Mem} {R : DK} {a b : Str} : gEq (.str a) (.str b) M R = (SeqAt.shaped (.str a) = true ∧ SeqAt.shaped (.str b) = true ∧ R (.bl (decide (a = b))) M) := by
  show (SeqAt.shaped (.str a) = true ∧ SeqAt.shaped (.str b) = true ∧ R (.bl (PyData.eqv (.str a) (.str b))) M) = _
  have : PyData.eqv (.str a) (.str b) = decide (a = b) := by
    unfold PyData.eqv
    exact Bool.eq_iff_iff.mpr (by simp)
  rw [this]
/-- data that _law_same walks: tuples at most n deep -/
def okD : Nat → D → Prop
  | _, .non => True
  | _, .bl _ => True
  | _, .int _ => True
  | _, .str s => SeqAt.shaped (.str s) = true
  | 0, .tup _ => False
  | n + 1, .tup xs => xs.length < 2 ^ 61 ∧ ∀ x ∈ xs, okD n x
  | _, .ref _ => False
  | _, .ty _ => False
  | _, .rol _ => False
  | _, .pup _ => False
def spSame (n : Nat) : DSp := fun ds M R => ∃ x, ds = [x, x] ∧ okD n x ∧ R (.bl true) M
def spNo : DSp := fun _ _ _ => False
def rK_same (sp_l_same : DSp) : DS := sSeq (sIf (dTest (dBin gIsN (dVar 1) (dC .non))) (sRet (dBin gIsN (dVar 0) (dC .non))) (sNext)) (sSeq (sIf (dOr (dTru (dCB gIsi (aCons (dVar 1) (aCons (dC (.ty "bool")) (aNil))))) (dTru (dCB gIsi (aCons (dVar 0) (aCons (dC (.ty "bool")) (aNil)))))) (sRet (dAndV (dCB gIsi (aCons (dVar 1) (aCons (dC (.ty "bool")) (aNil)))) (dAndV (dCB gIsi (aCons (dVar 0) (aCons (dC (.ty "bool")) (aNil)))) (dBin gEq (dVar 0) (dVar 1))))) (sNext)) (sSeq (sIf (dTru (dCB gIsi (aCons (dVar 1) (aCons (dC (.ty "int")) (aNil))))) (sRet (dAndV (dCB gIsi (aCons (dVar 0) (aCons (dC (.ty "int")) (aNil)))) (dBin gEq (dVar 0) (dVar 1)))) (sNext)) (sSeq (sIf (dTru (dCB gIsi (aCons (dVar 1) (aCons (dC (.ty "str")) (aNil))))) (sRet (dAndV (dCB gIsi (aCons (dVar 0) (aCons (dC (.ty "str")) (aNil)))) (dBin gEq (dVar 0) (dVar 1)))) (sNext)) (sSeq (sIf (dOr (dNot (dTru (dCB gIsi (aCons (dVar 1) (aCons (dC (.ty "tuple")) (aNil)))))) (dOr (dNot (dTru (dCB gIsi (aCons (dVar 0) (aCons (dC (.ty "tuple")) (aNil)))))) (dTest (dBin gNe (dCB gLen (aCons (dVar 0) (aNil))) (dCB gLen (aCons (dVar 1) (aNil))))))) (sRet (dC (.bl false))) (sNext)) (sSeq (sFor (iRange1 (aCons (dCB gLen (aCons (dVar 1) (aNil))) (aNil))) (gNm 2) (sIf (dNot (dTru (dCall sp_l_same (aCons (dBin gIx (dVar 0) (dVar 2)) (aCons (dBin gIx (dVar 1) (dVar 2)) (aNil)))))) (sRet (dC (.bl false))) (sNext))) (sRet (dC (.bl true))))))))
theorem range_at {lo : Int} {n i : Nat} {x : D} (h : (rangeD lo n)[i]? = some x) : i < n ∧ x = .int (lo + (i : Int)) := by
  have hi := (List.getElem?_eq_some_iff.mp h).1
  rw [rangeD_length] at hi
  rw [rangeD_get hi] at h
  exact ⟨hi, (Option.some.inj h).symm⟩
theorem k_same (n : Nat) (sp : DSp) (hsp : ∀ m, n = m + 1 → sp = spSame m) (ds : List D) (M : Mem) (R : DK) (h : spSame n ds M R) : rK_same sp (endsF R) (startD ["found", "due", "k"] ds) M := by
  obtain ⟨x, rfl, hx, k⟩ := h
  have fin : ∃ M0, Sub M0 M ∧ R (.bl true) M0 := ⟨M, Sub.refl _, k⟩
  unfold rK_same
  cases x with
  | non => simpa using fin
  | bl b => simpa [isB_2] using fin
  | int b => simpa [isB_3, isB_6] using fin
  | str b =>
    have hs : SeqAt.shaped (.str b) = true := by cases n <;> exact hx
    simpa [isB_4, isB_7, isB_9, hs] using fin
  | ref a => cases n <;> exact hx.elim
  | ty a => cases n <;> exact hx.elim
  | rol a => cases n <;> exact hx.elim
  | pup a => cases n <;> exact hx.elim
  | tup xs =>
    cases n with
    | zero => exact hx.elim
    | succ n =>
      have e := hsp n rfl
      subst e
      obtain ⟨hl, hx⟩ := hx
      simp [isB_5, isB_8, isB_10, isB_11]
      refine ⟨by omega, for_in (fun i δ M' => M' = M ∧ ∃ o, δ = [some (.tup xs), some (.tup xs), o]) ⟨rfl, _, rfl⟩ (fun _ _ _ _ _ => trivial) ?_ ?_⟩
      · rintro i y δ M' hy ⟨rfl, o, rfl⟩
        obtain ⟨hi, rfl⟩ := range_at hy
        have hat : atI xs (0 + (i : Int)) = some xs[i] := atI_nat (by omega) (by simp [hi])
        simp at hat
        simp [hat]
        exact ⟨xs[i], rfl, hx _ (List.getElem_mem hi), by simp⟩
      · rintro δ M' ⟨rfl, o, rfl⟩
        simpa using fin
theorem len_same (n : Nat) (ds : List D) (M : Mem) (R : DK) (h : spSame n ds M R) : ds.length = 2 := by
  obtain ⟨x, rfl, _⟩ := h
  rfl
end DD
end
section
namespace DD
open PySem PySem.Spec PyProof.Rows L2
/-- a def that is never reached -/
theorem dfn_no {W : Wd} {k : Nat} {x qual : Str} {st : Stmt} {f : Addr} {fd : FuncData} {ps : List Str} (F : FnP W.K x qual st f fd) (bd : Binds W.K fd ps []) : DFn W k f fd ps spNo :=
  ⟨⟨fun vs H Q E h => by obtain ⟨_, _, _, _, _, h, _⟩ := h; exact h.elim, fun A outer s H args us vs Q E hr e b r h => by obtain ⟨_, _, _, _, _, h, _⟩ := h; exact h.elim⟩, fun _ _ _ h => h.elim, bd, F.kp⟩
/-- keywords alone -/
theorem bindsK {K : PySem.W.Frag} {x qual : Str} {params : Arguments} {body : List Stmt} {scope : Scope} {f : Addr} {fd : FuncData} {ps ks : List Str} {is : List Nat} (F : FunD K x qual params body scope [] [] f fd)
    (h : ∀ (kV doc pm : Value) (an : Option Addr) (cdv ct : Value) (ws : List Value), ws.length = ks.length → bindArgs (PySem.W.fnOf x qual params body scope .none kV doc pm an cdv ct) ⟨[], ks.zip ws⟩ = pure (ps.zip (permL is ws))) (s : Shared) (ws : List Value) (hl : ws.length = ks.length) :
    BindsTo s fd ⟨[], ks.zip ws⟩ (ps.zip (permL is ws)) := by
  obtain ⟨oc, od, dV, kV, doc, pm, an, cdv, ct, osl, rfl, lk, hcd, hD, hK⟩ := F.ex
  rcases hD with ⟨_, rfl⟩ | ⟨e, _⟩
  · exact .of_eq (h kV doc pm an cdv ct ws hl)
  · exact absurd rfl e
theorem gconst_int {W : Wd} {x : Str} {i : Int} (h : ∃ t, W.mg x = some (.int i t)) : GConst W x (.int i) := by
  obtain ⟨t, h⟩ := h
  exact ⟨⟨_, .int i, h, ⟨t, rfl⟩, fun _ => rfl⟩⟩
theorem code_at {K : PySem.W.Frag} {p : He.Defn} {x qual : Str} {st : Stmt} {fd : FuncData} (F : FnP K x qual st (He.fAd K p) fd) : fd.code = .ref (He.cT K p).1 := by
  obtain ⟨oc, od, dV, kV, doc, pm, an, cdv, ct, osl, rfl, lk, hcd, hD, hK⟩ := F.ex
  obtain ⟨c, rfl⟩ := He.codeIn_ref hcd
  show Value.ref c = .ref (He.codeOf K p)
  rw [He.codeOf_eq lk rfl]
/-- DCls without a world -/
structure DCls0 (K : PySem.W.Frag) (C : Addr) (ns : List Str) : Prop where
  cl : Cls K C
  na : ∀ f ∈ ns, NoAttr K C f
  nd : ns.Nodup
  few : ns.length < 1000
theorem DCls0.at {W : Wd} {C : Addr} {ns : List Str} (h : DCls0 W.K C ns) : DCls W C ns := ⟨h.cl, h.na, h.nd, h.few⟩
end DD
end
section
/-! ### a tuple, once or never -/
namespace L2
open PySem PySem.Spec PyProof.Rows
theorem dd_mul_one (l : Addr) (items : Array Value) (n : Nat) (dd : Option Addr) (sl : Array (Option Value)) (u : Tok) :
    Meets (Builtin.«tuple.__mul__» ⟨[.ref l, .int 1 u], []⟩) (fun _ R s => s.heap.get? l = some { cls := .type "tuple", dict := dd, data := .seq items n, slots := sl } ∧ R (.ok (.ret (Value.ref l))) s) :=
  .of_wp fun prog w A R s h => by
    obtain ⟨hp, g, d, tk, os⟩ := s
    obtain ⟨hl, h⟩ := h
    have f1 := AutoSeq1.idx_int
    have c1 : (items.isEmpty || (1 : Int) == 1) = true := by simp
    wp_walk using wpAny_loadPart' hl
    repeat (first
      | (refine wpAny_ite_false (decide_eq_false (by decide)) ?_; wp_walk using wpAny_loadPart' hl)
      | (refine wpAny_ite_true (decide_eq_true (by rw [c1])) ?_; wp_walk using wpAny_loadPart' hl)
      | (refine wpAny_ite_true (decide_eq_true (by rfl)) ?_; wp_walk using wpAny_loadPart' hl))
    exact ⟨_, rfl, h⟩
theorem dd_mul_none (l : Addr) (items : Array Value) (n : Nat) (dd : Option Addr) (sl : Array (Option Value)) (x : Int) (u : Tok) (c0 : (decide (x < -(2 ^ 63)) || decide (x ≥ 2 ^ 63)) = false) (c1 : (items.isEmpty || x == 1) = false) (c2 : (decide (x ≤ 0) || items.isEmpty) = true) :
    Meets (Builtin.«tuple.__mul__» ⟨[.ref l, .int x u], []⟩) (fun _ R s => s.heap.get? l = some { cls := .type "tuple", dict := dd, data := .seq items n, slots := sl } ∧
      R (.ok (.ret (Value.ref s.heap.objs.size))) { s with heap := s.heap.push { cls := Value.type "tuple", data := Data.seq #[] } }) :=
  .of_wp fun prog w A R s h => by
    obtain ⟨hp, g, d, tk, os⟩ := s
    obtain ⟨hl, h⟩ := h
    have f1 := AutoSeq1.idx_int
    wp_walk using wpAny_loadPart' hl
    repeat (first
      | (refine wpAny_ite_false (decide_eq_false (by rw [c0]; exact Bool.false_ne_true)) ?_; wp_walk using wpAny_loadPart' hl)
      | (refine wpAny_ite_false (decide_eq_false (by rw [c1]; exact Bool.false_ne_true)) ?_; wp_walk using wpAny_loadPart' hl)
      | (refine wpAny_ite_true (decide_eq_true (by rw [c2])) ?_; wp_walk using wpAny_loadPart' hl))
    exact ⟨_, rfl, h⟩
def rRepA (K : PySem.W.Frag) : R2 := fun x y H Q => ∃ l k xs, x = .ref l ∧ y = .int k ∧ SqT K H l xs ∧ xs ≠ [] ∧ -(2 ^ 62) ≤ k ∧ k ≤ 1 ∧ (k = 1 → Q (.ref l) H) ∧ (k ≤ 0 → ∀ p, H p = none → Q (.ref p) (upd H p (.tup [])))
section
variable {X : Cx}
theorem op_repA : OpR X (binaryOp .Mult) (rRepA X.K) := by
  intro pins s σ H x y v u Q I rx ry h
  obtain ⟨l, k, xs, rfl, rfl, hT, hne, h1, h2, q1, q0⟩ := h
  cases rx
  obtain ⟨t, rfl⟩ := ry
  obtain ⟨its, r, ⟨⟨cls, dd, data, sl⟩, ho, hc, n, hd⟩, hs⟩ := I.tuple hT
  simp only at hc hd
  subst hc hd
  have hle : its.length = xs.length := r.length.symm
  have hn : its ≠ [] := fun e => hne (by
    rw [e] at hle
    exact List.eq_nil_of_length_eq_zero hle.symm)
  have hi : its.toArray.isEmpty = false := by
    cases its with
    | nil => exact absurd rfl hn
    | cons a b => rfl
  have go : ∀ (Rr : Result → Shared → Prop), Rr = Rr → True := fun _ _ => trivial
  by_cases hk : k = 1
  · subst hk
    refine wpAny_binaryOp_repeat_ref (T := "tuple") (U := "int") (by decide) ⟨_, ho, rfl⟩ (fun s' => typeIs_int s' 1 t) noFill_tuple_mul F.fills_int_mul F.slot_int_rmul repeat_tuple F.slot_int_index.lookup
      (call_meets F.slot_int_rmul (typeIs_int s 1 t) F.entry_int_rmul (F.args_int_rmul_2 _ _) (int_rmul_tuple 1 t l its.toArray n dd sl)
        ⟨ho, rfl, ⟨_, ho, rfl⟩, call_meets F.slot_tuple_mul ⟨_, ho, rfl⟩ F.entry_tuple_mul (F.args_tuple_mul_2 _ _) (dd_mul_one l its.toArray n dd sl t) ⟨ho, ?_⟩⟩)
    exact ⟨.ref l, H, I, rfl, q1 rfl⟩
  · have hk0 : k ≤ 0 := by omega
    have c0 : (decide (k < -(2 ^ 63)) || decide (k ≥ 2 ^ 63)) = false := by
      rw [decide_eq_false (by omega), decide_eq_false (by omega)] <;> rfl
    have c1 : (its.toArray.isEmpty || k == 1) = false := by
      rw [hi, Bool.false_or]
      exact beq_eq_false_iff_ne.mpr (by omega)
    have c2 : (decide (k ≤ 0) || its.toArray.isEmpty) = true := by
      rw [decide_eq_true hk0]; rfl
    refine wpAny_binaryOp_repeat_ref (T := "tuple") (U := "int") (by decide) ⟨_, ho, rfl⟩ (fun s' => typeIs_int s' k t) noFill_tuple_mul F.fills_int_mul F.slot_int_rmul repeat_tuple F.slot_int_index.lookup
      (call_meets F.slot_int_rmul (typeIs_int s k t) F.entry_int_rmul (F.args_int_rmul_2 _ _) (int_rmul_tuple k t l its.toArray n dd sl)
        ⟨ho, rfl, ⟨_, ho, rfl⟩, call_meets F.slot_tuple_mul ⟨_, ho, rfl⟩ F.entry_tuple_mul (F.args_tuple_mul_2 _ _) (dd_mul_none l its.toArray n dd sl k t c0 c1 c2) ⟨ho, ?_⟩⟩)
    refine ⟨.ref s.heap.objs.size, _, I.laid (t' := s.toks) (o := .tup []) (fun b ob q => Heap.get?_push_of_some _ q) (Nat.le_refl _) ?_, rfl, q0 hk0 _ (I.hok.fresh (Nat.le_refl _))⟩
    exact ⟨by rw [sizeLine_eq]; simp, [], .nil, IsTup.new _ #[]⟩
end
end L2
namespace DD
open PySem PySem.Spec PyProof.Rows L2
section
variable {X : Cx}
/-! ### * of ints, lists, tuples; - of bools -/
def gMulA : D2 := fun x y M R => match x, y with
  | .int i, .int j => MulOk i j ∧ R (.int (i * j)) M
  | .tup xs, .int k => xs ≠ [] ∧ -(2 ^ 62) ≤ k ∧ k ≤ 1000 ∧ xs.length ≤ 1000 ∧ R (.tup (List.replicate k.toNat xs).flatten) M
  | .ref a, .int k => match M a with
    | some (.lst xs) => -(2 ^ 63) ≤ k ∧ k < 2 ^ 63 ∧ xs.length * k.toNat ≤ sizeLine ∧ ∀ p, M p = none → R (.ref p) (updM M p (.lst (List.replicate k.toNat xs).flatten))
    | _ => False
  | _, _ => False
def rMulA (K : PySem.W.Frag) : R2 := fun x y H Q => (rI MulOk fun i j => V.int (i * j)) x y H Q ∨ rRep x y H Q ∨ rRepT K x y H Q ∨ rRepA K x y H Q
theorem op_mulA : OpR X (binaryOp .Mult) (rMulA X.K) := opr_or op_mulG (opr_or op_rep (opr_or op_repT op_repA))
theorem RVs.rep {K : PySem.W.Frag} {H : Hp} {ds : List D} {vs : List V} (r : RVs K H ds vs) : ∀ n : Nat, RVs K H (List.replicate n ds).flatten (List.replicate n vs).flatten
  | 0 => RVs.nil
  | n + 1 => by
    rw [List.replicate_succ, List.replicate_succ, List.flatten_cons, List.flatten_cons]
    exact r.append (RVs.rep r n)
theorem od_mulA {K : PySem.W.Frag} : OpD K (rMulA K) gMulA := by
  intro x y M R H v w Q g m rx ry k
  unfold gMulA at g
  split at g
  · cases rx; cases ry
    exact .inl ⟨_, _, rfl, rfl, g.1, kq_keep k m g.2 rfl⟩
  · obtain ⟨a, vs, rfl, s1, q1⟩ := rx
    cases ry
    obtain ⟨hne, h1, h2, h3, g⟩ := g
    have hne' : vs ≠ [] := fun e => by
      subst e
      exact hne (List.length_eq_zero_iff.mp (q1.length.trans rfl))
    rename_i n
    by_cases hn : 2 ≤ n
    · exact .inr (.inr (.inl ⟨a, n, vs, rfl, rfl, s1, hne', hn, h2, by rw [← q1.length]; exact h3, fun p hp => kq_newT k m hp (q1.rep _) g⟩))
    · refine .inr (.inr (.inr ⟨a, n, vs, rfl, rfl, s1, hne', h1, by omega, fun e => ?_, fun e p hp => ?_⟩))
      · subst e
        have e1 : ∀ l : List D, (List.replicate (1 : Int).toNat l).flatten = l := fun l => by
          show (List.replicate 1 l).flatten = _
          simp
        rw [e1] at g
        exact kq_keep k m g ⟨a, vs, rfl, s1, q1⟩
      · have e0 : n.toNat = 0 := by omega
        rw [e0] at g
        exact kq_newT k m hp RVs.nil g
  · cases rx; cases ry
    split at g
    · rename_i xs hx
      obtain ⟨vs, a1, q1⟩ := rm_lst m hx
      exact .inr (.inl ⟨_, _, vs, rfl, rfl, a1, g.1, g.2.1, by rw [← q1.length]; exact g.2.2.1, fun p hp => kq_new k m hp (q1.rep _) (g.2.2.2 p (rm_none m hp))⟩)
    · exact g.elim
  · exact g.elim
def gSubA : D2 := fun x y M R => match x, y with
  | .int i, .int j => R (.int (i - j)) M
  | .bl i, .bl j => R (.int (b2i i - b2i j)) M
  | _, _ => False
def rSubA : R2 := fun x y H Q => (rI0 fun i j => V.int (i - j)) x y H Q ∨ ∃ i j, x = .bl i ∧ y = .bl j ∧ Q (.int (b2i i - b2i j)) H
theorem op_subA : OpR X (binaryOp .Sub) rSubA := opr_or op_sub (by
  intro pins s σ H x y v u Q I rx ry h
  obtain ⟨i, j, rfl, rfl, q⟩ := h
  cases rx; cases ry
  exact PyProof.Rows.sub_bool ⟨.int _, H, I.tok _, ⟨_, rfl⟩, q⟩)
theorem od_subA {K : PySem.W.Frag} : OpD K rSubA gSubA := by
  intro x y M R H v w Q g m rx ry k
  unfold gSubA at g
  split at g
  · cases rx; cases ry
    exact .inl ⟨_, _, rfl, rfl, kq_keep k m g rfl⟩
  · cases rx; cases ry
    exact .inr ⟨_, _, rfl, rfl, kq_keep k m g rfl⟩
  · exact g.elim
theorem _root_.L2.Room.units2 {k : Nat} {A : Around} (r : Room k A) : A.units + 65 < cLine := by have := r.un; omega
/-! ### in, not in of a list of data -/
def gIn : D2 := fun x y M R => match pydM M x, pydM M y with
  | some a, some (.list bs) => SeqAt.shaped a = true ∧ SeqAt.shaped (.list bs) = true ∧ R (.bl (bs.any fun z => PyData.eqv z a)) M
  | _, _ => False
def gNotIn : D2 := fun x y M R => match pydM M x, pydM M y with
  | some a, some (.list bs) => SeqAt.shaped a = true ∧ SeqAt.shaped (.list bs) = true ∧ R (.bl (!bs.any fun z => PyData.eqv z a)) M
  | _, _ => False
theorem od_in {K : PySem.W.Frag} : OpD K (rInD K) gIn := by
  intro x y M R H v w Q q m rx ry k
  unfold gIn at q
  split at q
  · rename_i a b e1 e2
    exact ⟨a, b, pydM_dp m e1 rx, pydM_dp m e2 ry, q.1, q.2.1, kq_keep k m q.2.2 rfl⟩
  · exact q.elim
theorem od_notIn {K : PySem.W.Frag} : OpD K (rNotInD K) gNotIn := by
  intro x y M R H v w Q q m rx ry k
  unfold gNotIn at q
  split at q
  · rename_i a b e1 e2
    exact ⟨a, b, pydM_dp m e1 rx, pydM_dp m e2 ry, q.1, q.2.1, kq_keep k m q.2.2 rfl⟩
  · exact q.elim
/-! ### any(a list of data) -/
def gAny : DC1 := fun xs M R => match xs with
  | [.ref a] => match M a with
    | some (.lst ys) => match pyds ys with
      | some ps => PyData.plainAll ps = true ∧ (∀ x ∈ ps, x.fits63) ∧ R (.bl (ps.any PyData.truthy)) M
      | none => False
    | _ => False
  | _ => False
def rAnyD (K : PySem.W.Frag) : List V → Hp → VK → Prop := fun vs H Q => ∃ (a : Addr) (xs : List V) (ps : List PyData), vs = [V.ref a] ∧ H a = some (.lst xs) ∧ DpAll K H xs ps ∧ PyData.plainAll ps = true ∧ (∀ x ∈ ps, x.fits63) ∧ Q (.bl (ps.any PyData.truthy)) H
theorem cr_anyD (hc : X.calm = true) : CallR X (.builtin "any") (rAnyD X.K) := by
  intro pins s σ H vs us Q I r h
  obtain ⟨a, xs, ps, rfl, hs, dp, hp, hf, q⟩ := h
  obtain ⟨its, rv, hl, hz⟩ := I.list (.inl (.inl hs))
  rw [Vals.ref1 r]
  obtain ⟨as, rr⟩ := Dp.readsAll I ps xs its dp rv
  refine PySem.W.any_list_data (I.ok.hd hc) hl.isList (by simpa using rr) hp hf fun h' tk hk => ?_
  exact ⟨.bl _, H, I.kept hk, rfl, q⟩
theorem cd_any {K : PySem.W.Frag} : CallD K (rAnyD K) gAny := by
  intro xs M R H vs Q g m r k
  unfold gAny at g
  split at g
  · obtain ⟨v, ws, rfl, q, t⟩ := r
    cases t; cases q
    split at g
    · rename_i ys he
      split at g
      · rename_i ps hps
        obtain ⟨us, a1, r2⟩ := rm_lst m he
        exact ⟨_, us, ps, rfl, a1, pyds_dp hps r2, g.1, g.2.1, kq_keep k m g.2.2 rfl⟩
      · exact g.elim
    · exact g.elim
  · exact g.elim
/-! ### three names at once -/
def sPar3 (i j l : Nat) (ta : DA) : DS := fun E δ M => ta δ M fun ds M1 => match ds with
  | [u, v, w] => E.nx (((δ.set i (some u)).set j (some v)).set l (some w)) M1
  | _ => False
theorem pds_par3 {i j l : Nat} {x y z : Str} {a b c : Expr} {ta : DA} {px py pz pt pos : Pos} {kt k2 : Nat} {pt2 : Pos} (hc : X.calm = true) (hN : X.N.Nodup) (hi : X.N[i]? = some x) (hj : X.N[j]? = some y) (hl : X.N[l]? = some z) (hij : i ≠ j) (hil : i ≠ l) (hjl : j ≠ l)
    (hx : X.env.scope.names.lookup x = some .local) (hy : X.env.scope.names.lookup y = some .local) (hz : X.env.scope.names.lookup z = some .local) (ha : PDA X [a, b, c] ta)
    (hw : swappedStores [.Tuple [.Name x px, .Name y py, .Name z pz] kt pt] (.Tuple [a, b, c] k2 pt2) X.env = pure (some [x, y, z]) := by rfl)
    (hs : swapsWithSole [.Tuple [.Name x px, .Name y py, .Name z pz] kt pt] (.Tuple [a, b, c] k2 pt2) pos.line X.env = pure false := by rfl) :
    PDS X (.Assign [.Tuple [.Name x px, .Name y py, .Name z pz] kt pt] (.Tuple [a, b, c] k2 pt2) pos) (sPar3 i j l ta) := ⟨PS_imp (ps_par3 hc hN hi hj hl hij hil hjl hx hy hz ha.pa hw hs) fun Dd σ H q => by
  obtain ⟨δ, M, R, S, m, h, k⟩ := q
  refine ⟨δ, M, _, S, m, h, fun ds M1 vs H1 h1 e1 r1 m1 => ?_⟩
  split at h1
  · obtain ⟨v, ws, rfl, q1, v2, w2, rfl, q2, v3, w3, rfl, q3, t⟩ := r1
    cases t
    exact ⟨v, v2, v3, rfl, k.nx _ M1 _ H1 h1 e1 ((((S.ext e1).set q1).set q2).set q3) m1⟩
  · exact h1.elim⟩
/-! ### l[i] op= e -/
def gIxL : D2 := fun x y M R => match x, y with
  | .ref a, .int i => match M a with
    | some (.lst xs) => match atI xs i with
      | some d => R d M
      | none => False
    | _ => False
  | _, _ => False
theorem od_ixL {K : PySem.W.Frag} : OpD K (rIxL K) gIxL := by
  intro x y M R H v w Q q m rx ry k
  unfold gIxL at q
  split at q
  · cases rx; cases ry
    split at q
    · rename_i xs hx
      obtain ⟨vs, a1, q1⟩ := rm_lst m hx
      split at q
      · rename_i d hd
        obtain ⟨u, h1, h2⟩ := atI_rv q1 hd
        exact ⟨_, vs, _, u, rfl, rfl, .inl (.inl a1), h1, kq_keep k m q h2⟩
      · exact q.elim
    · exact q.elim
  · exact q.elim
def sAugS (to ti te : DE) (g : DIp) : DS := fun E δ M => to δ M fun o M1 => ti δ M1 fun i M2 => gIxL o i M2 fun x M3 => te δ M3 fun y M4 => g x y M4 fun z M5 => gSetL o i z M5 fun M6 => E.nx δ M6
theorem pget_lst : PGet X (rIxL X.K) := fun pins s σ H o i ov iv Q I ro ri h => by
  obtain ⟨p, xs, i, z, rfl, rfl, hq, he, q⟩ := h
  cases ro
  obtain ⟨t, rfl⟩ := ri
  obtain ⟨its, r, pl, hz⟩ := I.list hq
  obtain ⟨j, h1, h2, h3, h4, h5⟩ := atI_get he
  obtain ⟨w, ew, rw'⟩ := r.get h2
  have hl := r.length
  have hn := line63
  have fin : EP X pins σ Q w s := ⟨z, H, I, rw', q⟩
  by_cases h0 : 0 ≤ i
  · have hj : i.toNat = j := by
      rw [seqIndex_of h0 h5] at h1
      exact Option.some.inj h1
    exact wpAny_getItem_list (x := w) pl.isList h0 (by omega) (by rw [hj]; simpa using ew) fin
  · have hj : (i + (its.toArray.size : Int)).toNat = j := by
      rw [seqIndex_neg (by omega) h4] at h1
      rw [List.size_toArray, ← hl]
      exact Option.some.inj h1
    exact wpAny_getItem_list_neg (x := w) pl.isList (by omega) (by rw [List.size_toArray] <;> omega) (by omega) (by rw [hj]; simpa using ew) fin
theorem pds_augS {o i e : Expr} {to ti te : DE} {op : Operator} {ri : TIp} {g : DIp} {tpos pos : Pos} (ho : PD X o to) (hi : PD X i ti) (he : PD X e te) (hp : PIp X op ri) (hg : IpD X.K ri g)
    (ha : ∀ ov iv new, augStore i ov iv new = (do holding [new, ov, iv] (setItem ov iv new); release [new, ov, iv] []; pure .next) := by intros; rfl) : PDS X (.AugAssign (.Subscript o i tpos) op e pos) (sAugS to ti te g) :=
  ⟨PS_imp (ps_augS ho.pe hi.pe pget_lst he.pe hp set_list ha) fun Dd σ H q => by
    obtain ⟨δ, M, R, S, m, h, k⟩ := q
    refine ⟨δ, M, _, S, m, h, fun x M1 v H1 h1 e1 r1 m1 => ?_⟩
    refine ⟨δ, M1, _, S.ext e1, m1, h1, fun y M2 w H2 h2 e2 r2 m2 => ?_⟩
    refine od_ixL x y M2 _ H2 v w _ h2 m2 (r1.ext e2) r2 fun d M3 u H3 h3 e3 r3 m3 => ?_
    refine ⟨δ, M3, _, S.ext ((e1.trans e2).trans e3), m3, h3, fun z M4 t H4 h4 e4 r4 m4 => ?_⟩
    refine hg d z M4 _ H4 u t _ h4 m4 (r3.ext e4) r4 fun z2 M5 t2 H5 h5 e5 r5 m5 => ?_
    have e15 := ((e2.trans e3).trans e4).trans e5
    refine sd_lst x y z2 M5 _ H5 v w t2 _ h5 m5 (r1.ext e15) (r2.ext ((e3.trans e4).trans e5)) r5 fun M6 H6 h6 e6 m6 => ?_
    exact k.nx δ M6 σ H6 h6 ((e1.trans e15).trans e6) (S.ext ((e1.trans e15).trans e6)) m6⟩
end
/-! ### reversed(xs), range(i, j, c) -/
section
variable {X : Cx} {tg : Expr}
def iReversed (t : DA) : DI := fun δ M R => t δ M fun ds M1 => match ds with
  | [d] => match srcD M1 d with
    | some (xs, ok) => R xs.reverse ok M1
    | none => False
  | _ => False
def iRange3 (t : DA) : DI := fun δ M R => t δ M fun ds M1 => match ds with
  | [.int i, .int j, .int c] => c = -1 ∧ (-(2 ^ 62) ≤ i ∧ i < 2 ^ 62 ∧ -(2 ^ 62) ≤ j ∧ j < 2 ^ 62) ∧ R ((List.range (i - j).toNat).map fun (n : Nat) => D.int (i - (n : Int))) (fun _ => True) M1
  | _ => False
theorem itc_ok {K : PySem.W.Frag} {H1 : Hp} (i : Int) (n : Nat) : ItOk K H1 (Itc i (-1) n) ((List.range n).map fun (k : Nat) => D.int (i - (k : Int))) (fun _ => True) where
  go := fun t H M e m o hi => by
    show t < n
    simpa using hi
  yld := fun t H M v H' e m o hi y => by
    obtain ⟨rfl, rfl⟩ := y
    have ht : t < n := by simpa using hi
    refine ⟨.int (i - (t : Int)), by simp [List.getElem?_map, List.getElem?_range ht], Ext.refl _, ?_, m⟩
    show V.int _ = V.int _
    congr 1
    omega
  stop := fun t H M e m o hi => by
    show n ≤ t
    simpa using hi
theorem pdi_range3 {a b c : Expr} {ta : DA} {p pos : Pos} (hg : Gl X "range") (hm : X.mg "range" = none) (ha : PDA X [a, b, c] ta)
    (hs : starEach [a, b, c] X.env = (false, eval a X.env) :: starEach [b, c] X.env := by rfl) (hpl : (backTo pos (starEach [b, c] X.env)).any (·.1) = false := by rfl) :
    PDI X tg (.Call (.Name "range" p) [a, b, c] [] pos) (iRange3 ta) :=
  ⟨PI_imp (pi_range3 hg hm ha.pa hs hpl) fun σ H Q q => by
    obtain ⟨δ, M, R, S, m, h, k⟩ := q
    refine ⟨δ, M, _, S, m, h, fun ds M1 vs H1 h1 e1 r1 m1 => ?_⟩
    split at h1
    · obtain ⟨v, ws, rfl, q1, v2, w2, rfl, q2, v3, w3, rfl, q3, t⟩ := r1
      cases t; cases q1; cases q2; cases q3
      obtain ⟨rfl, hb, h1⟩ := h1
      exact ⟨_, _, _, _, rfl, RgC.neg hb.1 hb.2.1 hb.2.2.1 hb.2.2.2, k _ _ M1 _ H1 h1 e1 m1 (itc_ok _ _)⟩
    · exact h1.elim⟩
theorem rev_get {α : Type} {xs : List α} {i : Nat} (h : i < xs.length) : xs.reverse[i]? = xs[xs.length - 1 - i]? := by
  rw [List.getElem?_reverse h]
theorem itv_ok {K : PySem.W.Frag} {H1 : Hp} {a : Addr} {ds : List D} {ok : Mem → Prop} (h : ∀ H M, Ext K H1 H → RM K H M → ok M → ∃ vs, SqL K H a vs ∧ RVs K H ds vs) : ItOk K H1 (Itv K a ds.length) ds.reverse ok where
  go := fun i H M e m o hi => by
    have hi : i < ds.length := by simpa using hi
    obtain ⟨vs, s, r⟩ := h H M e m o
    obtain ⟨v, hv, _⟩ := r.get (i := ds.length - 1 - i) (List.getElem?_eq_getElem (by omega))
    exact ⟨hi, vs, v, s, hv⟩
  yld := fun i H M v H' e m o hi y => by
    have hi : i < ds.length := by simpa using hi
    obtain ⟨vs, s, r⟩ := h H M e m o
    obtain ⟨rfl, y⟩ := y
    obtain ⟨u, hu, ru⟩ := r.get (i := ds.length - 1 - i) (List.getElem?_eq_getElem (by omega))
    have := (y vs s).symm.trans hu
    cases this
    exact ⟨ds[ds.length - 1 - i], by rw [rev_get hi]; exact List.getElem?_eq_getElem _, Ext.refl _, ru, m⟩
  stop := fun i H M e m o hi => by
    show ds.length ≤ i
    simpa using hi
theorem itvT_ok {K : PySem.W.Frag} {H1 : Hp} {a : Addr} {ds : List D} {vs : List V} {ok : Mem → Prop} (s : SqT K H1 a vs) (r : RVs K H1 ds vs) : ItOk K H1 (RT.ItvT K a ds.length) ds.reverse ok where
  go := fun i H M e m o hi => by
    have hi : i < ds.length := by simpa using hi
    obtain ⟨v, hv, _⟩ := r.get (i := ds.length - 1 - i) (List.getElem?_eq_getElem (by omega))
    exact ⟨hi, vs, v, e.sqT s, hv⟩
  yld := fun i H M v H' e m o hi y => by
    have hi : i < ds.length := by simpa using hi
    obtain ⟨rfl, y⟩ := y
    obtain ⟨u, hu, ru⟩ := (r.ext e).get (i := ds.length - 1 - i) (List.getElem?_eq_getElem (by omega))
    have := (y vs (e.sqT s)).symm.trans hu
    cases this
    exact ⟨ds[ds.length - 1 - i], by rw [rev_get hi]; exact List.getElem?_eq_getElem _, Ext.refl _, ru, m⟩
  stop := fun i H M e m o hi => by
    show ds.length ≤ i
    simpa using hi
def dOne (t : DA) : DE := fun δ M R => t δ M fun ds M1 => match ds with
  | [d] => R d M1
  | _ => False
theorem pdi_reversed {e : Expr} {te : DE} {p pos : Pos} (hg : Gl X "reversed") (hm : X.mg "reversed" = none) (he : PD X e te) (hs : starEach [e] X.env = (false, eval e X.env) :: starEach [] X.env := by rfl) : PDI X tg (.Call (.Name "reversed" p) [e] [] pos) (iReversed (aCons te aNil)) :=
  ⟨PI_imp (RT.pi_revA hg hm he.pe hs) fun σ H Q q => by
    obtain ⟨δ, M, R, S, m, h, k⟩ := q
    have h : te δ M fun d M1 => match srcD M1 d with
      | some (xs, ok) => R xs.reverse ok M1
      | none => False := h
    refine ⟨δ, M, _, S, m, h, fun d M1 v H1 h1 e1 r1 m1 => ?_⟩
    split at h1
    · rename_i xs ok he
      unfold srcD at he
      split at he
      · cases he
        obtain ⟨a, vs, rfl, s, r⟩ := r1
        refine ⟨a, vs, rfl, .inr ⟨s, k _ _ M1 _ H1 h1 e1 m1 ?_⟩⟩
        rw [← r.length]
        exact itvT_ok s r
      · cases he
        obtain ⟨a, vs, rfl, s, r⟩ := r1
        refine ⟨a, vs, rfl, .inl ⟨s.sq, k _ _ M1 _ H1 h1 e1 m1 ?_⟩⟩
        rw [← r.length]
        exact itv_ok fun H' M' e' m' _ => ⟨vs, (e'.rol s).sq, r.ext e'⟩
      · cases r1
        split at he
        · rename_i ys hy
          cases he
          obtain ⟨vs, a1, q1⟩ := rm_lst m1 hy
          refine ⟨_, vs, rfl, .inl ⟨.inl (.inl a1), k _ _ M1 _ H1 h1 e1 m1 ?_⟩⟩
          rw [← q1.length]
          refine itv_ok fun H' M' e' m' o => ?_
          obtain ⟨ws, a2, q2⟩ := rm_lst m' o
          exact ⟨ws, .inl (.inl a2), q2⟩
        · cases he
      · cases he
    · exact h1.elim⟩
end
/-! ### readings, unfolded by simp -/
section
variable {δ : DSt} {M : Mem} {R : DK} {RT : Bool → Mem → Prop} {RA : List D → Mem → Prop} {E : DEnds}
@[simp] theorem eq_gMulAii {i j : Int} : gMulA (.int i) (.int j) M R = (MulOk i j ∧ R (.int (i * j)) M) := propext Iff.rfl
@[simp] theorem eq_gMulAti {xs : List D} {k : Int} : gMulA (.tup xs) (.int k) M R = (xs ≠ [] ∧ -(2 ^ 62) ≤ k ∧ k ≤ 1000 ∧ xs.length ≤ 1000 ∧ R (.tup (List.replicate k.toNat xs).flatten) M) := propext Iff.rfl
@[simp] theorem eq_gMulAli {a : Addr} {k : Int} : gMulA (.ref a) (.int k) M R = (match M a with
    | some (.lst xs) => -(2 ^ 63) ≤ k ∧ k < 2 ^ 63 ∧ xs.length * k.toNat ≤ sizeLine ∧ ∀ p, M p = none → R (.ref p) (updM M p (.lst (List.replicate k.toNat xs).flatten))
    | _ => False) := propext Iff.rfl
@[simp] theorem eq_gSubAii {i j : Int} : gSubA (.int i) (.int j) M R = R (.int (i - j)) M := propext Iff.rfl
@[simp] theorem eq_gSubAbb {i j : Bool} : gSubA (.bl i) (.bl j) M R = R (.int (b2i i - b2i j)) M := propext Iff.rfl
@[simp] theorem eq_gAnyl {a : Addr} : gAny [.ref a] M R = (match M a with
    | some (.lst ys) => (match pyds ys with
      | some ps => PyData.plainAll ps = true ∧ (∀ x ∈ ps, x.fits63) ∧ R (.bl (ps.any PyData.truthy)) M
      | none => False)
    | _ => False) := propext Iff.rfl
@[simp] theorem eq_sPar3 {i j l : Nat} {t : DA} : sPar3 i j l t E δ M = t δ M fun ds M1 => (match ds with
  | [u, v, w] => E.nx (((δ.set i (some u)).set j (some v)).set l (some w)) M1
  | _ => False) := propext Iff.rfl
@[simp] theorem eq_gIxL {a : Addr} {i : Int} : gIxL (.ref a) (.int i) M R = (match M a with
    | some (.lst xs) => (match atI xs i with
      | some d => R d M
      | none => False)
    | _ => False) := propext Iff.rfl
@[simp] theorem eq_sAugS {to ti te : DE} {g : DIp} : sAugS to ti te g E δ M = to δ M fun o M1 => ti δ M1 fun i M2 => gIxL o i M2 fun x M3 => te δ M3 fun y M4 => g x y M4 fun z M5 => gSetL o i z M5 fun M6 => E.nx δ M6 := propext Iff.rfl
@[simp] theorem eq_iReversed {t : DA} {Q : List D → (Mem → Prop) → Mem → Prop} : iReversed t δ M Q = t δ M fun ds M1 => (match ds with
  | [d] => (match srcD M1 d with
    | some (xs, ok) => Q xs.reverse ok M1
    | none => False)
  | _ => False) := propext Iff.rfl
@[simp] theorem eq_iRange3 {t : DA} {Q : List D → (Mem → Prop) → Mem → Prop} : iRange3 t δ M Q = t δ M fun ds M1 => (match ds with
  | [.int i, .int j, .int c] => c = -1 ∧ (-(2 ^ 62) ≤ i ∧ i < 2 ^ 62 ∧ -(2 ^ 62) ≤ j ∧ j < 2 ^ 62) ∧ Q ((List.range (i - j).toNat).map fun (n : Nat) => D.int (i - (n : Int))) (fun _ => True) M1
  | _ => False) := propext Iff.rfl
@[simp] theorem eq_sWhile {c : DT} {tb : DS} : sWhile c tb E δ M = ∃ W : Nat → DSt → Mem → Prop, (∃ n, W n δ M) ∧ ∀ n δ M, W n δ M →
  c δ M fun b M1 => if b = true then tb { E with nx := fun δ' M' => ∃ n', n' < n ∧ W n' δ' M', ct := fun δ' M' => ∃ n', n' < n ∧ W n' δ' M', bk := E.nx } δ M1 else E.nx δ M1 := propext Iff.rfl
@[simp] theorem eq_iEnumerate {t : DA} {Q : List D → (Mem → Prop) → Mem → Prop} : iEnumerate t δ M Q = t δ M fun ds M1 => (match ds with
  | [d] => (match srcD M1 d with
    | some (xs, ok) => Q (enumD xs) ok M1
    | none => False)
  | _ => False) := propext Iff.rfl
end
end DD
end
section
namespace DD
open PySem PySem.Spec PyProof.Rows L2 GxR GenW
/-! ### any, all of a generator expression: the frame -/
theorem over_genLoop {A : Around} {elt : Expr} {gs : List Comprehension} {scope : Scope} {pos : Pos} {it acc : Value} {env : Env} : A.over (.compLoop (.GeneratorExp elt gs scope pos) 0 it acc env) [] = A.deeper env := by
  obtain ⟨hd, d, fr, g, u⟩ := A
  cases fr <;> cases g <;> simp [Around.over, Around.deeper, marksOver, frameCount, unitsOf, envsOf, guardsOf, pushEnvs, pushGuards, Code.envs, Code.env?, Code.isFrame, Code.guards, Code.isGuard, Code.weight, Code.frames, Code.isCreation, Code.isCaller, Code.cUnits]
theorem over_genStart {A : Around} {elt : Expr} {gs : List Comprehension} {scope : Scope} {pos : Pos} {it acc : Value} {env : Env} : A.over (.compStart (.GeneratorExp elt gs scope pos) 0 it acc env) [] = A.deeper env := by
  obtain ⟨hd, d, fr, g, u⟩ := A
  cases fr <;> cases g <;> simp [Around.over, Around.deeper, marksOver, frameCount, unitsOf, envsOf, guardsOf, pushEnvs, pushGuards, Code.envs, Code.env?, Code.isFrame, Code.guards, Code.isGuard, Code.weight, Code.frames, Code.isCreation, Code.isCaller, Code.cUnits]
/-- the context of a generator's frame -/
abbrev genX (X : Cx) (A' : Around) (s : Shared) (H : Hp) (ge : Env) (fp : List Addr) : Cx :=
  { X with A := A', s_0 := s, H_0 := H, env := ge, outer := X.stack, stack := ge :: X.stack, ex := fp, fn := fun _ => false, calm := true, pn := [], xe := fun _ _ => False }
section
variable {X : Cx} {pins : List (Addr × Obj)} {σ : L2.St} {H : Hp} {s : Shared}
theorem gen_start {scope : Scope} {own : List (Str × Nat)} {fp : List Addr} {A' : Around} {code : Value} {it : Value} {a : Addr} {ob : Obj} {h5 : Heap} {gn : Array GenState} {tk : Nat}
    (I : Inv X pins σ H s) (ok : BlkOk X.N X.env.scope scope own) (hN : X.N.Nodup) (nc : ∀ y ∈ scope.names, y.2 ≠ .cell)
    (hfp : ∀ b ∈ fp, FpOk X pins H b ∧ b < s.heap.objs.size) (hA : A'.frames = some (genEnv scope (cloFrom X.env.cells scope.names []) s.heap.objs.size code builtinsNs X.env :: X.stack)) (hh : A'.handled = none)
    (hn : h5.Ns s.heap.objs.size (fun y => if y = ".0" then some it else none)) (hk : ∀ b o, s.heap.get? b = some o → h5.get? b = some o) (ha : h5.get? a = some ob) (hal : s.heap.objs.size < a) (hob : ∀ v, ob.data ≠ .cell v) (hg : AllBare gn) :
    Inv (genX X A' s H (genEnv scope (cloFrom X.env.cells scope.names []) s.heap.objs.size code builtinsNs X.env) fp) [(a, ob)] (wipe σ (own.map (·.2))) H { s with gens := gn, heap := h5, toks := tk } := by
  have hfree : ∀ y ∈ scope.names, y.2 = .free → ∃ c, X.env.cells.lookup y.1 = some c := fun y hy e => by
    rcases ok.free y hy e with k | k
    · exact I.ok.has _ (.inl k)
    · exact I.ok.has _ (.inr k)
  generalize hge : genEnv scope (cloFrom X.env.cells scope.names []) s.heap.objs.size code builtinsNs X.env = ge at hA ⊢
  have hL : ge.locals = s.heap.objs.size := by rw [← hge]; rfl
  have hcl : ge.cells = cloFrom X.env.cells scope.names [] := by rw [← hge]; rfl
  have hsc : ge.scope = scope := by rw [← hge]; rfl
  have cm : ∀ {y c}, ge.cells.lookup y = some c → X.env.cells.lookup y = some c ∧ c < s.heap.objs.size := fun {y c} e => by
    rw [hcl] at e
    rcases cloFrom_mem (PySem.mem_of_lookup e) with hm | ⟨h1, rfl⟩
    · cases hm
    · obtain ⟨c, hc⟩ := hfree _ h1 rfl
      rw [hc]
      obtain ⟨w, z⟩ := I.cell _ _ hc
      exact ⟨rfl, z.lt⟩
  have look : ∀ {y}, scope.names.lookup y = some .free → ∃ c, ge.cells.lookup y = some c ∧ X.env.cells.lookup y = some c := fun {y} hl => by
    have hy : (y, NameKind.free) ∈ scope.names := PySem.mem_of_lookup hl
    obtain ⟨c', e'⟩ := mem_lookup (cloFrom_has (cells := X.env.cells) (acc := []) hy)
    rw [← hcl] at e'
    exact ⟨c', e', (cm e').1⟩
  have noCell : ∀ y, scope.names.lookup y ≠ some .cell := fun y e => nc _ (PySem.mem_of_lookup e) rfl
  have okB : (genX X A' s H ge fp).Ok := by
    refine ⟨I.ok.mod, by show ge.scope.kind = _; rw [hsc]; exact ok.kind, by show ge.globals = _; rw [← hge]; exact I.ok.glob, by show ge.builtins = _; rw [← hge]; rfl, by show s.heap.objs.size ≤ ge.locals; rw [hL]; exact Nat.le_refl _,
      fun y z c e1 e2 => I.ok.inj y z c (cm e1).1 (cm e2).1, fun y hy => ?_, fun y c z e => ?_, fun _ => hh, hA, .inr ⟨rfl, by show ge.frame = some ge.locals; rw [← hge]; rfl⟩, fun b hb => ⟨?_, fun y c e z => ?_⟩, I.bs, Nat.le_trans I.ok.bsz I.sz, fun b o e hb => ?_, fun b hb z => ?_, I.stack, I.stkFree⟩
    · show ∃ c, ge.cells.lookup y = some c
      rcases hy with hy | hy
      · have hy : ge.scope.names.lookup y = some .cell := hy
        rw [hsc] at hy
        exact absurd hy (noCell y)
      · have hy : ge.scope.names.lookup y = some .free := hy
        rw [hsc] at hy
        obtain ⟨c, h1, _⟩ := look hy
        exact ⟨c, h1⟩
    · cases z
    · show b ≠ ge.locals
      rw [hL]; exact Nat.ne_of_lt (hfp b hb).2
    · exact (hfp b hb).1.2.2.2.2.1 y c (cm e).1 z
    · rcases (hfp b hb).1.2.2.2.1 with z | z
      · exact I.ok.noex b o e z
      · exact absurd (Nat.lt_of_lt_of_le (Heap.lt_size e) (Nat.le_trans I.ok.bsz z)) (Nat.lt_irrefl _)
    · rcases List.mem_cons.mp (I.stkSub b z) with z | z
      · exact (hfp b hb).1.2.1 z
      · exact (hfp b hb).1.2.2.1 z
  refine ⟨okB, rfl, hg, Un.kept hk, ⟨_, by show h5.Ns ge.locals _; rw [hL]; exact hn, fun i y av e1 e2 e3 => ?_⟩, fun y c e => ?_, ?_, fun y c e => ?_, fun p hp => ?_, I.hok.kept hk, by rw [wipe_length]; exact I.len⟩
  · obtain ⟨e2, hne⟩ := wipe_some e2
    have e3 : Vis ge.scope y := e3
    rw [hsc] at e3
    have no : ∀ k', scope.names.lookup y = some k' → ¬ (k' = .local ∨ k' = .cell) := fun k' e hh => by
      rcases ok.own _ (PySem.mem_of_lookup e) hh with e' | e'
      · obtain ⟨p, hp, hpy⟩ := List.mem_map.mp e'
        have e3 := ok.ix p hp
        have : p.1 = y := hpy
        rw [this] at e3
        exact hne (List.mem_map.mpr ⟨p, hp, nodup_ix hN e3 e1⟩)
      · exact e' (List.mem_of_getElem? e1)
    have hfr : scope.names.lookup y = some .free := by
      rcases e3 with e3 | e3 | e3
      · exact absurd (.inl rfl) (no _ e3)
      · exact absurd (.inr rfl) (no _ e3)
      · exact e3
    obtain ⟨m, hn, hl⟩ := I.loc
    have hvis : Vis X.env.scope y := (ok.free _ (PySem.mem_of_lookup hfr) rfl).elim (fun k => .inr (.inl k)) (fun k => .inr (.inr k))
    obtain ⟨w, r, q⟩ := hl i y av e1 e2 hvis
    refine ⟨w, r, .inr ⟨.inr (by show ge.scope.names.lookup y = some .free; rw [hsc]; exact hfr), ?_⟩⟩
    obtain ⟨c, h1, h2⟩ := look hfr
    rcases q with ⟨k, _⟩ | ⟨_, c', e', z⟩
    · have k : X.env.scope.names.lookup y = some .local := k
      rcases ok.free _ (PySem.mem_of_lookup hfr) rfl with k' | k' <;> rw [show X.env.scope.names.lookup y = _ from k'] at k <;> cases k
    · rw [h2] at e'; cases e'
      exact ⟨c, h1, z.keeps hk⟩
  · obtain ⟨h1, _⟩ := cm e
    obtain ⟨w, z⟩ := I.cell y c h1
    exact ⟨w, z.keeps hk⟩
  · show H ge.locals = none
    rw [hL]; exact I.hok.fresh (Nat.le_refl _)
  · exact I.freeC y c (cm e).1
  · have hp : p = (a, ob) := List.mem_singleton.mp (show p ∈ [(a, ob)] from by simpa using hp)
    subst hp
    refine ⟨ha, I.hok.fresh (Nat.le_of_lt hal), ?_, ?_, hob⟩
    · show a ≠ ge.locals
      rw [hL]; exact Nat.ne_of_gt hal
    · intro hb
      have hb : a ∈ frs X.stack := hb
      obtain ⟨_, o, ho, _⟩ := I.stack.mem hb
      exact absurd (Nat.lt_trans (Heap.lt_size ho) hal) (Nat.lt_irrefl _)
end
end DD
end
section
namespace DD
open PySem PySem.Spec PyProof.Rows L2 GxR GenW
/-! ### any, all of a generator expression: the turns -/
/-- nothing but the generators' table has changed -/
structure SameG (g : Nat) (s s' : Shared) : Prop where
  heap : s'.heap = s.heap
  os : s'.os = s.os
  bare : AllBare s'.gens
  lt : g < s'.gens.size
theorem setGen_sz (s : Shared) (g : Nat) (x : GenState) : (s.setGen g x).gens.size = s.gens.size := by simp [Shared.setGen]
theorem bare_set {s : Shared} {g : Nat} {x : GenState} (h : AllBare s.gens) (hx : x.bare = true) : AllBare (s.setGen g x).gens := fun y hy => by
  obtain ⟨i, hi, rfl⟩ := Array.mem_iff_getElem.mp hy
  have hi2 : i < s.gens.size := by simpa [Shared.setGen] using hi
  have e : (s.setGen g x).gens[i]? = if g = i then some x else some s.gens[i] := by
    simp only [Shared.setGen, Array.getElem?_setIfInBounds]
    split
    · simp_all
    · simp [hi2]
  rw [Array.getElem?_eq_getElem hi] at e
  split at e
  · rw [Option.some.inj e]; exact hx
  · rw [Option.some.inj e]; exact h _ (Array.getElem_mem hi2)
section
variable {X : Cx} {pins : List (Addr × Obj)} {σ : L2.St} {H : Hp} {s s' : Shared}
theorem inv_sameG {g : Nat} (I : Inv X pins σ H s) (h : SameG g s s') : Inv X pins σ H s' :=
  I.call' (ch := []) h.os (by rw [h.heap]; exact Un.refl) (by rw [h.heap]; exact I.hok) h.bare fun b hb => nomatch hb
theorem inv_keptG (I : Inv X pins σ H s) (ho : s'.os = s.os) (hk : ∀ b o, s.heap.get? b = some o → s'.heap.get? b = some o) (hb : AllBare s'.gens) : Inv X pins σ H s' :=
  I.call' (ch := []) ho (Un.kept hk) (I.hok.kept hk) hb fun b hb => nomatch hb
end
section
variable {Y : Cx} {a : Addr} {ob : Obj} {g : Nat} {σw : L2.St} {stop : Bool} {Qe : Bool → Hp → Prop}
/-- the end: the answer b -/
def HaltG (Y : Cx) (p : Addr × Obj) (σw : L2.St) (Qe : Bool → Hp → Prop) (b : Bool) (s : Shared) : Prop := ∃ H', Inv Y [p] σw H' s ∧ Qe b H'
def YG (Y : Cx) (p : Addr × Obj) (g : Nat) (σw : L2.St) (stop : Bool) (Qe : Bool → Hp → Prop) : Protocol := fun _ _ v s kap =>
  g < s.gens.size ∧ ∃ b, v = .bool b ∧ (b = stop → HaltG Y p σw Qe stop s) ∧ (b ≠ stop → (∃ H', Inv Y [p] σw H' s) ∧ ∀ s'', SameG g s s'' → kap (.send .none) s'')
def RG (Y : Cx) (p : Addr × Obj) (σw : L2.St) (stop : Bool) (Qe : Bool → Hp → Prop) : GenEnd := fun n s₀ r s => r = .ok .next ∧ HaltG Y p σw Qe (!stop) s
theorem fp_at {pins : List (Addr × Obj)} {fp : List Addr} {σ' : L2.St} {H' : Hp} {s' : Shared} (hex : Y.ex = fp) (hpin : ∀ p ∈ Y.pn ++ pins, ∀ b ∈ fp, p.1 ≠ b) (I' : Inv Y pins σ' H' s') (hn : ∀ b ∈ fp, H' b = none) : ∀ b ∈ fp, FpOk Y pins H' b := fun b hb =>
  have hb' : b ∈ Y.ex := by rw [hex]; exact hb
  ⟨hn b hb, (I'.ok.exf b hb').1, I'.ok.exfs b hb', .inl hb', fun x c e => (I'.ok.exf b hb').2 x c e, fun p hp => hpin p hp b hb⟩
theorem seg_gloop {A : Around} {elt tg iter : Expr} {ifs : List Expr} {scope : Scope} {pos : Pos} {fp : List Addr} {it : Addr} {tn : Nat → Heap → Prop} {J : It} {g' : TG} {tt : TT} {te : TE} {own : List Nat} {σ : L2.St}
    (hA : A.deeper Y.env = Y.A) (hc : Y.calm = true) (hpn : Y.pn = []) (hex : Y.ex = fp) (hxe : Y.xe = fun _ _ => False) (haf : ∀ b ∈ fp, a ≠ b) (hco : Y.env.scope.isCoroutine = false)
    (T : Turn Y.prog Y.w Y.K tg J fp it tn) (pg : PG Y tg g') (pt : PTs Y ifs tt) (pe : PE Y elt te)
    (W : Nat → Nat → Hp → Prop)
    (turn : ∀ i m H, W i m H → (J.stop i H ∧ Qe (!stop) H) ∨ (J.go i H ∧ ∃ Nx : Hp → Prop, (∀ H', Nx H' → ∃ m', m' < m ∧ W (i + 1) m' H') ∧ ∀ x H', J.yld i H x H' → g' x (wipe σ own) H' fun σ2 H2 => wipe σ2 own = wipe σ own ∧ tt σ2 H2 fun b H3 =>
        if b = true then te σ2 H3 fun y H4 => ∃ b, y = .bl b ∧ (b = stop → Qe stop H4) ∧ (b ≠ stop → Nx H4) else Nx H3)) :
    ∀ (m n i : Nat) (s₀ s : Shared) (H : Hp), m < n → W i m H → Inv Y [(a, ob)] (wipe σ own) H s → tn i s.heap → (∀ b ∈ fp, H b = none) → g < s.gens.size →
      Seg (model Y.prog Y.w) A (RG Y (a, ob) (wipe σ own) stop Qe) (YG Y (a, ob) g (wipe σ own) stop Qe) n s₀ (.compLoop (.GeneratorExp elt [⟨tg, iter, ifs, 0⟩] scope pos) 0 (.ref it) .none Y.env)
        ((model Y.prog Y.w).den (.compLoop (.GeneratorExp elt [⟨tg, iter, ifs, 0⟩] scope pos) 0 (.ref it) .none Y.env)) [] s := by
  intro m
  induction m using Nat.strongRecOn with
  | ind m ih =>
  intro n i s₀ s H hmn w I st fn hlt
  have ov : A.over (.compLoop (.GeneratorExp elt [⟨tg, iter, ifs, 0⟩] scope pos) 0 (.ref it) .none Y.env) [] = Y.A := over_genLoop.trans hA
  have hpin : ∀ p ∈ Y.pn ++ [(a, ob)], ∀ b ∈ fp, p.1 ≠ b := fun p hp b hb => by
    rw [hpn] at hp
    have : p = (a, ob) := by simpa using hp
    rw [this]; exact haf b hb
  show Seg _ A _ _ _ s₀ _ ((compTurn (.GeneratorExp elt [⟨tg, iter, ifs, 0⟩] scope pos) 0 (.ref it) .none Y.env).onRaise (leaving Y.env)) [] s
  rw [compTurn_gen, Sem.onRaise_eq_wrap]
  refine seg_bind_wrap (wpAny_standAt ?_)
  have fk := fp_at hex hpin I fn
  rcases turn i m H w with ⟨hstop, hq⟩ | ⟨hgo, Nx, hNx, step⟩
  · refine seg_bind_wrap ?_
    rw [ov]
    refine wpAny_mono (T.done Y rfl rfl rfl hc i _ s _ H (fun _ _ => False) I fk st hstop) (fun r s1 h1 => ?_) fun _ _ e => e.elim
    obtain ⟨rfl, I1⟩ := h1
    exact seg_end (.ok .next) ⟨rfl, H, I1, hq⟩
  · refine seg_bind_wrap ?_
    rw [ov]
    refine wpAny_gsz (n := g + 1) hlt ?_
    refine wpAny_mono (T.item Y rfl rfl rfl hc i _ s _ H (fun _ _ => False) I fk st hgo) (fun r s1 h1 => ?_) fun _ _ e => e.elim
    obtain ⟨u, rfl, h1⟩ := h1
    intro hlt1
    refine seg_bind_wrap ?_
    rw [ov]
    refine wpAny_gsz (n := g + 1) hlt1 ?_
    refine wpAny_mono h1 (fun _ s2 h2 => ?_) fun _ _ e => e.elim
    obtain ⟨x, H2, I2, r2, y2, st2, fn2⟩ := h2
    intro hlt2
    have fk2 := fp_at hex hpin I2 fn2
    have I2' := I2.pinned fk2 (T.obj _ _ st2)
    refine seg_bind_wrap ?_
    rw [ov]
    refine wpAny_gsz (n := g + 1) hlt2 ?_
    refine wpAny_mono (pg.run _ s2 _ H2 x u _ I2' r2 (step x H2 y2)) (fun _ s3 h3 => ?_) fun e s' h => by rw [hxe] at h; exact h.elim
    obtain ⟨σ3, H3, I3, hw3, q3⟩ := h3
    intro hlt3
    refine seg_bind_wrap ?_
    rw [ov]
    refine wpAny_gsz (n := g + 1) hlt3 ?_
    refine wpAny_mono (pt.run _ s3 σ3 H3 _ I3 q3) (fun ok s4 h4 => ?_) fun e s' h => by rw [hxe] at h; exact h.elim
    obtain ⟨H4, I4, q4⟩ := h4
    intro hlt4
    have hl : (wipe σ own).length = σ3.length := by rw [← hw3, wipe_length]
    have back : ∀ {s' : Shared} {H' : Hp}, Inv Y ([(a, ob)] ++ pinsAt fp s2.heap) σ3 H' s' → Inv Y [(a, ob)] (wipe σ own) H' s' ∧ tn (i + 1) s'.heap ∧ ∀ b ∈ fp, H' b = none := fun {s' H'} I' => by
      have pin' : ∀ b ∈ fp, ∀ o, s2.heap.get? b = some o → s'.heap.get? b = some o ∧ H' b = none := fun b hb o e =>
        let z := I'.pin (b, o) (List.mem_append_right _ (List.mem_append_right _ (mem_pinsAt hb e)))
        ⟨z.1, z.2.1⟩
      refine ⟨(I'.unpinned (pins := [(a, ob)])).weak hl (fun j v e => ?_), T.keep _ _ _ st2 fun b hb o e => (pin' b hb o e).1, fun b hb => ?_⟩
      · rw [← hw3] at e
        exact (wipe_some e).1
      · obtain ⟨o, e, _⟩ := T.obj _ _ st2 b hb
        exact (pin' b hb o e).2
    cases ok with
    | false =>
      simp only [Bool.false_eq_true, if_false] at q4 ⊢
      obtain ⟨m', hm, w'⟩ := hNx _ q4
      obtain ⟨J1, J2, J3⟩ := back I4
      exact seg_again rfl (ih m' hm n (i + 1) s₀ s4 H4 (by omega) w' J1 J2 J3 hlt4)
    | true =>
      simp only [if_true] at q4 ⊢
      have hy : ∀ v, yieldOut Y.env v = yieldValue v := fun v => by simp only [yieldOut, hco, Bool.false_eq_true, if_false]
      simp only [hy]
      rw [Sem.bind_eq_wrap', Sem.bind_eq_wrap', Sem.wrap_wrap, Sem.wrap_wrap]
      refine seg_wrap ?_
      rw [ov]
      refine wpAny_gsz (n := g + 1) hlt4 ?_
      refine wpAny_mono (pe.run _ s4 σ3 H4 _ I4 q4) (fun z s5 h5 => ?_) fun e s' h => by rw [hxe] at h; exact h.elim
      obtain ⟨yv, H5, I5, r5, b, rfl, qs, qn⟩ := h5
      intro hlt5
      have r5 : z = .bool b := r5
      subst r5
      obtain ⟨J1, J2, J3⟩ := back I5
      refine seg_at ?_
      by_cases hb : b = stop
      · -- the answer is known
        obtain ⟨n, rfl⟩ : ∃ k, n = k + 1 := ⟨n - 1, by omega⟩
        exact seg_yield rfl rfl rfl ⟨hlt5, b, rfl, fun _ => ⟨H5, J1, qs hb⟩, fun h => absurd hb h⟩
      · obtain ⟨m', hm, w'⟩ := hNx _ (qn hb)
        obtain ⟨n, rfl⟩ : ∃ k, n = k + 1 := ⟨n - 1, by omega⟩
        refine seg_yield rfl rfl rfl ⟨hlt5, b, rfl, fun h => absurd h hb, fun _ => ⟨⟨H5, J1⟩, fun s'' hs => ?_⟩⟩
        refine seg_again rfl (ih m' hm n (i + 1) s'' s'' H5 (by omega) w' (inv_sameG J1 hs) ?_ J3 hs.lt)
        rw [hs.heap]; exact J2
end
end DD
end
section
namespace DD
open PySem PySem.Spec PyProof.Rows L2 GxR GenW
/-! ### any, all of a generator expression: the call -/
section
variable {Y : Cx} {a : Addr} {ob : Obj} {g : Nat} {σw : L2.St} {Qe : Bool → Hp → Prop} {A : Around} {R : Result → Shared → Prop}
/-- one turn of the consumer -/
theorem next_G {stop : Bool} {n : Nat} {s : Shared} {gs : GenState} {H : Hp} {Q : Option Value → Shared → Prop} {E : Value → Shared → Prop} (hh : A.handled = none) (hroom : A.depth < recursionLimit)
    (hob : ∀ h : Heap, h.get? a = some ob → h.IsGen a g) (I : Inv Y [(a, ob)] σw H s) (hgs : s.gens[g]? = some gs)
    (hgo : ∀ s'', SameG g s s'' → gs.Goes (model Y.prog Y.w) A.in1 (RG Y (a, ob) σw stop Qe) (YG Y (a, ob) g σw stop Qe) n (.send .none) s'')
    (hS : ∀ s', HaltG Y (a, ob) σw Qe stop s' → Q (some (.bool stop)) s')
    (hN : ∀ m s' gs' H', n = m + 1 → Inv Y [(a, ob)] σw H' s' → s'.gens[g]? = some gs' → (∀ s'', SameG g s' s'' → gs'.Goes (model Y.prog Y.w) A.in1 (RG Y (a, ob) σw stop Qe) (YG Y (a, ob) g σw stop Qe) m (.send .none) s'') → Q (some (.bool (!stop))) s')
    (hE : ∀ s', HaltG Y (a, ob) σw Qe (!stop) s' → Q none s') : wpAny (model Y.prog Y.w) A (pyNext (.ref a)) Q E s := by
  have hlt : g < s.gens.size := (Array.getElem?_eq_some_iff.mp hgs).1
  have pin : s.heap.get? a = some ob := (I.pin (a, ob) (List.mem_append_right _ List.mem_cons_self)).1
  have same0 : SameG g s (s.setGen g .running) := ⟨rfl, rfl, bare_set I.bare rfl, by rw [setGen_sz]; exact hlt⟩
  refine wpAny_pyNext_genexpQ (P := fun _ _ s₁ => HaltG Y (a, ob) σw Qe (!stop) s₁) hh I.nolimit hroom (hob _ pin) hgs (hgo _ same0) (fun v s₁ gs' hb hv => ?_) (fun s₁ hp h' hk => ?_)
  · obtain ⟨hlt1, b, rfl, hs, hn⟩ := hv
    by_cases e : b = stop
    · obtain ⟨H', I', q⟩ := hs e
      subst e
      exact hS _ ⟨H', inv_keptG I' rfl (fun _ _ e => e) (bare_set I'.bare hb), q⟩
    · obtain ⟨⟨H', I'⟩, hk⟩ := hn e
      have e2 : b = !stop := by cases b <;> cases stop <;> simp_all
      subst e2
      cases n with
      | zero => exact (hk _ ⟨rfl, rfl, I'.bare, hlt1⟩).elim
      | succ m =>
        refine hN m _ gs' H' rfl (inv_keptG I' rfl (fun _ _ e => e) (bare_set I'.bare hb)) ?_ fun s'' z => hk s'' ⟨z.heap, z.os, z.bare, z.lt⟩
        have : g < s₁.gens.size := hlt1
        simp [Shared.setGen, this]
  · obtain ⟨H', I', q⟩ := hp
    exact hE _ ⟨H', inv_keptG I' rfl hk (bare_set I'.bare rfl), q⟩
theorem any_loopG (hh : A.handled = none) (hroom : A.depth < recursionLimit) (hob : ∀ h : Heap, h.get? a = some ob → h.IsGen a g) (hR : ∀ b s', HaltG Y (a, ob) σw Qe b s' → R (.ok (.ret (.bool b))) s') :
    ∀ (n : Nat) (s : Shared) (gs : GenState) (H : Hp), Inv Y [(a, ob)] σw H s → s.gens[g]? = some gs → (∀ s'', SameG g s s'' → gs.Goes (model Y.prog Y.w) A.in1.in1 (RG Y (a, ob) σw true Qe) (YG Y (a, ob) g σw true Qe) n (.send .none) s'') →
      codeAny (model Y.prog Y.w) A (.builtin "any.loop" ⟨[.ref a], []⟩) R s := by
  intro n
  induction n with
  | zero =>
    intro s gs H I hgs hgo
    refine codeAny_builtin F.entry_any_loop ?_
    rw [Around.under_plainId F.plain_any_loop _]
    show wpAny _ A.in1 (pyNext (.ref a) >>= _) _ _ s
    refine wpAny_bind (next_G (A := A.in1) hh hroom hob I hgs hgo (fun s' h => ?_) (fun m s' gs' H' e => ?_) fun s' h => ?_)
    · refine wpAny_bind (wpAny_holding (wpAny_truthy_bool ?_))
      refine wpAny_bind (wpAny_letGo ?_)
      simp only [if_true]
      exact wpAny_bind (wpAny_rule (wpAny_pure (hR true s' h)))
    · omega
    · exact wpAny_bind (wpAny_rule (wpAny_pure (hR false s' h)))
  | succ n ih =>
    intro s gs H I hgs hgo
    refine codeAny_builtin F.entry_any_loop ?_
    rw [Around.under_plainId F.plain_any_loop _]
    show wpAny _ A.in1 (pyNext (.ref a) >>= _) _ _ s
    refine wpAny_bind (next_G (A := A.in1) hh hroom hob I hgs hgo (fun s' h => ?_) (fun m s' gs' H' e I' hgs' hgo' => ?_) fun s' h => ?_)
    · refine wpAny_bind (wpAny_holding (wpAny_truthy_bool ?_))
      refine wpAny_bind (wpAny_letGo ?_)
      simp only [if_true]
      exact wpAny_bind (wpAny_rule (wpAny_pure (hR true s' h)))
    · cases e
      refine wpAny_bind (wpAny_holding (wpAny_truthy_bool ?_))
      refine wpAny_bind (wpAny_letGo ?_)
      simp only [Bool.not_true, Bool.false_eq_true, if_false]
      exact wpAny_pure ⟨plainId_quiet F.plain_any_loop _, ih s' gs' H' I' hgs' hgo'⟩
    · exact wpAny_bind (wpAny_rule (wpAny_pure (hR false s' h)))
theorem all_loopG (hh : A.handled = none) (hroom : A.depth < recursionLimit) (hob : ∀ h : Heap, h.get? a = some ob → h.IsGen a g) (hR : ∀ b s', HaltG Y (a, ob) σw Qe b s' → R (.ok (.ret (.bool b))) s') :
    ∀ (n : Nat) (s : Shared) (gs : GenState) (H : Hp), Inv Y [(a, ob)] σw H s → s.gens[g]? = some gs → (∀ s'', SameG g s s'' → gs.Goes (model Y.prog Y.w) A.in1.in1 (RG Y (a, ob) σw false Qe) (YG Y (a, ob) g σw false Qe) n (.send .none) s'') →
      codeAny (model Y.prog Y.w) A (.builtin "all.loop" ⟨[.ref a], []⟩) R s := by
  intro n
  induction n with
  | zero =>
    intro s gs H I hgs hgo
    refine codeAny_builtin F.entry_all_loop ?_
    rw [Around.under_plainId F.plain_all_loop _]
    show wpAny _ A.in1 (pyNext (.ref a) >>= _) _ _ s
    refine wpAny_bind (next_G (A := A.in1) hh hroom hob I hgs hgo (fun s' h => ?_) (fun m s' gs' H' e => ?_) fun s' h => ?_)
    · refine wpAny_bind (wpAny_holding (wpAny_truthy_bool ?_))
      refine wpAny_bind (wpAny_letGo ?_)
      simp only [Bool.false_eq_true, if_false]
      exact wpAny_bind (wpAny_rule (wpAny_pure (hR false s' h)))
    · omega
    · exact wpAny_bind (wpAny_rule (wpAny_pure (hR true s' h)))
  | succ n ih =>
    intro s gs H I hgs hgo
    refine codeAny_builtin F.entry_all_loop ?_
    rw [Around.under_plainId F.plain_all_loop _]
    show wpAny _ A.in1 (pyNext (.ref a) >>= _) _ _ s
    refine wpAny_bind (next_G (A := A.in1) hh hroom hob I hgs hgo (fun s' h => ?_) (fun m s' gs' H' e I' hgs' hgo' => ?_) fun s' h => ?_)
    · refine wpAny_bind (wpAny_holding (wpAny_truthy_bool ?_))
      refine wpAny_bind (wpAny_letGo ?_)
      simp only [Bool.false_eq_true, if_false]
      exact wpAny_bind (wpAny_rule (wpAny_pure (hR false s' h)))
    · cases e
      refine wpAny_bind (wpAny_holding (wpAny_truthy_bool ?_))
      refine wpAny_bind (wpAny_letGo ?_)
      simp only [Bool.not_false, if_true]
      exact wpAny_pure ⟨plainId_quiet F.plain_all_loop _, ih s' gs' H' I' hgs' hgo'⟩
    · exact wpAny_bind (wpAny_rule (wpAny_pure (hR true s' h)))
end
section
variable {X : Cx} {pins : List (Addr × Obj)} {σ : L2.St} {H : Hp} {s : Shared}
/-- W by the turn and a measure; any stops at True, all at False -/
def tAnyG (P : Addr) (stop : Bool) (wi : TI) (g : TG) (tt : TT) (te : TE) (vs : List Nat) : TE := fun σ H Q => wi σ H fun J H1 => TabG H1 P ∧ ∀ H2, Tabbed P H1 H2 → ∃ W : Nat → Nat → Hp → Prop, (∃ m, W 0 m H2) ∧ ∀ i m H, W i m H →
  (J.stop i H ∧ Q (.bl (!stop)) H) ∨ (J.go i H ∧ ∃ Nx : Hp → Prop, (∀ H', Nx H' → ∃ m', m' < m ∧ W (i + 1) m' H') ∧ ∀ x H', J.yld i H x H' → g x (wipe σ vs) H' fun σ2 H2 => wipe σ2 vs = wipe σ vs ∧ tt σ2 H2 fun b H3 =>
    if b = true then te σ2 H3 fun y H4 => ∃ b, y = .bl b ∧ (b = stop → Q (.bl stop) H4) ∧ (b ≠ stop → Nx H4) else Nx H3)
/-- the generator is made, ready to be walked -/
theorem gen_made {c P : Addr} {elt tg iter : Expr} {ifs : List Expr} {scope : Scope} {own : List (Str × Nat)} {gpos : Pos} {wi : TI} {g' : TG} {tt : TT} {te : TE} {k : Nat} {stop : Bool} {Q : VK} {Q' : Value → Shared → Prop}
    (hr : Room k X.A) (TB : TabB X.base X.mg c P) (hcode : X.env.code = .ref c) (hN : X.N.Nodup) (hi : PI X tg iter wi) (ok : BlkOk X.N X.env.scope scope own) (nc : ∀ y ∈ scope.names, y.2 ≠ .cell) (co : scope.isCoroutine = false) (hdot : scope.names.lookup (".0" : Str) = some NameKind.local)
    (hg : ∀ (A' : Around) (s : Shared) (H : Hp) (C : Addr) (code : Value) (fp : List Addr), A' = X.A.in1.in1.deeper (genEnv scope (cloFrom X.env.cells scope.names []) C code builtinsNs X.env) → PG (genX X A' s H (genEnv scope (cloFrom X.env.cells scope.names []) C code builtinsNs X.env) fp) tg g')
    (ht : ∀ (A' : Around) (s : Shared) (H : Hp) (C : Addr) (code : Value) (fp : List Addr), A' = X.A.in1.in1.deeper (genEnv scope (cloFrom X.env.cells scope.names []) C code builtinsNs X.env) → PTs (genX X A' s H (genEnv scope (cloFrom X.env.cells scope.names []) C code builtinsNs X.env) fp) ifs tt)
    (he : ∀ (A' : Around) (s : Shared) (H : Hp) (C : Addr) (code : Value) (fp : List Addr), A' = X.A.in1.in1.deeper (genEnv scope (cloFrom X.env.cells scope.names []) C code builtinsNs X.env) → PE (genX X A' s H (genEnv scope (cloFrom X.env.cells scope.names []) C code builtinsNs X.env) fp) elt te)
    (hs : ∀ v, genFold iter X.env v = pure v) (I : Inv X pins σ H s) (h : tAnyG P stop wi g' tt te (own.map (·.2)) σ H Q)
    (hQ : ∀ (Y : Cx) (a : Addr) (ob : Obj) (g : Nat) (σw : L2.St) (gs : GenState) (n : Nat) (H5 : Hp) (s5 : Shared), Y.prog = X.prog → Y.w = X.w → (∀ h : Heap, h.get? a = some ob → h.IsGen a g) → Inv Y [(a, ob)] σw H5 s5 → s5.gens[g]? = some gs →
      (∀ s'', SameG g s5 s'' → gs.Goes (model X.prog X.w) X.A.in1.in1 (RG Y (a, ob) σw stop (fun b H => Q (.bl b) H)) (YG Y (a, ob) g σw stop (fun b H => Q (.bl b) H)) n (.send .none) s'') →
      (∀ b s', HaltG Y (a, ob) σw (fun b H => Q (.bl b) H) b s' → ∃ H', Inv X pins σ H' s' ∧ Q (.bl b) H') → Q' (.ref a) s5) :
    wpAny (model X.prog X.w) X.A (eval (.GeneratorExp elt [⟨tg, iter, ifs, 0⟩] scope gpos) X.env) Q' X.xe s := by
  have hfree : ∀ y ∈ scope.names, y.2 = .free → ∃ c, X.env.cells.lookup y.1 = some c := fun y hy e => by
    rcases ok.free y hy e with k | k
    · exact I.ok.has _ (.inl k)
    · exact I.ok.has _ (.inr k)
  refine wpAny_GeneratorExp_make co (closure_ok hfree) nc hdot ok.kind (by have := hr.dp; omega) (thn (hi.run pins s σ H _ I h) fun xv s1 hx => thn hx fun itv s2 h2 => ?_) hs
  obtain ⟨it, fp, tn, J, H2, rfl, I2, T, st2, f2, ⟨ps, hP, ht3⟩, q⟩ := h2
  have hPs : s2.heap.get? P = some { cls := .none, data := .fields ps } := I2.hok P _ hP
  have cd : PySem.W.CodeHd s2.heap c P := TB.code.keeps fun b u e => I2.bk b u e
  have fpP : ∀ b ∈ fp, b ≠ P := fun b hb z => by
    have := (f2 b hb).1
    rw [z, hP] at this; cases this
  refine ⟨I2.nolimit, ?_⟩
  have cont : ∀ (code : Value) (h3 : Heap) (tk : Nat) (ps' : Array Value), Heap.ExtBut P s2.heap h3 → h3.get? P = some { cls := .none, data := .fields ps' } → (∃ more, ps' = ps ++ more) → TriplesOk ps'.toList →
      wpAny (model X.prog X.w) X.A (builtinsFor X.env.globals X.env.builtins) (fun bi s₄ =>
        ∀ h', h'.Ns s₄.heap.objs.size (fun y => if y = ".0" then some (.ref it) else none) → Heap.SameBut s₄.heap.objs.size (s₄.heap.push { cls := .type "frame", data := .dict #[] }) h' →
          Q' (.ref h'.objs.size) { s₄ with
            gens := s₄.gens.push (.fresh (.compStart (.GeneratorExp elt [⟨tg, iter, ifs, 0⟩] scope gpos) 0 (.ref it) .none (genEnv scope (cloFrom X.env.cells scope.names []) s₄.heap.objs.size code bi X.env))),
            toks := s₄.toks + 1 + 1 + 1,
            heap := h'.push { cls := .type "generator", data := .fields #[.int s₄.gens.size 0, .str "<genexpr>" (s₄.toks + 1), .str (X.env.qual ++ "<genexpr>") (s₄.toks + 1 + 1)] } }) X.xe { s2 with heap := h3, toks := tk } := by
    intro code h3 tk ps' hx hP3 hmore htp
    obtain ⟨more, em⟩ := hmore
    have I3 := inv_tab (more := more) (h' := h3) (g' := s2.gens) (d' := s2.drawn) (t' := tk) I2 hP (fun b u hb e => hx b u hb e) (by rw [← em]; exact hP3) I2.bare
    have I3 : Inv X pins σ (upd H2 P (.tbl (ps ++ more))) { s2 with heap := h3, toks := tk } := I3
    have hT : Tabbed P H2 (upd H2 P (.tbl (ps ++ more))) := ⟨⟨ps ++ more, upd_same, by rw [← em]; exact htp⟩, fun b hb => upd_ne hb⟩
    obtain ⟨W, ⟨m0, w0⟩, turn⟩ := q _ hT
    obtain ⟨bm, ob, e1, e2, e3, e4, e5, e6, e7, e8⟩ := TB.bm
    refine wpAny_builtinsFor (m := X.mg) (by rw [I3.ok.glob]; exact I3.mod.glob.keeps I3.bk) e1 e2 (I3.bk _ _ e5) e6 e7 e8 ?_
    intro h' hn' hs'
    have fK : ∀ b ∈ fp, ∀ o, s2.heap.get? b = some o → h3.get? b = some o := fun b hb o e => hx b o (fpP b hb) e
    have f3 : ∀ b ∈ fp, FpOk X pins (upd H2 P (.tbl (ps ++ more))) b ∧ b < h3.objs.size := fun b hb => by
      obtain ⟨o, e, _⟩ := T.obj _ _ st2 b hb
      refine ⟨⟨?_, (f2 b hb).2⟩, Heap.lt_size (fK b hb o e)⟩
      rw [upd_ne (fpP b hb)]; exact (f2 b hb).1
    have hsz : h'.objs.size = h3.objs.size + 1 := by rw [hs'.1]; exact Heap.size_push ..
    have keep' : ∀ b o, h3.get? b = some o → h'.get? b = some o := fun b o e => hs'.extBut b o (Nat.ne_of_lt (Heap.lt_size e)) (Heap.get?_push_of_some _ e)
    generalize hH3 : upd H2 P (.tbl (ps ++ more)) = H3 at *
    generalize hs3 : ({ s2 with heap := h3, toks := tk } : Shared) = s3 at *
    have h3e : s3.heap = h3 := by rw [← hs3]
    rw [← h3e] at hsz keep' f3 fK
    generalize hob : ({ cls := .type "generator", data := .fields #[.int s3.gens.size 0, .str "<genexpr>" (s3.toks + 1), .str (X.env.qual ++ "<genexpr>") (s3.toks + 1 + 1)] } : Obj) = gob
    have hgen : ∀ h : Heap, h.get? h'.objs.size = some gob → h.IsGen h'.objs.size s3.gens.size := fun h e => by
      rw [← hob] at e
      exact ⟨_, _, _, e, rfl, rfl, rfl⟩
    generalize hgs : GenState.fresh (.compStart (.GeneratorExp elt [⟨tg, iter, ifs, 0⟩] scope gpos) 0 (.ref it) .none (genEnv scope (cloFrom X.env.cells scope.names []) s3.heap.objs.size code builtinsNs X.env)) = gs
    have hgb : gs.bare = true := by rw [← hgs]; rfl
    generalize hge : genEnv scope (cloFrom X.env.cells scope.names []) s3.heap.objs.size code builtinsNs X.env = ge at hgs
    have hgd : (h'.push gob).get? h'.objs.size = some gob := Heap.get?_push_size _ (by rw [← hob]; rfl)
    have keep5 : ∀ b o, s3.heap.get? b = some o → (h'.push gob).get? b = some o := fun b o e => Heap.get?_push_of_some _ (keep' b o e)
    have hAf : (X.A.in1.in1.deeper ge).frames = some (ge :: X.stack) := Around.frames_deeper (show X.A.in1.in1.frames = some X.stack from I3.ok.frames)
    have I5 : Inv (genX X (X.A.in1.in1.deeper ge) s3 H3 ge fp) [(h'.objs.size, gob)] (wipe σ (own.map (·.2))) H3 { s3 with gens := s3.gens.push gs, heap := h'.push gob, toks := s3.toks + 1 + 1 + 1 } := by
      have z := gen_start (own := own) (fp := fp) (A' := X.A.in1.in1.deeper ge) (code := code) (it := .ref it) (a := h'.objs.size) (ob := gob) (h5 := h'.push gob) (gn := s3.gens.push gs) (tk := s3.toks + 1 + 1 + 1) I3 ok hN nc f3 (by rw [hge]; exact hAf) hr.hd (hn'.push _) keep5 hgd (by rw [hsz]; exact Nat.lt_succ_self _)
        (fun v e => by rw [← hob] at e; cases e) (I3.bare.push hgb)
      rw [hge] at z
      exact z
    have pg := hg (X.A.in1.in1.deeper ge) s3 H3 s3.heap.objs.size code fp (by rw [hge])
    have pt := ht (X.A.in1.in1.deeper ge) s3 H3 s3.heap.objs.size code fp (by rw [hge])
    have pe := he (X.A.in1.in1.deeper ge) s3 H3 s3.heap.objs.size code fp (by rw [hge])
    rw [hge] at pg pt pe
    have hco : ge.scope.isCoroutine = false := by rw [← hge]; exact co
    have afp : ∀ b ∈ fp, h'.objs.size ≠ b := fun b hb z => by
      have := (f3 b hb).2
      rw [← z, hsz] at this
      exact absurd (Nat.lt_of_succ_lt this) (Nat.lt_irrefl _)
    refine hQ (genX X (X.A.in1.in1.deeper ge) s3 H3 ge fp) _ _ _ _ gs (m0 + 1) H3 _ rfl rfl hgen I5 (Array.getElem?_push_size ..) (fun s'' hsm => ?_) fun b s' hb => ?_
    · rw [← hgs]
      refine ⟨rfl, ?_⟩
      have I6 := inv_sameG I5 hsm
      have st6 : tn 0 s''.heap := T.keep _ _ _ st2 fun b hb o e => by rw [hsm.heap]; exact keep5 _ _ (fK b hb o e)
      have loop := fun s₀ => seg_gloop (Y := genX X (X.A.in1.in1.deeper ge) s3 H3 ge fp) (a := h'.objs.size) (ob := gob) (g := s3.gens.size) (stop := stop) (Qe := fun b H => Q (.bl b) H) (A := X.A.in1.in1) (σ := σ) (own := own.map (·.2)) (scope := scope) (pos := gpos) (iter := iter) rfl rfl rfl rfl rfl afp hco T pg pt pe W turn m0 (m0 + 1) 0 s₀ s'' H3 (Nat.lt_succ_self _) w0 I6 st6 (fun b hb => (f3 b hb).1.1) hsm.lt
      show Seg (model X.prog X.w) X.A.in1.in1 _ _ _ s'' _ ((compStart (.GeneratorExp elt [⟨tg, iter, ifs, 0⟩] scope gpos) 0 (.ref it) .none ge).onRaise (leaving ge)) [] s''
      unfold compStart
      rw [Sem.onRaise_eq_wrap]
      show Seg _ _ _ _ _ s'' _ ((ask >>= _).wrap _ _ _ _) [] s''
      refine seg_bind_wrap (wpAny_askSetting ?_)
      split
      · exact seg_again rfl (loop s'')
      · first
          | exact seg_bind_wrap (wpAny_rule (seg_bind_wrap (wpAny_standAt (seg_bind_wrap (T.self _ 0 s'' _ _ st6 (seg_again rfl (loop s'')))))))
          | (refine seg_bind_wrap (wpAny_rule ?_); show Seg _ _ _ _ _ s'' _ ((standAt iter.pos >>= _).wrap _ _ _ _) [] s''; exact seg_bind_wrap (wpAny_standAt (seg_bind_wrap (T.self _ 0 s'' _ _ st6 (seg_again rfl (loop s''))))))
    · obtain ⟨H', I', qq⟩ := hb
      exact ⟨H', I3.call' (ch := fp) I'.os I'.base I'.hok I'.bare fun b hb => ⟨(f3 b hb).1.2.2.2.1, (f3 b hb).1.2.1, (f3 b hb).1.2.2.2.2.1, (f3 b hb).1.2.2.2.2.2⟩, qq⟩
  cases hf : codeAmong gpos ps.toList with
  | none =>
    refine wpAny_genexprCodeX hcode (cd.code hPs ht3) (cd.tab hPs) hf fun c' h' tk hx hge hlt hco' _ htab' _ => ?_
    obtain ⟨o1, vs, f1, tf, fl, tg, inF, tx, tt, op, _, _, _, _, _, _, _, _, _, htr, _⟩ := hco'
    exact cont _ h' tk _ hx htab'.2 ⟨_, rfl⟩ htr
  | some cv =>
    refine wpAny_genexprCode_hit hcode (cd.code hPs ht3) hf ?_
    exact cont cv s2.heap s2.toks ps (Heap.ExtBut.refl _ _) hPs ⟨#[], by simp⟩ ht3
end
end DD
end
section
namespace DD
open PySem PySem.Spec PyProof.Rows L2 GxR GenW
/-! ### any(..), all(..): the rules -/
section
variable {X : Cx}
abbrev GenCx (X : Cx) (scope : Scope) (φ : Cx → Prop) : Prop := ∀ (A' : Around) (s : Shared) (H : Hp) (C : Addr) (code : Value) (fp : List Addr), A' = X.A.in1.in1.deeper (genEnv scope (cloFrom X.env.cells scope.names []) C code builtinsNs X.env) → φ (genX X A' s H (genEnv scope (cloFrom X.env.cells scope.names []) C code builtinsNs X.env) fp)
theorem pe_anyG {c P : Addr} {elt tg iter : Expr} {ifs : List Expr} {scope : Scope} {own : List (Str × Nat)} {p pos gpos : Pos} {wi : TI} {g' : TG} {tt : TT} {te : TE} {k : Nat}
    (hr : Room k X.A) (hgl : Gl X "any") (hm : X.mg "any" = none) (TB : TabB X.base X.mg c P) (hcode : X.env.code = .ref c) (hN : X.N.Nodup) (hi : PI X tg iter wi) (ok : BlkOk X.N X.env.scope scope own) (nc : ∀ y ∈ scope.names, y.2 ≠ .cell) (co : scope.isCoroutine = false) (hdot : scope.names.lookup (".0" : Str) = some NameKind.local)
    (hg : GenCx X scope fun Y => PG Y tg g') (ht : GenCx X scope fun Y => PTs Y ifs tt) (he : GenCx X scope fun Y => PE Y elt te)
    (hs : ∀ v, genFold iter X.env v = pure v) (hst : starEach [.GeneratorExp elt [⟨tg, iter, ifs, 0⟩] scope gpos] X.env = (false, eval (.GeneratorExp elt [⟨tg, iter, ifs, 0⟩] scope gpos) X.env) :: starEach [] X.env) :
    PE X (.Call (.Name "any" p) [.GeneratorExp elt [⟨tg, iter, ifs, 0⟩] scope gpos] [] pos) (tAnyG P true wi g' tt te (own.map (·.2))) := by
  refine ⟨fun pins s σ H Q I h => ?_⟩
  refine wpAny_Call_Name_kw (ld_blt I hgl hm boot_any ?_)
  refine PyProof.Rows.callWith_builtin1 ?_ hst (by rfl)
  rw [hst]
  show wpAny _ _ (spliced ((false, eval (.GeneratorExp elt [⟨tg, iter, ifs, 0⟩] scope gpos) X.env) :: backTo pos (starEach [] X.env))) _ _ s
  refine Calls.spliced_cons (gen_made (stop := true) hr TB hcode hN hi ok nc co hdot hg ht he hs I h fun Y a ob g σw gs n H5 s5 e1 e2 hob I5 hgs hgo hfin => Calls.spliced_nil ?_)
  have pin : s5.heap.get? a = some ob := (I5.pin (a, ob) (List.mem_append_right _ List.mem_cons_self)).1
  refine call_function_tree F.kind_any F.plain_any F.entry_any (F.args_any1 _) ?_
  unfold Builtin.«any»
  refine wpAny_bind (m := oneArg "any" _) (wpAny_pure ?_)
  refine wpAny_bind (wpAny_pyIter_gen (hob _ pin) ?_)
  refine wpAny_pure ⟨plainId_quiet F.plain_any_loop _, ?_⟩
  rw [← e1, ← e2] at hgo ⊢
  refine any_loopG hr.hd (by have := hr.dp; show X.A.depth < _; omega) hob (fun b s' hb => ?_) n s5 gs H5 I5 hgs hgo
  obtain ⟨H', I', q⟩ := hfin b s' hb
  exact ⟨.bl b, H', I', rfl, q⟩
theorem pe_allG {c P : Addr} {elt tg iter : Expr} {ifs : List Expr} {scope : Scope} {own : List (Str × Nat)} {p pos gpos : Pos} {wi : TI} {g' : TG} {tt : TT} {te : TE} {k : Nat}
    (hr : Room k X.A) (hgl : Gl X "all") (hm : X.mg "all" = none) (TB : TabB X.base X.mg c P) (hcode : X.env.code = .ref c) (hN : X.N.Nodup) (hi : PI X tg iter wi) (ok : BlkOk X.N X.env.scope scope own) (nc : ∀ y ∈ scope.names, y.2 ≠ .cell) (co : scope.isCoroutine = false) (hdot : scope.names.lookup (".0" : Str) = some NameKind.local)
    (hg : GenCx X scope fun Y => PG Y tg g') (ht : GenCx X scope fun Y => PTs Y ifs tt) (he : GenCx X scope fun Y => PE Y elt te)
    (hs : ∀ v, genFold iter X.env v = pure v) (hst : starEach [.GeneratorExp elt [⟨tg, iter, ifs, 0⟩] scope gpos] X.env = (false, eval (.GeneratorExp elt [⟨tg, iter, ifs, 0⟩] scope gpos) X.env) :: starEach [] X.env) :
    PE X (.Call (.Name "all" p) [.GeneratorExp elt [⟨tg, iter, ifs, 0⟩] scope gpos] [] pos) (tAnyG P false wi g' tt te (own.map (·.2))) := by
  refine ⟨fun pins s σ H Q I h => ?_⟩
  refine wpAny_Call_Name_kw (ld_blt I hgl hm (by decide +kernel : bootBuiltins "all" = some (.builtin "all")) ?_)
  refine PyProof.Rows.callWith_builtin1 ?_ hst (by rfl)
  rw [hst]
  show wpAny _ _ (spliced ((false, eval (.GeneratorExp elt [⟨tg, iter, ifs, 0⟩] scope gpos) X.env) :: backTo pos (starEach [] X.env))) _ _ s
  refine Calls.spliced_cons (gen_made (stop := false) hr TB hcode hN hi ok nc co hdot hg ht he hs I h fun Y a ob g σw gs n H5 s5 e1 e2 hob I5 hgs hgo hfin => Calls.spliced_nil ?_)
  have pin : s5.heap.get? a = some ob := (I5.pin (a, ob) (List.mem_append_right _ List.mem_cons_self)).1
  refine call_function_tree F.kind_all F.plain_all F.entry_all (F.args_all1 _) ?_
  unfold Builtin.«all»
  refine wpAny_bind (m := oneArg "all" _) (wpAny_pure ?_)
  refine wpAny_bind (wpAny_pyIter_gen (hob _ pin) ?_)
  refine wpAny_pure ⟨plainId_quiet F.plain_all_loop _, ?_⟩
  rw [← e1, ← e2] at hgo ⊢
  refine all_loopG hr.hd (by have := hr.dp; show X.A.depth < _; omega) hob (fun b s' hb => ?_) n s5 gs H5 I5 hgs hgo
  obtain ⟨H', I', q⟩ := hfin b s' hb
  exact ⟨.bl b, H', I', rfl, q⟩
end
theorem wipe_wipe (σ : L2.St) (vs : List Nat) : L2.wipe (L2.wipe σ vs) vs = L2.wipe σ vs := by
  refine List.ext_getElem? fun j => ?_
  have at2 : ∀ (vs : List Nat) (σ : L2.St) (j : Nat), (L2.wipe σ vs)[j]? = if j ∈ vs then (if j < σ.length then some none else none) else σ[j]? := by
    intro vs
    induction vs with
    | nil => intro σ j; simp [L2.wipe]
    | cons v vs ih =>
      intro σ j
      unfold L2.wipe
      by_cases hj : v = j
      · subst hj
        rw [List.getElem?_set_self', ih, if_pos (List.mem_cons_self)]
        by_cases hv : v ∈ vs
        · rw [if_pos hv]; split <;> simp
        · rw [if_neg hv]
          by_cases hl : v < σ.length
          · rw [if_pos hl, List.getElem?_eq_getElem hl]; simp
          · rw [if_neg hl, List.getElem?_eq_none (by omega)]; simp
      · rw [List.getElem?_set_ne hj, ih]
        by_cases hv : j ∈ vs
        · rw [if_pos hv, if_pos (List.mem_cons_of_mem _ hv)]
        · rw [if_neg hv, if_neg (by simp only [List.mem_cons, not_or]; exact ⟨fun z => hj z.symm, hv⟩)]
  rw [at2, at2]
  by_cases hj : j ∈ vs
  · rw [if_pos hj, if_pos hj]; simp [wipe_length]
  · rw [if_neg hj]
/-- any (stop = true), all (stop = false); W by the turn -/
def dAnyG (P : Addr) (stop : Bool) (di : DI) (g : DG) (tt : DT) (te : DE) (vs : List Nat) : DE := fun δ M R => di δ M fun ds ok M1 => M1 P = some .tbl ∧ ∃ W : Nat → Mem → Prop, W 0 M1 ∧
  (∀ i M, i ≤ ds.length → W i M → ok M) ∧
  (∀ i x M, ds[i]? = some x → W i M → g x (wipeD δ vs) M fun δ2 M2 => tt δ2 M2 fun b M3 =>
    if b = true then te δ2 M3 fun y M4 => (match y with
      | .bl c => if c = stop then R (.bl stop) M4 else W (i + 1) M4
      | _ => False) else W (i + 1) M3) ∧
  ∀ M, W ds.length M → R (.bl (!stop)) M
theorem anyG_imp {K : PySem.W.Frag} {P : Addr} {stop : Bool} {di : DI} {is : List Nat} {g : DG} {tt : DT} {te : DE} {vs : List Nat} (hv : ∀ j ∈ is, j ∈ vs) (σ : L2.St) (H : Hp) (Q : VK) (q : lift K (dAnyG P stop di g tt te vs) σ H Q) :
    tAnyG P stop (liftI K di) (liftG K is g) (liftT K tt) (lift K te) vs σ H Q := by
  obtain ⟨δ, M, R, S, m, h, k⟩ := q
  refine ⟨δ, M, _, S, m, h, fun ds ok M1 J H1 h1 e1 m1 it => ?_⟩
  obtain ⟨tb, W, w0, hok, turn, done⟩ := h1
  refine ⟨tab_of m1 tb, fun H2 hT => ?_⟩
  obtain ⟨m2, e2⟩ := rm_tab m1 tb hT
  refine ⟨fun i n H' => n + i = ds.length ∧ ∃ M, RM K H' M ∧ Ext K H1 H' ∧ W i M, ⟨ds.length, by omega, M1, m2, e2, w0⟩, ?_⟩
  rintro i n H' ⟨hn, M3, m3, e3, w⟩
  by_cases hi : i < ds.length
  · refine .inr ⟨it.go i H' _ e3 m3 (hok i M3 (by omega) w) hi, fun H2 => ∃ M, RM K H2 M ∧ Ext K H1 H2 ∧ W (i + 1) M, ?_, ?_⟩
    · rintro H4 ⟨M4, z⟩
      exact ⟨n - 1, by omega, by omega, M4, z⟩
    · intro v H4 y
      obtain ⟨x, hx, e4, rv, m4⟩ := it.yld i H' _ v H4 e3 m3 (hok i M3 (by omega) w) hi y
      have t := turn i x M3 hx w
      have S2 : Sl K (L2.wipe σ vs) H4 (wipeD δ vs) := ((S.ext e1).ext (e3.trans e4)).wipe vs
      refine ⟨x, _, _, _, rv, S2, m4, t, fun δ5 M5 σ5 H5 h5 e5 S5 m5 o5 => ?_⟩
      refine ⟨(o5.wipe hv).trans (wipe_wipe σ vs), δ5, M5, _, S5, m5, h5, fun b M6 H6 h6 e6 m6 => ?_⟩
      cases b with
      | true =>
        rw [if_pos rfl] at h6 ⊢
        refine ⟨δ5, M6, _, S5.ext e6, m6, h6, fun y M7 w7 H7 h7 e7 r7 m7 => ?_⟩
        cases y with
        | bl c =>
          have r7 : w7 = .bl c := r7
          refine ⟨c, r7, fun e => ?_, fun e => ?_⟩
          · have h7 : (if c = stop then R (.bl stop) M7 else W (i + 1) M7) := h7
            rw [if_pos e] at h7
            exact k _ M7 _ H7 h7 ((((e1.trans e3).trans e4).trans e5).trans (e6.trans e7)) rfl m7
          · have h7 : (if c = stop then R (.bl stop) M7 else W (i + 1) M7) := h7
            rw [if_neg e] at h7
            exact ⟨M7, m7, (((e3.trans e4).trans e5).trans e6).trans e7, h7⟩
        | _ => exact h7.elim
      | false =>
        rw [if_neg Bool.false_ne_true] at h6 ⊢
        exact ⟨M6, m6, ((e3.trans e4).trans e5).trans e6, h6⟩
  · have hi' : i = ds.length := by omega
    refine .inl ⟨it.stop i H' _ e3 m3 (hok i M3 (by omega) w) (by omega), ?_⟩
    subst hi'
    exact k _ _ _ H' (done M3 w) (e1.trans e3) rfl m3
section
variable {X : Cx} {c P : Addr} {elt tg iter : Expr} {ifs : List Expr} {scope : Scope} {own : List (Str × Nat)} {p pos gpos : Pos} {di : DI} {is : List Nat} {g : DG} {tt : DT} {te : DE} {k : Nat}
/-- what is to be seen of the generator expression's own scope -/
def genC (scope : Scope) : Bool := (scope.names.all fun y => match y.2 with | .cell => false | _ => true) && (!scope.isCoroutine && decide (scope.names.lookup (".0" : Str) = some NameKind.local))
theorem genC_ok {scope : Scope} (h : genC scope = true) : (∀ y ∈ scope.names, y.2 ≠ .cell) ∧ scope.isCoroutine = false ∧ scope.names.lookup (".0" : Str) = some NameKind.local := by
  unfold genC at h
  simp only [Bool.and_eq_true, List.all_eq_true, decide_eq_true_eq, Bool.not_eq_true'] at h
  obtain ⟨h1, h2, h3⟩ := h
  refine ⟨fun y hy e => ?_, h2, h3⟩
  have := h1 y hy
  rw [e] at this
  cases this
theorem pd_anyG (hr : Room k X.A) (TB : TabB X.base X.mg c P) (hcode : X.env.code = .ref c) (hgl : Gl X "any") (hm : X.mg "any" = none) (hN : X.N.Nodup) (hi : PDI X tg iter di) (ok : BlkOk X.N X.env.scope scope own) (hsc : genC scope = true)
    (hg : GenCx X scope fun Y => PDG Y tg is g) (ht : GenCx X scope fun Y => PDTs Y ifs tt) (he : GenCx X scope fun Y => PD Y elt te) (hv : ∀ j ∈ is, j ∈ own.map (·.2))
    (hs : ∀ v, genFold iter X.env v = pure v := by intro _; rfl) (hst : starEach [.GeneratorExp elt [⟨tg, iter, ifs, 0⟩] scope gpos] X.env = (false, eval (.GeneratorExp elt [⟨tg, iter, ifs, 0⟩] scope gpos) X.env) :: starEach [] X.env := by rfl) :
    PD X (.Call (.Name "any" p) [.GeneratorExp elt [⟨tg, iter, ifs, 0⟩] scope gpos] [] pos) (dAnyG P true di g tt te (own.map (·.2))) := by
  obtain ⟨nc, co, hdot⟩ := genC_ok hsc
  exact ⟨PE_imp (pe_anyG hr hgl hm TB hcode hN hi.pi ok nc co hdot (fun A' s H C code fp e => (hg A' s H C code fp e).pg) (fun A' s H C code fp e => (ht A' s H C code fp e).pt) (fun A' s H C code fp e => (he A' s H C code fp e).pe) hs hst) (anyG_imp hv)⟩
theorem pd_allG (hr : Room k X.A) (TB : TabB X.base X.mg c P) (hcode : X.env.code = .ref c) (hgl : Gl X "all") (hm : X.mg "all" = none) (hN : X.N.Nodup) (hi : PDI X tg iter di) (ok : BlkOk X.N X.env.scope scope own) (hsc : genC scope = true)
    (hg : GenCx X scope fun Y => PDG Y tg is g) (ht : GenCx X scope fun Y => PDTs Y ifs tt) (he : GenCx X scope fun Y => PD Y elt te) (hv : ∀ j ∈ is, j ∈ own.map (·.2))
    (hs : ∀ v, genFold iter X.env v = pure v := by intro _; rfl) (hst : starEach [.GeneratorExp elt [⟨tg, iter, ifs, 0⟩] scope gpos] X.env = (false, eval (.GeneratorExp elt [⟨tg, iter, ifs, 0⟩] scope gpos) X.env) :: starEach [] X.env := by rfl) :
    PD X (.Call (.Name "all" p) [.GeneratorExp elt [⟨tg, iter, ifs, 0⟩] scope gpos] [] pos) (dAnyG P false di g tt te (own.map (·.2))) := by
  obtain ⟨nc, co, hdot⟩ := genC_ok hsc
  exact ⟨PE_imp (pe_allG hr hgl hm TB hcode hN hi.pi ok nc co hdot (fun A' s H C code fp e => (hg A' s H C code fp e).pg) (fun A' s H C code fp e => (ht A' s H C code fp e).pt) (fun A' s H C code fp e => (he A' s H C code fp e).pe) hs hst) (anyG_imp hv)⟩
/-- the generator's frame has room for one level less -/
theorem In.gen {W : Wd} {A' : Around} {s : Shared} {H : Hp} {ge : Env} {fp : List Addr} (hi : In X W (k + 1)) (e : A' = X.A.in1.in1.deeper ge) : In (genX X A' s H ge fp) W k := by
  refine ⟨hi.P, hi.w, hi.K, hi.mg, hi.base, ?_⟩
  have r := hi.room
  show Room k A'
  rw [e]
  refine ⟨r.hd, ?_, ?_⟩
  · have := r.dp
    show X.A.depth + 1 + 3 * k + 5 < _
    omega
  · have := r.un
    show X.A.units + 1 + 1 + 3 + 16 * k + 200 < _
    omega
end
end DD
end
section
namespace DD
open PySem PySem.Spec PyProof.Rows L2 GxR GenW
/-! ### dicts: keys -/
noncomputable instance instDecD : DecidableEq D := fun a b => Classical.propDecidable _
mutual
theorem nkD_inj : ∀ {a b : D} {k : NestedKey}, nkD a = some k → nkD b = some k → a = b
  | .non, b, k, ha, hb => by
    cases ha
    cases b with
    | non => rfl
    | tup ys => have hb : (nkDs ys).map NestedKey.tup = some .none := hb; cases q : nkDs ys <;> rw [q] at hb <;> cases hb
    | _ => cases hb
  | .int i, b, k, ha, hb => by
    cases ha
    cases b with
    | int j => cases hb; rfl
    | tup ys => have hb : (nkDs ys).map NestedKey.tup = some (.num i) := hb; cases q : nkDs ys <;> rw [q] at hb <;> cases hb
    | _ => cases hb
  | .tup xs, b, k, ha, hb => by
    have ha : (nkDs xs).map NestedKey.tup = some k := ha
    cases q : nkDs xs with
    | none => rw [q] at ha; cases ha
    | some ks =>
      rw [q] at ha
      cases ha
      cases b with
      | tup ys =>
        have hb : (nkDs ys).map NestedKey.tup = some (.tup ks) := hb
        cases r : nkDs ys with
        | none => rw [r] at hb; cases hb
        | some js =>
          rw [r] at hb
          cases hb
          rw [nkDs_inj q r]
      | non => cases hb
      | int _ => cases hb
      | _ => cases hb
  | .bl _, _, _, ha, _ => nomatch ha
  | .str _, _, _, ha, _ => nomatch ha
  | .ref _, _, _, ha, _ => nomatch ha
  | .rol _, _, _, ha, _ => nomatch ha
  | .pup _, _, _, ha, _ => nomatch ha
  | .ty _, _, _, ha, _ => nomatch ha
theorem nkDs_inj : ∀ {a b : List D} {k : List NestedKey}, nkDs a = some k → nkDs b = some k → a = b
  | [], b, k, ha, hb => by
    cases ha
    cases b with
    | nil => rfl
    | cons y ys =>
      unfold nkDs at hb
      split at hb <;> cases hb
  | x :: xs, b, k, ha, hb => by
    unfold nkDs at ha
    split at ha
    · rename_i k1 ks h1 h2
      cases ha
      cases b with
      | nil => cases hb
      | cons y ys =>
        unfold nkDs at hb
        split at hb
        · rename_i j1 js e1 e2
          cases hb
          rw [nkD_inj h1 e1, nkDs_inj h2 e2]
        · cases hb
    · cases ha
end
mutual
theorem nkD_txt : ∀ {a : D} {k : NestedKey}, nkD a = some k → noTxt k = true
  | .non, k, ha => by cases ha; rfl
  | .int i, k, ha => by cases ha; rfl
  | .tup xs, k, ha => by
    have ha : (nkDs xs).map NestedKey.tup = some k := ha
    cases q : nkDs xs with
    | none => rw [q] at ha; cases ha
    | some ks => rw [q] at ha; cases ha; exact nkDs_txt q
  | .bl _, _, ha => nomatch ha
  | .str _, _, ha => nomatch ha
  | .ref _, _, ha => nomatch ha
  | .rol _, _, ha => nomatch ha
  | .pup _, _, ha => nomatch ha
  | .ty _, _, ha => nomatch ha
theorem nkDs_txt : ∀ {a : List D} {k : List NestedKey}, nkDs a = some k → noTxts k = true
  | [], k, ha => by cases ha; rfl
  | x :: xs, k, ha => by
    unfold nkDs at ha
    split at ha
    · rename_i k1 ks h1 h2
      cases ha
      show (noTxt k1 && noTxts ks) = true
      rw [nkD_txt h1, nkDs_txt h2]; rfl
    · cases ha
end
mutual
theorem hash_w {w w' : World} : ∀ {k : NestedKey}, noTxt k = true → k.hash w = k.hash w'
  | .none, _ => rfl
  | .num _, _ => rfl
  | .text _, h => nomatch h
  | .tup ks, h => by
    unfold NestedKey.hash
    rw [hashes_w (ks := ks) h]
theorem hashes_w {w w' : World} : ∀ {ks : List NestedKey}, noTxts ks = true → NestedKey.hashes w ks = NestedKey.hashes w' ks
  | [], _ => rfl
  | k :: ks, h => by
    have h : (noTxt k && noTxts ks) = true := h
    obtain ⟨h1, h2⟩ := Bool.and_eq_true_iff.mp h
    unfold NestedKey.hashes
    rw [hash_w h1, hashes_w h2]
end
mutual
theorem nested_of {X : Cx} {pins : List (Addr × Obj)} {σ : L2.St} {H : Hp} {s : Shared} (I : Inv X pins σ H s) : ∀ {d : D} {k : NestedKey} {v : V} {u : Value}, nkD d = some k → RV X.K H d v → RelV v u → NestedIs s.heap k u
  | .non, k, v, u, h, r, ru => by
    cases h
    have r : v = .non := r
    subst r
    cases ru; exact .none
  | .int i, k, v, u, h, r, ru => by
    cases h
    have r : v = .int i := r
    subst r
    obtain ⟨t, rfl⟩ := ru
    exact .int i t
  | .tup xs, k, v, u, h, r, ru => by
    have h : (nkDs xs).map NestedKey.tup = some k := h
    cases q : nkDs xs with
    | none => rw [q] at h; cases h
    | some ks =>
      rw [q] at h
      cases h
      obtain ⟨a, vs, rfl, hs, rs⟩ := r
      cases ru
      obtain ⟨its, rv, ⟨o, e, hc, n, hd⟩, _⟩ := I.tuple hs
      exact .tup e hc hd (by simpa using nested_all I q rs rv)
  | .bl _, _, _, _, h, _, _ => nomatch h
  | .str _, _, _, _, h, _, _ => nomatch h
  | .ref _, _, _, _, h, _, _ => nomatch h
  | .rol _, _, _, _, h, _, _ => nomatch h
  | .pup _, _, _, _, h, _, _ => nomatch h
  | .ty _, _, _, _, h, _, _ => nomatch h
theorem nested_all {X : Cx} {pins : List (Addr × Obj)} {σ : L2.St} {H : Hp} {s : Shared} (I : Inv X pins σ H s) : ∀ {ds : List D} {ks : List NestedKey} {vs : List V} {us : List Value}, nkDs ds = some ks → RVs X.K H ds vs → Vals vs us → NestedAll s.heap ks us
  | [], ks, vs, us, h, r, ru => by
    cases h; cases r; cases ru; exact .nil
  | x :: xs, ks, vs, us, h, r, ru => by
    unfold nkDs at h
    split at h
    · rename_i k1 ks h1 h2
      cases h
      obtain ⟨v, ws, rfl, r1, r2⟩ := r
      cases ru with
      | cons a b => exact .cons (nested_of I h1 r1 a) (nested_all I h2 r2 b)
    · cases h
end
theorem keyD_inj {a b : Key} (h : keyD a = keyD b) : a = b := by
  cases a <;> cases b <;> simp [keyD] at h <;> rw [h]
/-- a key that is an int or a text; one that is a tuple -/
def isAt : D → Bool
  | .int _ => true
  | .str _ => true
  | _ => false
def isTk (d : D) : Bool := match d with
  | .tup _ => (match nkD d with
    | some k => decide (k.depth ≤ 8)
    | none => false)
  | _ => false
theorem isTk_ok {d : D} (h : isTk d = true) : ∃ xs k, d = .tup xs ∧ nkD d = some k ∧ k.depth ≤ 8 := by
  unfold isTk at h
  split at h
  · rename_i xs
    split at h
    · rename_i k hk
      exact ⟨xs, k, rfl, hk, of_decide_eq_true h⟩
    · cases h
  · cases h
def KeyOk (kvs : List (D × D)) (k : D) : Prop := (isAt k = true ∧ ∀ p ∈ kvs, isAt p.1 = true) ∨ (isTk k = true ∧ ∀ p ∈ kvs, isTk p.1 = true)
/-- what stands at k -/
noncomputable def getK (kvs : List (D × D)) (k : D) : Option D := (kvs.find? fun p => decide (p.1 = k)).map (·.2)
noncomputable def putD' (kvs : List (D × D)) (k v : D) : List (D × D) := if (getK kvs k).isSome then kvs.map (fun p => if p.1 = k then (p.1, v) else p) else kvs ++ [(k, v)]
theorem putD'_len (kvs : List (D × D)) (k v : D) : (putD' kvs k v).length ≤ kvs.length + 1 := by
  unfold putD'
  split <;> simp
theorem paired_mem {α β : Type} {G : α → β → Prop} {l : List α} {m : List β} (h : Paired G l m) : ∀ b ∈ m, ∃ a ∈ l, G a b := by
  induction h with
  | nil => intro b hb; cases hb
  | cons r t ih =>
    intro b hb
    rcases List.mem_cons.mp hb with rfl | hb
    · exact ⟨_, List.mem_cons_self, r⟩
    · obtain ⟨a, h1, h2⟩ := ih b hb
      exact ⟨a, List.mem_cons_of_mem _ h1, h2⟩
theorem paired_find {α β : Type} {G : α → β → Prop} {f : α → Bool} {g : β → Bool} {l : List α} {m : List β} (h : Paired G l m) (hf : ∀ a b, G a b → f a = g b) :
    (l.find? f = none ∧ m.find? g = none) ∨ ∃ a b, l.find? f = some a ∧ m.find? g = some b ∧ G a b := by
  induction h with
  | nil => exact .inl ⟨rfl, rfl⟩
  | @cons a b l m r t ih =>
    rw [List.find?_cons, List.find?_cons, ← hf a b r]
    cases f a with
    | true => exact .inr ⟨a, b, rfl, rfl, r⟩
    | false => exact ih
theorem paired_map2 {α β : Type} {G : α → β → Prop} {f : α → α} {g : β → β} {l : List α} {m : List β} (h : Paired G l m) (hf : ∀ a b, G a b → G (f a) (g b)) : Paired G (l.map f) (m.map g) := by
  induction h with
  | nil => exact .nil
  | cons r t ih => exact .cons (hf _ _ r) ih
/-- a dict of keys that are ints or texts -/
theorem dico_at {X : Cx} {pins : List (Addr × Obj)} {σ : L2.St} {H : Hp} {s : Shared} {a : Addr} {kvs : List (D × D)} {u : HO → HO} (hu : (∀ x, u x = x) ∨ ∃ o, ∀ x, u x = .frz o x) (I : Inv X pins σ H s) (h : DicO X.K H a u kvs) (hk : ∀ p ∈ kvs, isAt p.1 = true) :
    kvs.length ≤ sizeLine ∧ (a == sysModules) = false ∧ ∃ (ws : List (Key × V)) (vs : List (Key × Value)), Paired (fun (p : D × D) (q : Key × V) => p.1 = keyD q.1 ∧ RV X.K H p.2 q.2) kvs ws ∧ KV ws vs ∧ s.heap.DictOf (mixKind X.prog X.w) a vs := by
  have rd : ∀ y, H a = some (u y) → Rd H a y := fun y e => by
    rcases hu with hu | ⟨o, hu⟩
    · rw [hu] at e; exact .inl e
    · rw [hu] at e; exact .inr ⟨o, e⟩
  rcases h with ⟨ws, h1, h2⟩ | ⟨xs, h1, h2⟩
  · obtain ⟨z, hd, vs, rel, dd⟩ := dk_rd I.hok (rd _ h1)
    exact ⟨by rw [Paired.length h2]; exact z, hd, ws, vs, h2, rel, dd⟩
  · have hn : kvs = [] := by
      cases h2 with
      | nil => rfl
      | @cons p x l m r t =>
        exfalso
        have e := hk p (List.mem_cons_self)
        obtain ⟨_, _, r3, _⟩ := r
        obtain ⟨p1, p2⟩ := p
        cases p1 with
        | int i => cases r3
        | str z => cases r3
        | _ => cases e
    subst hn
    cases h2
    obtain ⟨hd, _, _, _, ys, py, o, es, ep, h3, h4, h5, h6⟩ := (show _ ∧ _ from (rd _ h1).ok I.hok).1
    cases py
    have h7 := h6 X.w
    exact ⟨Nat.zero_le _, hd, [], [], .nil, .nil, o, es, ep, h3, h4, h5, by
      have : es = #[] := by simpa using h7
      subst this; exact ⟨fun e he => by simp at he, .nil, List.nodup_nil⟩⟩
/-- a dict of tuple keys -/
theorem dico_tup {X : Cx} {pins : List (Addr × Obj)} {σ : L2.St} {H : Hp} {s : Shared} {a : Addr} {kvs : List (D × D)} {u : HO → HO} (hu : (∀ x, u x = x) ∨ ∃ o, ∀ x, u x = .frz o x) (I : Inv X pins σ H s) (h : DicO X.K H a u kvs) (hk : ∀ p ∈ kvs, isTk p.1 = true) :
    kvs.length ≤ sizeLine ∧ (a == sysModules) = false ∧ ∃ (xs : List (NestedKey × Addr × V)) (ys : List (NestedKey × Addr × Value)), Paired (DN X.K H) kvs xs ∧ Paired (fun (p : NestedKey × Addr × V) (q : NestedKey × Addr × Value) => p.1 = q.1 ∧ p.2.1 = q.2.1 ∧ RelV p.2.2 q.2.2) xs ys ∧
      s.heap.DictOfH (nestedKind X.prog X.w) a ys := by
  have rd : ∀ y, H a = some (u y) → Rd H a y := fun y e => by
    rcases hu with hu | ⟨o, hu⟩
    · rw [hu] at e; exact .inl e
    · rw [hu] at e; exact .inr ⟨o, e⟩
  rcases h with ⟨ws, h1, h2⟩ | ⟨xs, h1, h2⟩
  · have hn : kvs = [] := by
      cases h2 with
      | nil => rfl
      | @cons p x l m r t =>
        exfalso
        have e := hk p (List.mem_cons_self)
        rw [r.1] at e
        cases q : x.1 <;> rw [q] at e <;> cases e
    subst hn
    cases h2
    obtain ⟨z, hd, vs, rel, o, es, ep, h3, h4, h5, _, h6, _⟩ := dk_rd I.hok (rd _ h1)
    cases rel
    have h7 : es.toList = [] := by
      cases q : es.toList with
      | nil => rfl
      | cons e l => rw [q] at h6; cases h6
    exact ⟨Nat.zero_le _, hd, [], [], .nil, .nil, o, es, ep, h3, h4, h5, by rw [h7]; rfl, fun x hx => (nomatch hx), List.nodup_nil⟩
  · obtain ⟨hd, hl, ht, nd, ys, py, o, es, ep, h3, h4, h5, h6⟩ := (show _ ∧ _ from (rd _ h1).ok I.hok).1
    refine ⟨by rw [Paired.length h2]; exact hl, hd, xs, ys, h2, py, o, es, ep, h3, h4, h5, h6 X.w, fun y hy => ?_, ?_⟩
    · obtain ⟨x, hx, e1, e2, _⟩ := paired_mem py y hy
      obtain ⟨p, hp, d1, d2, d3, _⟩ := paired_mem h2 x hx
      refine ⟨?_, by rw [← e1]; exact d2⟩
      rw [← e1, ← e2]
      exact nested_of I d1 d3 rfl
    · have : ys.map (·.1) = xs.map (·.1) := by
        clear h6 h2 h1 ht hl nd
        induction py with
        | nil => rfl
        | cons r t ih => rw [List.map_cons, List.map_cons, ih, r.1]
      rw [this]; exact nd
end DD
end
section
namespace DD
open PySem PySem.Spec PyProof.Rows L2 GxR GenW
/-! ### dicts: read -/
def dctM (M : Mem) (d : D) : Option (List (D × D)) := match d with
  | .ref a => match M a with
    | some (.dct kvs) => some kvs
    | some (.fct kvs) => some kvs
    | _ => none
  | _ => none
abbrev UOk (u : HO → HO) : Prop := (∀ x, u x = x) ∨ ∃ o, ∀ x, u x = .frz o x
theorem dct_ro {K : PySem.W.Frag} {H : Hp} {M : Mem} {d : D} {kvs : List (D × D)} {v : V} (m : RM K H M) (h : dctM M d = some kvs) (r : RV K H d v) : ∃ a u, d = .ref a ∧ v = .ref a ∧ UOk u ∧ DicO K H a u kvs := by
  unfold dctM at h
  split at h
  · rename_i a
    split at h
    · rename_i k2 e
      cases h
      exact ⟨a, fun u => u, rfl, r, .inl fun _ => rfl, m a _ e⟩
    · rename_i k2 e
      cases h
      obtain ⟨o, z⟩ := m a _ e
      exact ⟨a, .frz o, rfl, r, .inr ⟨o, fun _ => rfl⟩, z⟩
    · cases h
  · cases h
def rL2 (K : PySem.W.Frag) (g : D2) : R2 := fun x y H Q => ∃ dx dy M R, RV K H dx x ∧ RV K H dy y ∧ RM K H M ∧ g dx dy M R ∧ KQ K H R Q
theorem od_rL2 {K : PySem.W.Frag} {g : D2} : OpD K (rL2 K g) g := fun x y M R H v w Q g m rx ry k => ⟨x, y, M, R, rx, ry, m, g, k⟩
theorem atom_key {K : PySem.W.Frag} {H : Hp} {k : D} {v : V} (h : isAt k = true) (r : RV K H k v) : ∃ κ : Key, k = keyD κ ∧ v = kV κ := by
  cases k with
  | int i => exact ⟨.inl i, rfl, r⟩
  | str z => exact ⟨.inr z, rfl, r⟩
  | _ => cases h
theorem getK_at {K : PySem.W.Frag} {H : Hp} {kvs : List (D × D)} {ws : List (Key × V)} (p : Paired (fun (p : D × D) (q : Key × V) => p.1 = keyD q.1 ∧ RV K H p.2 q.2) kvs ws) (κ : Key) :
    (getK kvs (keyD κ) = none ∧ valV ws κ = none) ∨ ∃ d v, getK kvs (keyD κ) = some d ∧ valV ws κ = some v ∧ RV K H d v := by
  unfold getK valV
  rcases paired_find (f := fun p => decide (p.1 = keyD κ)) (g := fun q => decide (q.1 = κ)) p (fun a b r => by
    have : (a.1 = keyD κ) ↔ (b.1 = κ) := ⟨fun e => keyD_inj (r.1.symm.trans e), fun e => by rw [r.1, e]⟩
    exact decide_eq_decide.mpr this) with ⟨h1, h2⟩ | ⟨a, b, h1, h2, r⟩
  · exact .inl ⟨by rw [h1]; rfl, by rw [h2]; rfl⟩
  · exact .inr ⟨a.2, b.2, by rw [h1]; rfl, by rw [h2]; rfl, r.2⟩
theorem getK_tup {K : PySem.W.Frag} {H : Hp} {kvs : List (D × D)} {xs : List (NestedKey × Addr × V)} {ys : List (NestedKey × Addr × Value)} {k : D} {nk : NestedKey} (hk : nkD k = some nk) (p : Paired (DN K H) kvs xs) (q : Paired (fun (p : NestedKey × Addr × V) (q : NestedKey × Addr × Value) => p.1 = q.1 ∧ p.2.1 = q.2.1 ∧ RelV p.2.2 q.2.2) xs ys) :
    (getK kvs k = none ∧ atKey ys nk = none) ∨ ∃ d v w, getK kvs k = some d ∧ atKey ys nk = some w ∧ RV K H d v ∧ RelV v w.2 := by
  unfold getK atKey
  have e1 := paired_find (f := fun p => decide (p.1 = k)) (g := fun x => decide (x.1 = nk)) p (fun a b r => by
    have : (a.1 = k) ↔ (b.1 = nk) := ⟨fun e => by
      have := r.1
      rw [e, hk] at this
      exact (Option.some.inj this).symm, fun e => nkD_inj (by rw [r.1, e]) hk⟩
    exact decide_eq_decide.mpr this)
  have e2 := paired_find (f := fun x => decide (x.1 = nk)) (g := fun x => decide (x.1 = nk)) q (fun a b r => by rw [r.1])
  rcases e1 with ⟨h1, h2⟩ | ⟨a, b, h1, h2, r⟩
  · rcases e2 with ⟨h3, h4⟩ | ⟨_, _, h3, _, _⟩
    · exact .inl ⟨by rw [h1]; rfl, by rw [h4]; rfl⟩
    · rw [h2] at h3; cases h3
  · rcases e2 with ⟨h3, _⟩ | ⟨x, y, h3, h4, r2⟩
    · rw [h2] at h3; cases h3
    · rw [h2] at h3; cases h3
      exact .inr ⟨a.2, b.2.2, y.2, by rw [h1]; rfl, by rw [h4]; rfl, r.2.2.2, r2.2.2⟩
theorem nk_room {A : Around} {P : Program} {w : World} (h : A.units + 64 < cLine) : (nestedKind P w).room A := by
  show A.units + 8 < cLine
  omega
theorem nk_room1 {A : Around} {P : Program} {w : World} (h : A.units + 64 < cLine) : (nestedKind P w).room A.in1 := by
  show A.units + 1 + 8 < cLine
  omega
theorem nk_room2 {A : Around} {P : Program} {w : World} (h : A.units + 64 < cLine) : (nestedKind P w).room A.in1.in1 := by
  show A.units + 1 + 1 + 8 < cLine
  omega
section
variable {X : Cx} {pins : List (Addr × Obj)} {σ : L2.St} {H : Hp} {s : Shared} {a : Addr} {kvs : List (D × D)} {u : HO → HO} {k d : D} {y : V} {iv : Value} {A : Around} {E : Value → Shared → Prop}
theorem dico_obj (hu : UOk u) (I : Inv X pins σ H s) (h : DicO X.K H a u kvs) : s.TypeIs (.ref a) "dict" ∧ (∀ b, Value.ref a = .ref b → ∃ ob, s.heap.get? b = some ob ∧ ob.dict = none) ∧ (a == sysModules) = false := by
  have rd : ∀ y, H a = some (u y) → Rd H a y := fun y e => by
    rcases hu with hu | ⟨o, hu⟩
    · rw [hu] at e; exact .inl e
    · rw [hu] at e; exact .inr ⟨o, e⟩
  rcases h with ⟨ws, h1, h2⟩ | ⟨xs, h1, h2⟩
  · obtain ⟨z, hd, vs, rel, dd⟩ := dk_rd I.hok (rd _ h1)
    refine ⟨dd.typeIs, fun b q => ?_, hd⟩
    cases q
    obtain ⟨ob, _, _, h1, h2, _⟩ := dd
    exact ⟨ob, h1, h2.2.1⟩
  · obtain ⟨hd, _, _, _, ys, py, o, es, ep, h3, h4, h5, h6⟩ := (show _ ∧ _ from (rd _ h1).ok I.hok).1
    refine ⟨⟨o, h3, h4.1⟩, fun b q => ?_, hd⟩
    cases q
    exact ⟨o, h3, h4.2.1⟩
/-- d[k] -/
theorem dd_getItem {Q : Value → Shared → Prop} (hr : A.units + 64 < cLine) (I : Inv X pins σ H s) (hu : UOk u) (h : DicO X.K H a u kvs) (hk : KeyOk kvs k) (rk : RV X.K H k y) (ry : RelV y iv) (hg : getK kvs k = some d)
    (hQ : ∀ v w' s', Inv X pins σ H s' → RV X.K H d v → RelV v w' → Q w' s') : wpAny (model X.prog X.w) A (getItem (.ref a) iv) Q E s := by
  rcases hk with ⟨ka, kk⟩ | ⟨ka, kk⟩
  · obtain ⟨_, hd, ws, vs, p, rel, dd⟩ := dico_at hu I h kk
    obtain ⟨κ, rfl, rfl⟩ := atom_key ka rk
    rcases getK_at p κ with ⟨e, _⟩ | ⟨d', v, e, e2, rv⟩
    · rw [e] at hg; cases hg
    · rw [e] at hg; cases hg
      obtain ⟨w', hw, rw'⟩ := RelO.some_of (v := v) (o := valueAt vs κ) (by rw [← e2]; exact rel.val κ)
      exact wpAny_getItem_of (kV_is ry) dd.mapOf hw (hQ v w' _ (I.tok _) rv rw')
  · obtain ⟨_, hd, xs, ys, p, q, dd⟩ := dico_tup hu I h kk
    obtain ⟨zs, nk, rfl, hn, hdp⟩ := isTk_ok ka
    have ni := nested_of I hn rk ry
    obtain ⟨b, _, rfl, _, _⟩ := rk
    cases ry
    rcases getK_tup hn p q with ⟨e, _⟩ | ⟨d', v, w', e, e2, rv, rw'⟩
    · rw [e] at hg; cases hg
    · rw [e] at hg; cases hg
      exact wpAny_getItem_heap (nk_room1 hr) ⟨ni, hdp⟩ dd e2 (hQ v _ _ (I.tok _) rv rw')
/-- k in d -/
theorem dd_in {Q : Value → Shared → Prop} (hr : A.units + 64 < cLine) (I : Inv X pins σ H s) (hu : UOk u) (h : DicO X.K H a u kvs) (hk : KeyOk kvs k) (rk : RV X.K H k y) (ry : RelV y iv)
    (hQ : ∀ s', Inv X pins σ H s' → Q (.bool (getK kvs k).isSome) s') : wpAny (model X.prog X.w) A (compareOp .In iv (.ref a)) Q E s := by
  rcases hk with ⟨ka, kk⟩ | ⟨ka, kk⟩
  · obtain ⟨_, hd, ws, vs, p, rel, dd⟩ := dico_at hu I h kk
    obtain ⟨κ, rfl, rfl⟩ := atom_key ka rk
    refine wpAny_in_of (kV_is ry) hd dd.mapOf ?_
    rw [← (rel.val κ).isSome_eq]
    have := hQ _ (I.tok (s.toks + 1))
    rcases getK_at p κ with ⟨e, e2⟩ | ⟨d', v, e, e2, rv⟩ <;> rw [e] at this <;> rw [e2] <;> exact hQ _ (I.tok _) |> fun z => by rw [e] at z; exact z
  · obtain ⟨_, hd, xs, ys, p, q, dd⟩ := dico_tup hu I h kk
    obtain ⟨zs, nk, rfl, hn, hdp⟩ := isTk_ok ka
    have ni := nested_of I hn rk ry
    obtain ⟨b, _, rfl, _, _⟩ := rk
    cases ry
    refine wpAny_in_heap (nk_room1 hr) ⟨ni, hdp⟩ hd dd ?_
    rcases getK_tup hn p q with ⟨e, e2⟩ | ⟨d', v, w', e, e2, rv, rw'⟩ <;> rw [e2] <;> exact hQ _ (I.tok _) |> fun z => by rw [e] at z; exact z
theorem dd_notIn {Q : Value → Shared → Prop} (hr : A.units + 64 < cLine) (I : Inv X pins σ H s) (hu : UOk u) (h : DicO X.K H a u kvs) (hk : KeyOk kvs k) (rk : RV X.K H k y) (ry : RelV y iv)
    (hQ : ∀ s', Inv X pins σ H s' → Q (.bool (!(getK kvs k).isSome)) s') : wpAny (model X.prog X.w) A (compareOp .NotIn iv (.ref a)) Q E s := by
  rcases hk with ⟨ka, kk⟩ | ⟨ka, kk⟩
  · obtain ⟨_, hd, ws, vs, p, rel, dd⟩ := dico_at hu I h kk
    obtain ⟨κ, rfl, rfl⟩ := atom_key ka rk
    refine wpAny_notIn_of (kV_is ry) hd dd.mapOf ?_
    rw [← (rel.val κ).isSome_eq]
    rcases getK_at p κ with ⟨e, e2⟩ | ⟨d', v, e, e2, rv⟩ <;> rw [e2] <;> exact hQ _ (I.tok _) |> fun z => by rw [e] at z; exact z
  · obtain ⟨_, hd, xs, ys, p, q, dd⟩ := dico_tup hu I h kk
    obtain ⟨zs, nk, rfl, hn, hdp⟩ := isTk_ok ka
    have ni := nested_of I hn rk ry
    obtain ⟨b, _, rfl, _, _⟩ := rk
    cases ry
    refine wpAny_notIn_heap (nk_room1 hr) ⟨ni, hdp⟩ hd dd ?_
    rcases getK_tup hn p q with ⟨e, e2⟩ | ⟨d', v, w', e, e2, rv, rw'⟩ <;> rw [e2] <;> exact hQ _ (I.tok _) |> fun z => by rw [e] at z; exact z
end
end DD
end
section
namespace DD
open PySem PySem.Spec PyProof.Rows L2 GxR GenW
/-! ### x[y], x in y: sequences and dicts -/
noncomputable def gIxA : D2 := fun x y M R => match dctM M x with
  | some kvs => KeyOk kvs y ∧ (match getK kvs y with
    | some d => R d M
    | none => False)
  | none => gIx x y M R
theorem subTail_of {prog : Program} {w : World} {A : Around} {E : Value → Shared → Prop} {s : Shared} {value slice : Expr} {o i : Value} {T id : String} {Q : Value → Shared → Prop}
    (hl : typeLookup (.type T) "__getitem__" = pure (some (.builtin id))) (hs : subscripted slice false o i = operate [o, i] (getItem o i)) (hT : s.TypeIs o T)
    (h : wpAny (model prog w) A (getItem o i) Q E s) : wpAny (model prog w) A (subscriptTail value slice o i) Q E s := by
  unfold subscriptTail
  refine wpAny_bind ?_
  rw [getitemInPython_of_ne hT.not_modules]
  refine wpAny_bind (wpAny_specialOf hT hl ?_)
  have fin : wpAny (model prog w) A (subscripted slice false o i) (fun r s₃ => wpAny (model prog w) A (letTemporaryGo value o r >>= fun _ => pure r) Q E s₃) E s := by
    rw [hs]
    exact wpAny_operating (wpAny_mono h (fun r s₃ h₃ => wpAny_bind (wpAny_letTemporaryGo (wpAny_pure h₃))) fun _ _ x => x)
  first
    | exact wpAny_pure (wpAny_bind fin)
    | exact wpAny_bind (wpAny_pure (wpAny_bind fin))
    | exact wpAny_bind fin
section
variable {X : Cx}
theorem ix_A (hu : X.A.units + 64 < cLine) : IxR X (rL2 X.K gIxA) := by
  intro value slice pins s σ H x y v u Q I rx ry h hs
  obtain ⟨dx, dy, M, R, r1, r2, m, g, k⟩ := h
  unfold gIxA at g
  split at g
  · rename_i kvs e
    obtain ⟨hk, g⟩ := g
    obtain ⟨a, uu, rfl, rfl, ho, hd⟩ := dct_ro m e r1
    cases rx
    split at g
    · rename_i d hg
      exact subTail_of PySem.F.slot_dict_getitem.lookup hs (dico_obj ho I hd).1 (dd_getItem hu I ho hd hk r2 ry hg fun v w' s' I' rv rw' => ⟨v, H, I', rw', kq_keep k m g rv⟩)
    · exact g.elim
  · exact ix_seq value slice pins s σ H x y v u Q I rx ry (od_ix dx dy M R H x y Q g m r1 r2 k) hs
theorem pd_ixA {a b : Expr} {ta tb : DE} {pos : Pos} (hu : X.A.units + 64 < cLine) (ha : PD X a ta) (hb : PD X b tb) (hs : PlainIx b := by intro _ _; rfl) : PD X (.Subscript a b pos) (dBin gIxA ta tb) := ⟨PE_imp (pe_ix (ix_A hu) ha.pe hb.pe hs) (bin_imp od_rL2)⟩
end
/-- flat data as values -/
def flD : D → Option V
  | .non => some .non
  | .bl b => some (.bl b)
  | .int i => some (.int i)
  | .str s => some (.str s)
  | _ => none
def flDs : List D → Option (List V)
  | [] => some []
  | d :: ds => match flD d, flDs ds with
    | some v, some vs => some (v :: vs)
    | _, _ => none
theorem flD_rv {K : PySem.W.Frag} {H : Hp} {d : D} {v w : V} (h : flD d = some v) (r : RV K H d w) : w = v ∧ flatV v = true := by
  cases d with
  | non => cases h; exact ⟨r, rfl⟩
  | bl b => cases h; exact ⟨r, rfl⟩
  | int i => cases h; exact ⟨r, rfl⟩
  | str z => cases h; exact ⟨r, rfl⟩
  | _ => cases h
theorem flDs_rv {K : PySem.W.Frag} {H : Hp} : ∀ {ds : List D} {vs ws : List V}, flDs ds = some vs → RVs K H ds ws → ws = vs ∧ vs.all flatV = true
  | [], vs, ws, h, r => by cases h; cases r; exact ⟨rfl, rfl⟩
  | d :: ds, vs, ws, h, r => by
    unfold flDs at h
    split at h
    · rename_i v us h1 h2
      cases h
      obtain ⟨w, wt, rfl, r1, r2⟩ := r
      obtain ⟨rfl, f1⟩ := flD_rv h1 r1
      obtain ⟨rfl, f2⟩ := flDs_rv h2 r2
      exact ⟨rfl, by rw [List.all_cons, f1, f2]; rfl⟩
    · cases h
/-- is x among the flat items -/
def inFl (x : V) (vs : List V) : Bool := inV x vs
noncomputable def gInA (neg : Bool) : D2 := fun x y M R => match dctM M y with
  | some kvs => KeyOk kvs x ∧ R (.bl (if neg then !(getK kvs x).isSome else (getK kvs x).isSome)) M
  | none => match flD x, (itemsD M y).bind flDs with
    | some v, some vs => R (.bl (if neg then !inFl v vs else inFl v vs)) M
    | _, _ => if neg then gNotIn x y M R else gIn x y M R
section
variable {X : Cx}
theorem op_inA (hu : X.A.units + 65 < cLine) : OpR X (compareOp .In) (rL2 X.K (gInA false)) := by
  intro pins s σ H x y v u Q I rx ry h
  obtain ⟨dx, dy, M, R, r1, r2, m, g, k⟩ := h
  unfold gInA at g
  split at g
  · rename_i kvs e
    obtain ⟨hk, g⟩ := g
    obtain ⟨a, uu, rfl, rfl, ho, hd⟩ := dct_ro m e r2
    cases ry
    exact dd_in (by omega) I ho hd hk r1 rx fun s' I' => ⟨.bl _, H, I', rfl, kq_keep k m g rfl⟩
  · split at g
    · rename_i v' vs e1 e2
      obtain ⟨rfl, f1⟩ := flD_rv e1 r1
      cases q : itemsD M dy with
      | none => rw [q] at e2; cases e2
      | some ys =>
        rw [q] at e2
        obtain ⟨p, us, rfl, sq, r3⟩ := items_sq m q r2
        obtain ⟨rfl, f2⟩ := flDs_rv e2 r3
        exact op_in_seq pins s σ H x (.ref p) v u Q I rx ry ⟨p, us, rfl, sq, f1, f2, kq_keep k m g rfl⟩
    · exact op_inD (by omega) pins s σ H x y v u Q I rx ry (od_in dx dy M R H x y Q g m r1 r2 k)
theorem op_notInA (hu : X.A.units + 65 < cLine) : OpR X (compareOp .NotIn) (rL2 X.K (gInA true)) := by
  intro pins s σ H x y v u Q I rx ry h
  obtain ⟨dx, dy, M, R, r1, r2, m, g, k⟩ := h
  unfold gInA at g
  split at g
  · rename_i kvs e
    obtain ⟨hk, g⟩ := g
    obtain ⟨a, uu, rfl, rfl, ho, hd⟩ := dct_ro m e r2
    cases ry
    exact dd_notIn (by omega) I ho hd hk r1 rx fun s' I' => ⟨.bl _, H, I', rfl, kq_keep k m g rfl⟩
  · split at g
    · rename_i v' vs e1 e2
      obtain ⟨rfl, f1⟩ := flD_rv e1 r1
      cases q : itemsD M dy with
      | none => rw [q] at e2; cases e2
      | some ys =>
        rw [q] at e2
        obtain ⟨p, us, rfl, sq, r3⟩ := items_sq m q r2
        obtain ⟨rfl, f2⟩ := flDs_rv e2 r3
        exact op_notIn_seq pins s σ H x (.ref p) v u Q I rx ry ⟨p, us, rfl, sq, f1, f2, kq_keep k m g rfl⟩
    · exact op_notInD (by omega) pins s σ H x y v u Q I rx ry (od_notIn dx dy M R H x y Q g m r1 r2 k)
end
/-! ### d[k] = v -/
theorem paired_put {G : (D × D) → (Key × V) → Prop} {kvs : List (D × D)} {ws : List (Key × V)} {κ : Key} {d : D} {v : V} (h : Paired G kvs ws) (hk : ∀ a b, G a b → a.1 = keyD b.1) (hn : G (keyD κ, d) (κ, v)) (hs : ∀ a b, G a b → a.1 = keyD κ → G (a.1, d) (b.1, v)) :
    Paired G (putD' kvs (keyD κ) d) (putK ws κ v) := by
  have e : (getK kvs (keyD κ)).isSome = ws.any fun kv => decide (kv.1 = κ) := by
    rw [valV_any]
    unfold getK valV
    rcases paired_find (f := fun p => decide (p.1 = keyD κ)) (g := fun q => decide (q.1 = κ)) h (fun a b r => by
      have : (a.1 = keyD κ) ↔ (b.1 = κ) := ⟨fun e => keyD_inj ((hk _ _ r).symm.trans e), fun e => by rw [hk _ _ r, e]⟩
      exact decide_eq_decide.mpr this) with ⟨h1, h2⟩ | ⟨a, b, h1, h2, r⟩ <;> rw [h1, h2] <;> rfl
  unfold putD' putK
  rw [e]
  split
  · refine paired_map2 h fun a b r => ?_
    by_cases q : a.1 = keyD κ
    · have q2 : b.1 = κ := keyD_inj ((hk _ _ r).symm.trans q)
      rw [if_pos q, if_pos q2]
      exact hs a b r q
    · have q2 : ¬ b.1 = κ := fun z => q (by rw [hk _ _ r, z])
      rw [if_neg q, if_neg q2]
      exact r
  · exact Paired.snoc h hn
/-- the same over addresses of keys -/
def putX (xs : List (NestedKey × Addr × V)) (k : NestedKey) (b : Addr) (v : V) : List (NestedKey × Addr × V) :=
  if (xs.find? fun x => decide (x.1 = k)).isSome then xs.map (fun x => if x.1 = k then (x.1, x.2.1, v) else x) else xs ++ [(k, b, v)]
theorem putX_len (xs : List (NestedKey × Addr × V)) (k : NestedKey) (b : Addr) (v : V) : (putX xs k b v).length ≤ xs.length + 1 := by
  unfold putX
  split <;> simp
theorem paired_putX {G : (D × D) → (NestedKey × Addr × V) → Prop} {kvs : List (D × D)} {xs : List (NestedKey × Addr × V)} {k d : D} {nk : NestedKey} {b : Addr} {v : V} (h : Paired G kvs xs) (hk : ∀ a b, G a b → (a.1 = k ↔ b.1 = nk)) (hn : G (k, d) (nk, b, v)) (hs : ∀ a x, G a x → a.1 = k → G (a.1, d) (x.1, x.2.1, v)) :
    Paired G (putD' kvs k d) (putX xs nk b v) := by
  have e : (getK kvs k).isSome = (xs.find? fun x => decide (x.1 = nk)).isSome := by
    unfold getK
    rcases paired_find (f := fun p => decide (p.1 = k)) (g := fun q => decide (q.1 = nk)) h (fun a b r => decide_eq_decide.mpr (hk a b r)) with ⟨h1, h2⟩ | ⟨a, b, h1, h2, r⟩ <;> rw [h1, h2] <;> rfl
  unfold putD' putX
  rw [e]
  split
  · refine paired_map2 h fun a x r => ?_
    by_cases q : a.1 = k
    · rw [if_pos q, if_pos ((hk _ _ r).mp q)]
      exact hs a x r q
    · rw [if_neg q, if_neg (fun z => q ((hk _ _ r).mpr z))]
      exact r
  · exact Paired.snoc h hn
theorem paired_stored {xs : List (NestedKey × Addr × V)} {ys : List (NestedKey × Addr × Value)} {nk : NestedKey} {b : Addr} {v : V} {u : Value} (q : Paired (fun (p : NestedKey × Addr × V) (q : NestedKey × Addr × Value) => p.1 = q.1 ∧ p.2.1 = q.2.1 ∧ RelV p.2.2 q.2.2) xs ys) (r : RelV v u) :
    Paired (fun (p : NestedKey × Addr × V) (q : NestedKey × Addr × Value) => p.1 = q.1 ∧ p.2.1 = q.2.1 ∧ RelV p.2.2 q.2.2) (putX xs nk b v) (storedH ys nk b u) := by
  have e : (atKey ys nk).isSome = (xs.find? fun x => decide (x.1 = nk)).isSome := by
    unfold atKey
    rcases paired_find (f := fun x => decide (x.1 = nk)) (g := fun x => decide (x.1 = nk)) q (fun a b r => by rw [r.1]) with ⟨h1, h2⟩ | ⟨a, b, h1, h2, r⟩ <;> rw [h1, h2] <;> rfl
  unfold putX storedH
  rw [e]
  split
  · refine paired_map2 q fun x y z => ?_
    unfold putAt
    by_cases h : x.1 = nk
    · rw [if_pos h, if_pos (z.1.symm.trans h)]
      exact ⟨z.1, z.2.1, r⟩
    · rw [if_neg h, if_neg (fun e => h (z.1.trans e))]
      exact z
  · exact Paired.snoc q ⟨rfl, rfl, r⟩
/-- what a dict of tuple keys is, told of its new object -/
theorem dictN_new {P : Program} {w : World} {H' : Hp} {h' : Heap} {a : Addr} {xs : List (NestedKey × Addr × V)} {ys : List (NestedKey × Addr × Value)} (hd : (a == sysModules) = false) (hl : xs.length ≤ sizeLine) (ht : ∀ x ∈ xs, noTxt x.1 = true)
    (q : Paired (fun (p : NestedKey × Addr × V) (q : NestedKey × Addr × Value) => p.1 = q.1 ∧ p.2.1 = q.2.1 ∧ RelV p.2.2 q.2.2) xs ys) (dd : h'.DictOfH (nestedKind P w) a ys) : ObjOk P w H' h' a (dictN a xs) := by
  obtain ⟨o, es, ep, h3, h4, h5, h6, his, nd⟩ := dd
  clear his
  have key : xs.map (·.1) = ys.map (·.1) := by
    clear h6 nd ht hl
    induction q with
    | nil => rfl
    | cons r t ih => rw [List.map_cons, List.map_cons, ih, r.1]
  have hw : ∀ w' : World, es.toList = ys.map fun x => (⟨x.1.hash w', .ref x.2.1, x.2.2⟩ : DictEntry) := fun w' => by
    rw [h6]
    refine List.map_congr_left fun y hy => ?_
    obtain ⟨x, hx, e1, _⟩ := paired_mem q y hy
    have : y.1.hash w = y.1.hash w' := hash_w (by rw [← e1]; exact ht x hx)
    show (⟨y.1.hash w, _, _⟩ : DictEntry) = _
    rw [this]
  refine ⟨⟨hd, hl, ht, by rw [key]; exact nd, ys, q, o, es, ep, h3, h4, h5, hw⟩, ⟨o, h3⟩, fun h1 h2 ⟨z1, z2, z3, z4, ys', z5, o', es', ep', e1, e2, e3, e4⟩ st => ⟨z1, z2, z3, z4, ys', z5, o', es', ep', st _ e1, e2, e3, e4⟩⟩
end DD
end
section
namespace DD
open PySem PySem.Spec PyProof.Rows L2 GxR GenW
/-! ### d[k] = v, d.get, d.setdefault -/
section
variable {X : Cx} {pins : List (Addr × Obj)} {σ : L2.St} {H : Hp} {s : Shared} {a : Addr} {kvs : List (D × D)} {k d : D} {y v : V} {iv r : Value} {A : Around} {E : Value → Shared → Prop}
theorem dico_mut (h : DicO X.K H a (fun u => u) kvs) : Mut (H a) ∧ ∀ o', Ext X.K H (upd H a o') := by
  rcases h with ⟨ws, h1, h2⟩ | ⟨xs, h1, h2⟩
  · exact ⟨by rw [h1]; exact True.intro, fun o' => Ext.mut h1 (fun _ z => by cases z) (fun _ _ z => by cases z)⟩
  · exact ⟨by rw [h1]; exact True.intro, fun o' => Ext.mut h1 (fun _ z => by cases z) (fun _ _ z => by cases z)⟩
/-- the new object of an int's or a text's key -/
theorem put_at {s' : Shared} {h' : Heap} {t' : Nat} {ws : List (Key × V)} {vs : List (Key × Value)} {κ : Key} (I : Inv X pins σ H s) (h : DicO X.K H a (fun u => u) kvs) (p : Paired (fun (p : D × D) (q : Key × V) => p.1 = keyD q.1 ∧ RV X.K H p.2 q.2) kvs ws) (rel : KV ws vs) (hd : (a == sysModules) = false) (hl : kvs.length < sizeLine)
    (rd : RV X.K H d v) (rr : RelV v r) (dd' : h'.DictOf (mixKind X.prog X.w) a (stored vs κ r)) (hs : Heap.SameBut a s.heap h') :
    ∃ o', Inv X pins σ (upd H a o') { s with heap := h', toks := t' } ∧ DicO X.K (upd H a o') a (fun u => u) (putD' kvs (keyD κ) d) := by
  obtain ⟨mu, ex⟩ := dico_mut h
  have hl2 : (putK ws κ v).length ≤ sizeLine := by
    have h1 := length_putK ws κ v
    have h2 := Paired.length p
    omega
  have he : ∃ q, h'.get? a = some q := let ⟨q, _, _, hq, _⟩ := dd'; ⟨q, hq⟩
  refine ⟨.dK (putK ws κ v), d_write I mu hs he (dk_new hl2 hd (rel.put κ rr) dd'), .inl ⟨_, upd_same, ?_⟩⟩
  have e := ex (.dK (putK ws κ v))
  exact paired_put (Paired.mapP p fun a b z => ⟨z.1, z.2.ext e⟩) (fun a b z => z.1) ⟨rfl, rd.ext e⟩ fun a b z _ => ⟨z.1, rd.ext e⟩
theorem put_tup {s' : Shared} {h' : Heap} {t' : Nat} {xs : List (NestedKey × Addr × V)} {ys : List (NestedKey × Addr × Value)} {nk : NestedKey} {b : Addr} (I : Inv X pins σ H s) (h : DicO X.K H a (fun u => u) kvs) (hn : nkD k = some nk) (hdp : nk.depth ≤ 8) (rb : RV X.K H k (.ref b)) (p : Paired (DN X.K H) kvs xs)
    (q : Paired (fun (p : NestedKey × Addr × V) (q : NestedKey × Addr × Value) => p.1 = q.1 ∧ p.2.1 = q.2.1 ∧ RelV p.2.2 q.2.2) xs ys) (hd : (a == sysModules) = false) (hl : kvs.length < sizeLine)
    (rd : RV X.K H d v) (rr : RelV v r) (dd' : h'.DictOfH (nestedKind X.prog X.w) a (storedH ys nk b r)) (hs : Heap.SameBut a s.heap h') :
    ∃ o', Inv X pins σ (upd H a o') { s with heap := h', toks := t' } ∧ DicO X.K (upd H a o') a (fun u => u) (putD' kvs k d) := by
  obtain ⟨mu, ex⟩ := dico_mut h
  have he : ∃ q, h'.get? a = some q := let ⟨q, _, _, hq, _⟩ := dd'; ⟨q, hq⟩
  have hl2 : (putX xs nk b v).length ≤ sizeLine := by
    have h1 := putX_len xs nk b v
    have h2 := Paired.length p
    omega
  have e := ex (dictN a (putX xs nk b v))
  have PP : Paired (DN X.K (upd H a (dictN a (putX xs nk b v)))) (putD' kvs k d) (putX xs nk b v) :=
    paired_putX (Paired.mapP p fun p x z => ⟨z.1, z.2.1, z.2.2.1.ext e, z.2.2.2.ext e⟩) (fun p x z => ⟨fun e => by
      have := z.1
      rw [e, hn] at this
      exact (Option.some.inj this).symm, fun e => nkD_inj (by rw [z.1, e]) hn⟩) ⟨hn, hdp, rb.ext e, rd.ext e⟩ fun p x z _ => ⟨z.1, z.2.1, z.2.2.1, rd.ext e⟩
  refine ⟨dictN a (putX xs nk b v), d_write I mu hs he (dictN_new hd hl2 (fun x hx => ?_) (paired_stored q rr) dd'), .inr ⟨_, upd_same, PP⟩⟩
  obtain ⟨p', hp', z⟩ := paired_mem PP x hx
  exact nkD_txt z.1
theorem dd_setItem {Q : Unit → Shared → Prop} (hr : A.units + 64 < cLine) (I : Inv X pins σ H s) (h : DicO X.K H a (fun u => u) kvs) (hk : KeyOk kvs k) (hl : kvs.length < sizeLine) (rk : RV X.K H k y) (ry : RelV y iv) (rd : RV X.K H d v) (rr : RelV v r)
    (hQ : ∀ o' s', Inv X pins σ (upd H a o') s' → DicO X.K (upd H a o') a (fun u => u) (putD' kvs k d) → Q () s') : wpAny (model X.prog X.w) A (setItem (.ref a) iv r) Q E s := by
  rcases hk with ⟨ka, kk⟩ | ⟨ka, kk⟩
  · obtain ⟨_, hd, ws, vs, p, rel, dd⟩ := dico_at (.inl fun _ => rfl) I h kk
    obtain ⟨κ, rfl, rfl⟩ := atom_key ka rk
    have hz : vs.length ≤ sizeLine := by
      have h1 := Paired.length p
      have h2 := rel.length
      omega
    refine wpAny_setItem_pairs (hsz := hz) (kV_is ry) dd fun h' dd' hs => ?_
    obtain ⟨o', I', z⟩ := put_at (s' := s) (t' := s.toks + 1) I h p rel hd hl rd rr dd' hs
    exact hQ o' _ I' z
  · obtain ⟨_, hd, xs, ys, p, q, dd⟩ := dico_tup (.inl fun _ => rfl) I h kk
    obtain ⟨zs, nk, rfl, hn, hdp⟩ := isTk_ok ka
    have ni := nested_of I hn rk ry
    have rk' := rk
    obtain ⟨b, _, rfl, _, _⟩ := rk
    cases ry
    have hz : ys.length ≤ sizeLine := by
      have h1 := Paired.length p
      have h2 := Paired.length q
      omega
    refine wpAny_setItem_heap (hsz := hz) (nk_room1 hr) ⟨ni, hdp⟩ dd fun h' dd' hs => ?_
    obtain ⟨o', I', z⟩ := put_tup (s' := s) (t' := s.toks + (nestedKind X.prog X.w).draws nk) I h hn hdp rk' p q hd hl rd rr dd' hs
    exact hQ o' _ I' z
/-- d.get(k) -/
theorem dd_get1 {u : HO → HO} {Q : Value → Shared → Prop} (hr : A.units + 64 < cLine) (I : Inv X pins σ H s) (hu : UOk u) (h : DicO X.K H a u kvs) (hk : KeyOk kvs k) (rk : RV X.K H k y) (ry : RelV y iv)
    (h1 : ∀ d v w' s', getK kvs k = some d → Inv X pins σ H s' → RV X.K H d v → RelV v w' → Q w' s') (h2 : ∀ s', getK kvs k = none → Inv X pins σ H s' → Q .none s') :
    wpAny (model X.prog X.w) A (call (.builtin "dict.get") [.ref a, iv]) Q E s := by
  rcases hk with ⟨ka, kk⟩ | ⟨ka, kk⟩
  · obtain ⟨_, hd, ws, vs, p, rel, dd⟩ := dico_at hu I h kk
    obtain ⟨κ, rfl, rfl⟩ := atom_key ka rk
    refine call_meetsIn PySem.F.slot_dict_get dd.typeIs PySem.F.entry_dict_get (PySem.F.args_dict_get_2 _ _) (meets_dict_get (mixKind X.prog X.w) a (kV_is ry) hd) ⟨_, dd.mapOf, ?_⟩
    rcases getK_at p κ with ⟨e, e2⟩ | ⟨d', v', e, e2, rv⟩
    · have z : RelO (valV ws κ) (valueAt vs κ) := rel.val κ
      rw [e2] at z
      have z2 : valueAt vs κ = none := RelO.none_of z
      rw [z2]
      exact h2 _ e (I.tok _)
    · obtain ⟨w', hw, rw'⟩ := RelO.some_of (v := v') (o := valueAt vs κ) (by rw [← e2]; exact rel.val κ)
      rw [hw]
      exact h1 d' v' w' _ e (I.tok _) rv rw'
  · obtain ⟨_, hd, xs, ys, p, q, dd⟩ := dico_tup hu I h kk
    obtain ⟨zs, nk, rfl, hn, hdp⟩ := isTk_ok ka
    have ni := nested_of I hn rk ry
    obtain ⟨b, _, rfl, _, _⟩ := rk
    cases ry
    refine call_meetsIn PySem.F.slot_dict_get dd.typeIs PySem.F.entry_dict_get (PySem.F.args_dict_get_2 _ _) (meetsH_dict_get (nestedKind X.prog X.w) a b hd) ⟨nk_room1 hr, nk, ys, ⟨ni, hdp⟩, dd, ?_⟩
    rcases getK_tup hn p q with ⟨e, e2⟩ | ⟨d', v', w', e, e2, rv, rw'⟩
    · rw [e2]
      exact h2 _ e (I.tok _)
    · rw [e2]
      exact h1 d' v' w'.2 _ e (I.tok _) rv rw'
/-- d.get(k, x) -/
theorem dd_get2 {u : HO → HO} {z : V} {zv : Value} {Q : Value → Shared → Prop} (hr : A.units + 64 < cLine) (I : Inv X pins σ H s) (hu : UOk u) (h : DicO X.K H a u kvs) (hk : KeyOk kvs k) (rk : RV X.K H k y) (ry : RelV y iv)
    (h1 : ∀ d v w' s', getK kvs k = some d → Inv X pins σ H s' → RV X.K H d v → RelV v w' → Q w' s') (h2 : ∀ s', getK kvs k = none → Inv X pins σ H s' → Q zv s') :
    wpAny (model X.prog X.w) A (call (.builtin "dict.get") [.ref a, iv, zv]) Q E s := by
  rcases hk with ⟨ka, kk⟩ | ⟨ka, kk⟩
  · obtain ⟨_, hd, ws, vs, p, rel, dd⟩ := dico_at hu I h kk
    obtain ⟨κ, rfl, rfl⟩ := atom_key ka rk
    refine call_meetsIn PySem.F.slot_dict_get dd.typeIs PySem.F.entry_dict_get (PySem.F.args_dict_get_3 _ _ _) (meets_dict_get_default (mixKind X.prog X.w) a (kV_is ry) hd zv) ⟨_, dd.mapOf, ?_⟩
    rcases getK_at p κ with ⟨e, e2⟩ | ⟨d', v', e, e2, rv⟩
    · have z : RelO (valV ws κ) (valueAt vs κ) := rel.val κ
      rw [e2] at z
      have z2 : valueAt vs κ = none := RelO.none_of z
      rw [z2]
      exact h2 _ e (I.tok _)
    · obtain ⟨w', hw, rw'⟩ := RelO.some_of (v := v') (o := valueAt vs κ) (by rw [← e2]; exact rel.val κ)
      rw [hw]
      exact h1 d' v' w' _ e (I.tok _) rv rw'
  · obtain ⟨_, hd, xs, ys, p, q, dd⟩ := dico_tup hu I h kk
    obtain ⟨zs, nk, rfl, hn, hdp⟩ := isTk_ok ka
    have ni := nested_of I hn rk ry
    obtain ⟨b, _, rfl, _, _⟩ := rk
    cases ry
    refine call_meetsIn PySem.F.slot_dict_get dd.typeIs PySem.F.entry_dict_get (PySem.F.args_dict_get_3 _ _ _) (meetsH_dict_get_default (nestedKind X.prog X.w) a b hd zv) ⟨nk_room1 hr, nk, ys, ⟨ni, hdp⟩, dd, ?_⟩
    rcases getK_tup hn p q with ⟨e, e2⟩ | ⟨d', v', w', e, e2, rv, rw'⟩
    · rw [e2]
      exact h2 _ e (I.tok _)
    · rw [e2]
      exact h1 d' v' w'.2 _ e (I.tok _) rv rw'
/-- d.setdefault(k, x) -/
theorem dd_setd {Q : Value → Shared → Prop} (hr : A.units + 64 < cLine) (I : Inv X pins σ H s) (h : DicO X.K H a (fun u => u) kvs) (hk : KeyOk kvs k) (hl : kvs.length < sizeLine) (rk : RV X.K H k y) (ry : RelV y iv) (rd : RV X.K H d v) (rr : RelV v r)
    (h1 : ∀ d v w' s', getK kvs k = some d → Inv X pins σ H s' → RV X.K H d v → RelV v w' → Q w' s') (h2 : ∀ o' s', getK kvs k = none → Inv X pins σ (upd H a o') s' → DicO X.K (upd H a o') a (fun u => u) (putD' kvs k d) → Q r s') :
    wpAny (model X.prog X.w) A (call (.builtin "dict.setdefault") [.ref a, iv, r]) Q E s := by
  rcases hk with ⟨ka, kk⟩ | ⟨ka, kk⟩
  · obtain ⟨_, hd, ws, vs, p, rel, dd⟩ := dico_at (.inl fun _ => rfl) I h kk
    obtain ⟨κ, rfl, rfl⟩ := atom_key ka rk
    have hz : vs.length ≤ sizeLine := by
      have h1 := Paired.length p
      have h2 := rel.length
      omega
    refine call_meetsIn PySem.F.slot_dict_setdefault dd.typeIs PySem.F.entry_dict_setdefault (PySem.F.args_dict_setdefault_3 _ _ _) (kt_meets_setdefault (mixKind X.prog X.w) a (kV_is ry) hd r) ⟨vs, dd, hz, fun w' hv => ?_, fun hn h' dd' hs => ?_⟩
    · have z : RelO (valV ws κ) (valueAt vs κ) := rel.val κ
      rw [hv] at z
      rcases getK_at p κ with ⟨e, e2⟩ | ⟨d', v', e, e2, rv⟩
      · rw [e2] at z; exact (show False from z).elim
      · rw [e2] at z
        exact h1 d' v' w' _ e (I.tok _) rv z
    · have z : RelO (valV ws κ) (valueAt vs κ) := rel.val κ
      rw [hn] at z
      rcases getK_at p κ with ⟨e, e2⟩ | ⟨d', v', e, e2, rv⟩
      · obtain ⟨o', I', z⟩ := put_at (s' := s) (t' := s.toks + 1) I h p rel hd hl rd rr dd' hs
        exact h2 o' _ e I' z
      · rw [e2] at z; exact (show False from z).elim
  · obtain ⟨_, hd, xs, ys, p, q, dd⟩ := dico_tup (.inl fun _ => rfl) I h kk
    obtain ⟨zs, nk, rfl, hn, hdp⟩ := isTk_ok ka
    have ni := nested_of I hn rk ry
    have rk' := rk
    obtain ⟨b, _, rfl, _, _⟩ := rk
    cases ry
    have hz : ys.length ≤ sizeLine := by
      have h1 := Paired.length p
      have h2 := Paired.length q
      omega
    refine call_setdefault_heap (knd := nestedKind X.prog X.w) (hsz := hz) (nk_room1 hr) ⟨ni, hdp⟩ hd dd (fun w' hw => ?_) fun hn' h' dd' hs => ?_
    · rcases getK_tup hn p q with ⟨e, e2⟩ | ⟨d', v', w2, e, e2, rv, rw'⟩
      · rw [hw] at e2; cases e2
      · rw [hw] at e2; cases e2
        exact h1 d' v' _ _ e (I.tok _) rv rw'
    · rcases getK_tup hn p q with ⟨e, e2⟩ | ⟨d', v', w2, e, e2, rv, rw'⟩
      · obtain ⟨o', I', z⟩ := put_tup (s' := s) (t' := s.toks + (nestedKind X.prog X.w).draws nk) I h hn hdp rk' p q hd hl rd rr dd' hs
        exact h2 o' _ e I' z
      · rw [hn'] at e2; cases e2
end
end DD
end
section
namespace DD
open PySem PySem.Spec PyProof.Rows L2 GxR GenW
/-! ### dicts: the rules -/
def rL3 (K : PySem.W.Frag) (g : DSet) : TSet := fun o i v H Q => ∃ dx dy dz M R, RV K H dx o ∧ RV K H dy i ∧ RV K H dz v ∧ RM K H M ∧ g dx dy dz M R ∧ ∀ M' H', R M' → Ext K H H' → RM K H' M' → Q H'
theorem sd_rL3 {K : PySem.W.Frag} {g : DSet} : SetD K (rL3 K g) g := fun x y z M R H v w u Q g m rx ry rz k => ⟨x, y, z, M, R, rx, ry, rz, m, g, k⟩
/-- o[i] = v: a list, a dict -/
noncomputable def gSetA : DSet := fun x y z M R => match x with
  | .ref a => (match M a with
    | some (.dct kvs) => KeyOk kvs y ∧ kvs.length < sizeLine ∧ R (updM M a (.dct (putD' kvs y z)))
    | _ => gSetL x y z M R)
  | _ => False
theorem dct_some {K : PySem.W.Frag} {H : Hp} {a : Addr} {kvs : List (D × D)} (h : DicO K H a (fun u => u) kvs) : ∃ w, H a = some w := by
  rcases h with ⟨ws, h1, _⟩ | ⟨xs, h1, _⟩ <;> exact ⟨_, h1⟩
section
variable {X : Cx}
theorem set_A (hu : X.A.units + 64 < cLine) : PSet X (rL3 X.K gSetA) := by
  intro pins s σ H o i v ov iv u Q I ro ri rv h
  obtain ⟨dx, dy, dz, M, R, r1, r2, r3, m, g, k⟩ := h
  unfold gSetA at g
  split at g
  · rename_i a
    split at g
    · rename_i kvs e
      obtain ⟨hk, hl, g⟩ := g
      cases r1
      cases ro
      have hd : DicO X.K H a (fun u => u) kvs := m a _ e
      obtain ⟨w, hw⟩ := dct_some hd
      obtain ⟨_, ex⟩ := dico_mut hd
      exact dd_setItem hu I hd hk hl r2 ri r3 rv fun o' s' I' z => ⟨_, I', k _ _ g (ex o') (rm_put m hw (ex o') z)⟩
    · exact set_list pins s σ H o i v ov iv u Q I ro ri rv (sd_lst (.ref a) dy dz M R H o i v Q g m r1 r2 r3 k)
  · exact g.elim
/-- {} -/
def dDict0 : DE := fun δ M R => ∀ p, M p = none → R (.ref p) (updM M p (.dct []))
theorem pd_dict0 {pos : Pos} : PD X (.Dict [] [] pos) dDict0 := ⟨PE_imp pe_dnewK fun σ H Q h => by
  obtain ⟨δ, M, R, S, m, h, k⟩ := h
  intro p hp
  exact k _ _ _ _ (h p (rm_none m hp)) (Ext.new hp) rfl (rm_new m hp (.inl ⟨[], upd_same, .nil⟩))⟩
/-! ### d.get, d.setdefault -/
noncomputable def dGet1 (to tk : DE) : DE := fun δ M R => to δ M fun x M1 => (dctM M1 x).isSome = true ∧ tk δ M1 fun k M2 => match dctM M2 x with
  | some kvs => KeyOk kvs k ∧ R ((getK kvs k).getD .non) M2
  | none => False
noncomputable def dGet2 (to tk tx : DE) : DE := fun δ M R => to δ M fun x M1 => (dctM M1 x).isSome = true ∧ tk δ M1 fun k M2 => tx δ M2 fun z M3 => match dctM M3 x with
  | some kvs => KeyOk kvs k ∧ R ((getK kvs k).getD z) M3
  | none => False
noncomputable def setdAt (x k z : D) (M3 : Mem) (R : DK) : Prop := match x with
  | .ref a => (match M3 a with
    | some (.dct kvs) => KeyOk kvs k ∧ kvs.length < sizeLine ∧ (match getK kvs k with
      | some d => R d M3
      | none => R z (updM M3 a (.dct (putD' kvs k z))))
    | _ => False)
  | _ => False
noncomputable def dSetd (to tk tx : DE) : DE := fun δ M R => to δ M fun x M1 => (dctM M1 x).isSome = true ∧ tk δ M1 fun k M2 => tx δ M2 fun z M3 => setdAt x k z M3 R
variable {o e f : Expr} {apos cpos : Pos} {to tk tx : DE}
theorem isd_at {pins : List (Addr × Obj)} {σ : L2.St} {H : Hp} {s : Shared} {M : Mem} {x : D} {v : V} {u : Value} (I : Inv X pins σ H s) (m : RM X.K H M) (h : (dctM M x).isSome = true) (r : RV X.K H x v) (ru : RelV v u) :
    s.TypeIs u "dict" ∧ ∀ b, u = .ref b → ∃ ob, s.heap.get? b = some ob ∧ ob.dict = none := by
  obtain ⟨kvs, e⟩ := Option.isSome_iff_exists.mp h
  obtain ⟨a, uu, rfl, rfl, ho, hd⟩ := dct_ro m e r
  cases ru
  obtain ⟨h1, h2, _⟩ := dico_obj ho I hd
  exact ⟨h1, h2⟩
theorem pd_get1 (hu : X.A.units + 64 < cLine) (ho : PD X o to) (he : PD X e tk) (hb : attributeBase o "get" X.env (eval o X.env) = eval o X.env := by rfl)
    (hf : ((backTo cpos (starEach [e] X.env)).all (fun x => !x.1) && (backToKw cpos (keywordEach [] X.env)).all (fun x => x.1.isSome) && decide (([e] : List Expr).length + ([] : List Keyword).length + (if ([] : List Keyword).isEmpty then 0 else 1) < 30)) = true := by rfl)
    (hl : (apos.endLine == cpos.line) = true := by rfl) (ht : backTo cpos (starEach [e] X.env) = [(false, eval e X.env)] := by rfl) : PD X (.Call (.Attribute o "get" apos) [e] [] cpos) (dGet1 to tk) := by
  refine ⟨⟨fun pins s σ H Q I h => ?_⟩⟩
  obtain ⟨δ, M, R, S, m, h, k⟩ := h
  refine wpAny_Call_method hb hf hl PySem.F.plainAttrs_dict PySem.F.slot_dict_get PySem.F.type_dict_get (thn (ho.pe.run pins s σ H (fun v H1 => ∃ x M1, RV X.K H1 x v ∧ RM X.K H1 M1 ∧ Ext X.K H H1 ∧ (dctM M1 x).isSome = true ∧ tk δ M1 fun k M2 => match dctM M2 x with
    | some kvs => KeyOk kvs k ∧ R ((getK kvs k).getD .non) M2
    | none => False) I ⟨δ, M, _, S, m, h, fun x M1 v H1 h1 e1 r1 m1 => ⟨x, M1, r1, m1, e1, h1⟩⟩) fun u s1 ⟨v, H1, I1, ru, x, M1, r1, m1, e1, hx, q1⟩ => ?_)
  obtain ⟨t1, t2⟩ := isd_at I1 m1 hx r1 ru
  refine ⟨t1, t2, ?_⟩
  rw [ht]
  refine Calls.callWith_builtin rfl (Calls.evalArgs_plain (Calls.spliced_cons (thn (he.pe.run pins s1 σ H1 (fun y H2 => ∃ k M2, RV X.K H2 k y ∧ RM X.K H2 M2 ∧ Ext X.K H1 H2 ∧ match dctM M2 x with
    | some kvs => KeyOk kvs k ∧ R ((getK kvs k).getD .non) M2
    | none => False) I1 ⟨δ, M1, _, S.ext e1, m1, q1, fun k M2 y H2 h2 e2 r2 m2 => ⟨k, M2, r2, m2, e2, h2⟩⟩) fun iv s2 ⟨y, H2, I2, ry, kk, M2, r2, m2, e2, q2⟩ => Calls.spliced_nil ?_)))
  split at q2
  · rename_i kvs e
    obtain ⟨hk, q2⟩ := q2
    obtain ⟨a, uu, rfl, rfl, hO, hd⟩ := dct_ro m2 e (r1.ext e2)
    cases ru
    exact dd_get1 hu I2 hO hd hk r2 ry (fun d v w' s' hg I' rv rw' => ⟨v, H2, I', rw', by rw [hg] at q2; exact kq_keep (k.ext (e1.trans e2)) m2 q2 rv⟩) fun s' hg I' => ⟨.non, H2, I', rfl, by rw [hg] at q2; exact kq_keep (k.ext (e1.trans e2)) m2 q2 rfl⟩
  · exact q2.elim
theorem pd_get2 (hu : X.A.units + 64 < cLine) (ho : PD X o to) (he : PD X e tk) (hx : PD X f tx) (hb : attributeBase o "get" X.env (eval o X.env) = eval o X.env := by rfl)
    (hf : ((backTo cpos (starEach [e, f] X.env)).all (fun x => !x.1) && (backToKw cpos (keywordEach [] X.env)).all (fun x => x.1.isSome) && decide (([e, f] : List Expr).length + ([] : List Keyword).length + (if ([] : List Keyword).isEmpty then 0 else 1) < 30)) = true := by rfl)
    (hl : (apos.endLine == cpos.line) = true := by rfl) (ht : backTo cpos (starEach [e, f] X.env) = [(false, eval e X.env), (false, eval f X.env)] := by rfl) : PD X (.Call (.Attribute o "get" apos) [e, f] [] cpos) (dGet2 to tk tx) := by
  refine ⟨⟨fun pins s σ H Q I h => ?_⟩⟩
  obtain ⟨δ, M, R, S, m, h, k⟩ := h
  refine wpAny_Call_method hb hf hl PySem.F.plainAttrs_dict PySem.F.slot_dict_get PySem.F.type_dict_get (thn (ho.pe.run pins s σ H (fun v H1 => ∃ x M1, RV X.K H1 x v ∧ RM X.K H1 M1 ∧ Ext X.K H H1 ∧ (dctM M1 x).isSome = true ∧ tk δ M1 fun k M2 => tx δ M2 fun z M3 => match dctM M3 x with
    | some kvs => KeyOk kvs k ∧ R ((getK kvs k).getD z) M3
    | none => False) I ⟨δ, M, _, S, m, h, fun x M1 v H1 h1 e1 r1 m1 => ⟨x, M1, r1, m1, e1, h1⟩⟩) fun u s1 ⟨v, H1, I1, ru, x, M1, r1, m1, e1, hx', q1⟩ => ?_)
  obtain ⟨t1, t2⟩ := isd_at I1 m1 hx' r1 ru
  refine ⟨t1, t2, ?_⟩
  rw [ht]
  refine Calls.callWith_builtin rfl (Calls.evalArgs_plain (Calls.spliced_cons (thn (he.pe.run pins s1 σ H1 (fun y H2 => ∃ k M2, RV X.K H2 k y ∧ RM X.K H2 M2 ∧ Ext X.K H1 H2 ∧ tx δ M2 fun z M3 => match dctM M3 x with
    | some kvs => KeyOk kvs k ∧ R ((getK kvs k).getD z) M3
    | none => False) I1 ⟨δ, M1, _, S.ext e1, m1, q1, fun k M2 y H2 h2 e2 r2 m2 => ⟨k, M2, r2, m2, e2, h2⟩⟩) fun iv s2 ⟨y, H2, I2, ry, kk, M2, r2, m2, e2, q2⟩ => Calls.spliced_cons (thn (hx.pe.run pins s2 σ H2 (fun zz H3 => ∃ z M3, RV X.K H3 z zz ∧ RM X.K H3 M3 ∧ Ext X.K H2 H3 ∧ match dctM M3 x with
    | some kvs => KeyOk kvs kk ∧ R ((getK kvs kk).getD z) M3
    | none => False) I2 ⟨δ, M2, _, S.ext (e1.trans e2), m2, q2, fun z M3 zz H3 h3 e3 r3 m3 => ⟨z, M3, r3, m3, e3, h3⟩⟩) fun zv s3 ⟨zz, H3, I3, rz, z, M3, r3, m3, e3, q3⟩ => Calls.spliced_nil ?_))))
  split at q3
  · rename_i kvs e
    obtain ⟨hk, q3⟩ := q3
    obtain ⟨a, uu, rfl, rfl, hO, hd⟩ := dct_ro m3 e (r1.ext (e2.trans e3))
    cases ru
    exact dd_get2 (z := zz) hu I3 hO hd hk (r2.ext e3) ry (fun d v w' s' hg I' rv rw' => ⟨v, H3, I', rw', by rw [hg] at q3; exact kq_keep (k.ext (e1.trans (e2.trans e3))) m3 q3 rv⟩) fun s' hg I' => ⟨zz, H3, I', rz, by rw [hg] at q3; exact kq_keep (k.ext (e1.trans (e2.trans e3))) m3 q3 r3⟩
  · exact q3.elim
theorem pd_setd (hu : X.A.units + 64 < cLine) (ho : PD X o to) (he : PD X e tk) (hx : PD X f tx) (hb : attributeBase o "setdefault" X.env (eval o X.env) = eval o X.env := by rfl)
    (hf : ((backTo cpos (starEach [e, f] X.env)).all (fun x => !x.1) && (backToKw cpos (keywordEach [] X.env)).all (fun x => x.1.isSome) && decide (([e, f] : List Expr).length + ([] : List Keyword).length + (if ([] : List Keyword).isEmpty then 0 else 1) < 30)) = true := by rfl)
    (hl : (apos.endLine == cpos.line) = true := by rfl) (ht : backTo cpos (starEach [e, f] X.env) = [(false, eval e X.env), (false, eval f X.env)] := by rfl) : PD X (.Call (.Attribute o "setdefault" apos) [e, f] [] cpos) (dSetd to tk tx) := by
  refine ⟨⟨fun pins s σ H Q I h => ?_⟩⟩
  obtain ⟨δ, M, R, S, m, h, k⟩ := h
  refine wpAny_Call_method hb hf hl PySem.F.plainAttrs_dict PySem.F.slot_dict_setdefault PySem.F.type_dict_setdefault (thn (ho.pe.run pins s σ H (fun v H1 => ∃ x M1, RV X.K H1 x v ∧ RM X.K H1 M1 ∧ Ext X.K H H1 ∧ (dctM M1 x).isSome = true ∧ tk δ M1 fun k M2 => tx δ M2 fun z M3 => setdAt x k z M3 R) I ⟨δ, M, _, S, m, h, fun x M1 v H1 h1 e1 r1 m1 => ⟨x, M1, r1, m1, e1, h1⟩⟩) fun u s1 ⟨v, H1, I1, ru, x, M1, r1, m1, e1, hx', q1⟩ => ?_)
  obtain ⟨t1, t2⟩ := isd_at I1 m1 hx' r1 ru
  refine ⟨t1, t2, ?_⟩
  rw [ht]
  refine Calls.callWith_builtin rfl (Calls.evalArgs_plain (Calls.spliced_cons (thn (he.pe.run pins s1 σ H1 (fun y H2 => ∃ k M2, RV X.K H2 k y ∧ RM X.K H2 M2 ∧ Ext X.K H1 H2 ∧ tx δ M2 fun z M3 => setdAt x k z M3 R) I1 ⟨δ, M1, _, S.ext e1, m1, q1, fun k M2 y H2 h2 e2 r2 m2 => ⟨k, M2, r2, m2, e2, h2⟩⟩) fun iv s2 ⟨y, H2, I2, ry, kk, M2, r2, m2, e2, q2⟩ => Calls.spliced_cons (thn (hx.pe.run pins s2 σ H2 (fun zz H3 => ∃ z M3, RV X.K H3 z zz ∧ RM X.K H3 M3 ∧ Ext X.K H2 H3 ∧ setdAt x kk z M3 R) I2 ⟨δ, M2, _, S.ext (e1.trans e2), m2, q2, fun z M3 zz H3 h3 e3 r3 m3 => ⟨z, M3, r3, m3, e3, h3⟩⟩) fun zv s3 ⟨zz, H3, I3, rz, z, M3, r3, m3, e3, q3⟩ => Calls.spliced_nil ?_))))
  cases x with
  | ref a0 =>
    have q3 : (match M3 a0 with
      | some (.dct kvs) => KeyOk kvs kk ∧ kvs.length < sizeLine ∧ (match getK kvs kk with
        | some d => R d M3
        | none => R z (updM M3 a0 (.dct (putD' kvs kk z))))
      | _ => False) := q3
    have r1 : v = .ref a0 := r1
    subst r1
    cases ru
    cases e : M3 a0 with
    | none => rw [e] at q3; exact q3.elim
    | some oo =>
      rw [e] at q3
      cases oo with
      | dct kvs =>
        obtain ⟨hk, hl', q3⟩ := q3
        have hd : DicO X.K H3 a0 (fun u => u) kvs := m3 a0 _ e
        obtain ⟨w, hw⟩ := dct_some hd
        obtain ⟨_, ex⟩ := dico_mut hd
        have kE := k.ext (e1.trans (e2.trans e3))
        refine dd_setd (Q := fun w s' => EP X pins σ Q w s') hu I3 hd hk hl' (r2.ext e3) ry r3 rz (fun d v w' s' hg I' rv rw' => ⟨v, H3, I', rw', by rw [hg] at q3; exact kq_keep kE m3 q3 rv⟩) fun o' s' hg I' zd => ⟨zz, _, I', rz, ?_⟩
        rw [hg] at q3
        exact kE z _ zz _ q3 (ex o') (r3.ext (ex o')) (rm_put m3 hw (ex o') zd)
      | _ => exact q3.elim
  | _ => exact q3.elim
end
end DD
end
section
namespace DD
open PySem PySem.Spec PyProof.Rows L2 GxR GenW
/-! ### dict comprehensions -/
section
variable {X : Cx} {pins : List (Addr × Obj)} {σ : L2.St} {H : Hp} {s : Shared} {a : Addr} {kvs : List (D × D)} {k d : D} {y v : V} {iv r : Value} {A : Around} {E : Value → Shared → Prop}
theorem dd_dictSet {Q : Unit → Shared → Prop} (hr : A.units + 64 < cLine) (I : Inv X pins σ H s) (h : DicO X.K H a (fun u => u) kvs) (hk : KeyOk kvs k) (hl : kvs.length < sizeLine) (rk : RV X.K H k y) (ry : RelV y iv) (rd : RV X.K H d v) (rr : RelV v r)
    (hQ : ∀ o' s', Inv X pins σ (upd H a o') s' → DicO X.K (upd H a o') a (fun u => u) (putD' kvs k d) → Q () s') : wpAny (model X.prog X.w) A (dictSet a iv r) Q E s := by
  rcases hk with ⟨ka, kk⟩ | ⟨ka, kk⟩
  · obtain ⟨_, hd, ws, vs, p, rel, dd⟩ := dico_at (.inl fun _ => rfl) I h kk
    obtain ⟨κ, rfl, rfl⟩ := atom_key ka rk
    have hz : vs.length ≤ sizeLine := by
      have h1 := Paired.length p
      have h2 := rel.length
      omega
    refine wpAny_dictSet_pairs (hsz := hz) (kV_is ry) dd fun h' dd' hs => ?_
    obtain ⟨o', I', z⟩ := put_at (s' := s) (t' := s.toks + 1) I h p rel hd hl rd rr dd' hs
    exact hQ o' _ I' z
  · obtain ⟨_, hd, xs, ys, p, q, dd⟩ := dico_tup (.inl fun _ => rfl) I h kk
    obtain ⟨zs, nk, rfl, hn, hdp⟩ := isTk_ok ka
    have ni := nested_of I hn rk ry
    have rk' := rk
    obtain ⟨b, _, rfl, _, _⟩ := rk
    cases ry
    have hz : ys.length ≤ sizeLine := by
      have h1 := Paired.length p
      have h2 := Paired.length q
      omega
    refine wpAny_dictSet_heap (hsz := hz) (nk_room hr) ⟨ni, hdp⟩ dd fun h' dd' hs => ?_
    obtain ⟨o', I', z⟩ := put_tup (s' := s) (t' := s.toks + (nestedKind X.prog X.w).draws nk) I h hn hdp rk' p q hd hl rd rr dd' hs
    exact hQ o' _ I' z
end
section
variable {X : Cx}
/-- the store of a turn -/
def tPutA (K : PySem.W.Frag) (P : Addr) (y z : V) (Nx : Hp → Prop) (H : Hp) : Prop := ∃ (kvs : List (D × D)) (k d : D), DicO K H P (fun u => u) kvs ∧ KeyOk kvs k ∧ kvs.length < sizeLine ∧ RV K H k y ∧ RV K H d z ∧ ∀ o', DicO K (upd H P o') P (fun u => u) (putD' kvs k d) → Nx (upd H P o')
def tDcA (K : PySem.W.Frag) (wi : TI) (g : TG) (tt : TT) (tk tv : TE) (vs : List Nat) : TE := fun σ H Q => wi σ H fun J H1 => ∀ P, H1 P = none → ∃ W : Nat → Nat → Hp → Prop, (∃ m, W 0 m (upd H1 P (.dK []))) ∧ ∀ i m H, W i m H →
  (J.stop i H ∧ Q (.ref P) H) ∨ (J.go i H ∧ ∃ Nx : Hp → Prop, (∀ H', Nx H' → ∃ m', m' < m ∧ W (i + 1) m' H') ∧ ∀ x H', J.yld i H x H' → g x (wipe σ vs) H' fun σ2 H2 => wipe σ2 vs = wipe σ vs ∧ tt σ2 H2 fun b H3 =>
    if b = true then tk σ2 H3 fun y H4 => tv σ2 H4 fun z H5 => (∀ x, RV K H5 x y → RV K H5 x y) ∧ tPutA K P y z Nx H5 else Nx H3)
theorem pe_dcA {kx vx tg iter : Expr} {ifs : List Expr} {scope : Scope} {own : List (Str × Nat)} {pos : Pos} {wi : TI} {g : TG} {tt : TT} {tk tv : TE} (hu : X.A.units + 64 < cLine) (hc : X.calm = true) (hN : X.N.Nodup) (hi : PI X tg iter wi) (ok : BlkOk X.N X.env.scope scope own)
    (hg : ∀ (s : Shared) (H : Hp) (C : Addr) (cl : List (Str × Addr)) (fp : List Addr), PG (X.blk s H scope (compEnvC scope cl C X.env) fp) tg g) (ht : ∀ (s : Shared) (H : Hp) (C : Addr) (cl : List (Str × Addr)) (fp : List Addr), PTs (X.blk s H scope (compEnvC scope cl C X.env) fp) ifs tt)
    (hk : ∀ (s : Shared) (H : Hp) (C : Addr) (cl : List (Str × Addr)) (fp : List Addr), PE (X.blk s H scope (compEnvC scope cl C X.env) fp) kx tk)
    (he : ∀ (s : Shared) (H : Hp) (C : Addr) (cl : List (Str × Addr)) (fp : List Addr), PE (X.blk s H scope (compEnvC scope cl C X.env) fp) vx tv) (hs : ∀ x, foldedSetIterable iter X.env x = pure x) :
    PE X (.DictComp kx vx [⟨tg, iter, ifs, 0⟩] scope pos) (tDcA X.K wi g tt tk tv (own.map (·.2))) := by
  refine ⟨fun pins s σ H Q I h => ?_⟩
  rw [arm_eval_DictComp]
  have frees : ∀ y ∈ scope.names, y.2 = .free → ∃ c, X.env.cells.lookup y.1 = some c := fun y hy e => (ok.free y hy e).elim (fun k => I.ok.has _ (.inl k)) fun k => I.ok.has _ (.inr k)
  refine wpAny_comprehension_free (use := none) rfl hs (closure_ok frees) ok.kind (fun y hy e => by rw [ok.uniq y hy, e]) (thn (hi.run pins s σ H _ I h) fun xv s1 hx => thn hx fun itv s2 h2 => ?_)
  obtain ⟨it, fp, tn, J, H2, rfl, I2, T, st2, f2, q⟩ := h2
  refine wpAny_newObj_type (newEnv_comp ?_)
  obtain ⟨P, hP⟩ : ∃ P, s2.heap.objs.size = P := ⟨_, rfl⟩
  obtain ⟨W, ⟨m0, w0⟩, turn⟩ := q P (I2.hok.fresh (Nat.le_of_eq hP))
  rw [hP]
  obtain ⟨s3, hs3⟩ : ∃ s3 : Shared, ({ s2 with heap := s2.heap.push { cls := .type "dict", data := .dict #[] } } : Shared) = s3 := ⟨_, rfl⟩
  have h3 : s3.heap = s2.heap.push { cls := .type "dict", data := .dict #[] } := by rw [← hs3]
  rw [hs3]
  have keep3 : ∀ b o, s2.heap.get? b = some o → s3.heap.get? b = some o := fun b o e => by rw [h3]; exact Heap.get?_push_of_some _ e
  have I3 : Inv X pins σ (upd H2 P (.dK [])) s3 := by
    have z := I2.laid (a := P) (o := .dK []) (t' := s2.toks) (h' := s2.heap.push { cls := .type "dict", data := .dict #[] }) (fun b o e => Heap.get?_push_of_some _ e) (Nat.le_of_eq hP) (by rw [← hP]; exact dk_empty s2.heap I2.big)
    rw [← hs3]; exact z
  have f3 : ∀ b ∈ fp, FpOk X pins (upd H2 P (.dK [])) b ∧ b < s3.heap.objs.size := fun b hb => by
    obtain ⟨o, e, _⟩ := T.obj _ _ st2 b hb
    have lt := Heap.lt_size e
    refine ⟨⟨?_, (f2 b hb).2⟩, by rw [h3, Heap.size_push]; exact Nat.lt_succ_of_lt lt⟩
    rw [upd_ne (by rw [← hP]; exact Nat.ne_of_lt lt)]
    exact (f2 b hb).1
  obtain ⟨H3, hH3⟩ : ∃ H3, upd H2 P (.dK []) = H3 := ⟨_, rfl⟩
  rw [hH3] at I3 f3 w0
  have I4 := block_start I3 ok hN f3
  obtain ⟨cl, hcl⟩ : ∃ cl, cellsFrom (s3.heap.objs.size + 1) scope.names (cloFrom X.env.cells scope.names []) = cl := ⟨_, rfl⟩
  rw [hcl] at I4 ⊢
  have pg := hg s3 H3 s3.heap.objs.size cl fp
  have pt := ht s3 H3 s3.heap.objs.size cl fp
  have pk := hk s3 H3 s3.heap.objs.size cl fp
  have pv := he s3 H3 s3.heap.objs.size cl fp
  obtain ⟨ce, hce⟩ : ∃ ce, compEnvC scope cl s3.heap.objs.size X.env = ce := ⟨_, rfl⟩
  have cL : ce.locals = s3.heap.objs.size := by rw [← hce]; rfl
  rw [hce] at I4 pg pt pk pv
  show codeAny _ _ (.compStart (.DictComp kx vx [⟨tg, iter, ifs, 0⟩] scope pos) 0 (.ref it) (.ref P) (compEnvC scope cl s3.heap.objs.size X.env)) _ { s3 with heap := pushCells (s3.heap.push { cls := .type "dict", data := .dict #[] }) scope.names }
  rw [hce]
  obtain ⟨s4, hs4⟩ : ∃ s4 : Shared, ({ s3 with heap := pushCells (s3.heap.push { cls := .type "dict", data := .dict #[] }) scope.names } : Shared) = s4 := ⟨_, rfl⟩
  rw [hs4] at I4 ⊢
  have st4 : tn 0 s4.heap := T.keep _ _ _ st2 fun b _ o e => by rw [← hs4]; exact pushCells_keeps _ _ _ _ (Heap.get?_push_of_some _ (keep3 b o e))
  have stat : ∀ {σ' : L2.St} {H' : Hp} {s' : Shared}, Inv (X.blk s3 H3 scope ce fp) [] σ' H' s' → (∀ b ∈ fp, H' b = none) → ∀ b ∈ fp, FpOk (X.blk s3 H3 scope ce fp) [] H' b := fun {σ' H' s'} I' hn => fp_at (Y := X.blk s3 H3 scope ce fp) rfl (fun p hp => absurd (show p ∈ ([] : List (Addr × Obj)) ++ [] from hp) (by simp)) I' hn
  have loop : codeAny (model X.prog X.w) X.A (.compLoop (.DictComp kx vx [⟨tg, iter, ifs, 0⟩] scope pos) 0 (.ref it) (.ref P) ce) (compPost (model X.prog X.w) X.A X.xe none (EP X pins σ Q) (.ref P) s3.heap.objs.size) s4 := by
    refine compLoop_anyD (fun n s' => ∃ i H', Inv (X.blk s3 H3 scope ce fp) [] (wipe σ (own.map (·.2))) H' s' ∧ tn i s'.heap ∧ (∀ b ∈ fp, H' b = none) ∧ W i n H') ?_ m0 ⟨0, H3, I4, st4, fun b hb => (f3 b hb).1.1, w0⟩
    rintro n s5 ⟨i, H5, I5, st5, n5, w5⟩
    rcases turn i n H5 w5 with ⟨hstop, qq⟩ | ⟨hgo, Nx, hNx, step⟩
    · refine thnF (T.done (X.blk s3 H3 scope ce fp) rfl rfl rfl hc i [] s5 _ H5 (fun _ _ => False) I5 (stat I5 n5) st5 hstop) fun r s6 h6 => ?_
      obtain ⟨rfl, I6⟩ := h6
      have I7 : Inv X pins σ H5 s6 := I3.call' (ch := fp) I6.os I6.base I6.hok I6.bare fun b hb => ⟨(f3 b hb).1.2.2.2.1, (f3 b hb).1.2.1, (f3 b hb).1.2.2.2.2.1, (f3 b hb).1.2.2.2.2.2⟩
      have nC : H5 s3.heap.objs.size = none := by rw [← cL]; exact I6.free
      obtain ⟨m, hn, _⟩ := I6.loc
      have hn : s6.heap.Ns ce.locals m := hn
      rw [cL] at hn
      have fC := I3.fpOk (Nat.le_refl _) nC
      refine ⟨m, hn, fun h'' sb => ?_⟩
      exact ⟨.ref P, H5, I7.turned (t' := s6.toks) (fun b o hb e => (sb.2 b hb).trans e) fC.1 fC.2.1 fC.2.2.2.1 fC.2.2.2.2.1 fC.2.2.2.2.2, rfl, qq⟩
    · refine thnF (T.item (X.blk s3 H3 scope ce fp) rfl rfl rfl hc i [] s5 _ H5 (fun _ _ => False) I5 (stat I5 n5) st5 hgo) fun r s6 h6 => ?_
      obtain ⟨u, rfl, h6⟩ := h6
      refine thnF h6 fun _ s7 ⟨x, H7, I7, r7, y7, st7, n7⟩ => ?_
      have I7' := I7.pinned (stat I7 n7) (T.obj _ _ st7)
      refine thnF (pg.run _ s7 _ H7 x u _ I7' r7 (step x H7 y7)) fun _ s8 ⟨σ8, H8, I8, hw8, q8⟩ => ?_
      refine thnF (pt.run _ s8 σ8 H8 _ I8 q8) fun b s9 ⟨H9, I9, q9⟩ => ?_
      have back : ∀ {s' : Shared} {H' : Hp}, Inv (X.blk s3 H3 scope ce fp) ([] ++ pinsAt fp s7.heap) σ8 H' s' → Nx H' → ∃ m, m < n ∧ ∃ i H', Inv (X.blk s3 H3 scope ce fp) [] (wipe σ (own.map (·.2))) H' s' ∧ tn i s'.heap ∧ (∀ b ∈ fp, H' b = none) ∧ W i m H' := fun {s' H'} I' nx => by
        obtain ⟨m', hm, w'⟩ := hNx H' nx
        have pinned : ∀ b ∈ fp, ∀ o, s7.heap.get? b = some o → s'.heap.get? b = some o ∧ H' b = none := fun b hb o e =>
          have z := I'.pin (b, o) (List.mem_append_right _ (List.mem_append_right _ (mem_pinsAt hb e)))
          ⟨z.1, z.2.1⟩
        refine ⟨m', hm, i + 1, H', (I'.unpinned (pins := [])).weak (by rw [← hw8, wipe_length]) (fun j v e => ?_), T.keep _ _ _ st7 fun b hb o e => (pinned b hb o e).1, fun b hb => ?_, w'⟩
        · rw [← hw8] at e
          exact (wipe_some e).1
        · obtain ⟨o, e, _⟩ := T.obj _ _ st7 b hb
          exact (pinned b hb o e).2
      cases b with
      | false =>
        simp only [Bool.false_eq_true, if_false] at q9 ⊢
        exact back I9 q9
      | true =>
        simp only [if_true] at q9 ⊢
        refine thnF (pk.run _ s9 σ8 H9 _ I9 q9) fun z s10 ⟨yk, H10, I10, r10, q10⟩ => ?_
        refine thnF (pv.run _ s10 σ8 H10 _ I10 q10) fun z2 s11 ⟨yv, H11, I11, r11, _, kvs, k, d, hd, hk', hl, rk, rd, nx⟩ => ?_
        exact dd_dictSet (X := X.blk s3 H3 scope ce fp) hu I11 hd hk' hl rk r10 rd r11 fun o' s12 I12 z => back I12 (nx o' z)
  exact codeAny_compStart_dict loop (T.self X.A 0 _ _ _ st4 loop)
/-- p: where the new dict stands; W by the turn, the pairs so far, the memory without it -/
noncomputable def dDc (di : DI) (g : DG) (tt : DT) (tk tv : DE) (vs : List Nat) : DE := fun δ M R => di δ M fun ds ok M1 => ∀ p, M1 p = none → ∃ W : Nat → List (D × D) → Mem → Prop, W 0 [] M1 ∧
  (∀ i acc M, W i acc M → ok (updM M p (.dct acc))) ∧
  (∀ i x acc M, ds[i]? = some x → W i acc M → g x (wipeD δ vs) (updM M p (.dct acc)) fun δ2 M2 => tt δ2 M2 fun b M3 =>
    if b = true then tk δ2 M3 fun k M4 => tv δ2 M4 fun v M5 => ∃ M6, M5 = updM M6 p (.dct acc) ∧ KeyOk acc k ∧ acc.length < sizeLine ∧ W (i + 1) (putD' acc k v) M6 else ∃ M6, M3 = updM M6 p (.dct acc) ∧ W (i + 1) acc M6) ∧
  ∀ acc M, W ds.length acc M → R (.ref p) (updM M p (.dct acc))
theorem dc_imp {K : PySem.W.Frag} {di : DI} {is : List Nat} {g : DG} {tt : DT} {tk tv : DE} {vs : List Nat} (hv : ∀ j ∈ is, j ∈ vs) (σ : L2.St) (H : Hp) (Q : VK) (q : lift K (dDc di g tt tk tv vs) σ H Q) :
    tDcA K (liftI K di) (liftG K is g) (liftT K tt) (lift K tk) (lift K tv) vs σ H Q := by
  obtain ⟨δ, M, R, S, m, h, k⟩ := q
  refine ⟨δ, M, _, S, m, h, fun ds ok M1 J H1 h1 e1 m1 it => ?_⟩
  intro p hp
  obtain ⟨W, w0, hok, turn, done⟩ := h1 p (rm_none m1 hp)
  refine ⟨fun i n H' => n + i = ds.length ∧ ∃ acc M, RM K H' (updM M p (.dct acc)) ∧ Ext K H1 H' ∧ W i acc M, ⟨ds.length, by omega, [], M1, rm_new m1 hp (.inl ⟨[], upd_same, .nil⟩), Ext.new hp, w0⟩, ?_⟩
  rintro i n H' ⟨hn, acc, M2, m2, e2, w⟩
  by_cases hi : i < ds.length
  · refine .inr ⟨it.go i H' _ e2 m2 (hok i acc M2 w) hi, fun H2 => ∃ acc M, RM K H2 (updM M p (.dct acc)) ∧ Ext K H1 H2 ∧ W (i + 1) acc M, ?_, ?_⟩
    · rintro H2 ⟨acc2, M3, z⟩
      exact ⟨n - 1, by omega, by omega, acc2, M3, z⟩
    · intro v H2 y
      obtain ⟨x, hx, e3, rv, m3⟩ := it.yld i H' _ v H2 e2 m2 (hok i acc M2 w) hi y
      have t := turn i x acc M2 hx w
      have S2 : Sl K (L2.wipe σ vs) H2 (wipeD δ vs) := ((S.ext e1).ext (e2.trans e3)).wipe vs
      refine ⟨x, _, _, _, rv, S2, m3, t, fun δ4 M4 σ4 H4 h4 e4 S4 m4 o4 => ?_⟩
      refine ⟨(o4.wipe hv).trans (wipe_wipe σ vs), δ4, M4, _, S4, m4, h4, fun b M5 H5 h5 e5 m5 => ?_⟩
      cases b with
      | true =>
        rw [if_pos rfl] at h5 ⊢
        refine ⟨δ4, M5, _, S4.ext e5, m5, h5, fun kd M6 w6 H6 h6 e6 r6 m6 => ?_⟩
        refine ⟨δ4, M6, _, S4.ext (e5.trans e6), m6, h6, fun vd M7 w7 H7 h7 e7 r7 m7 => ?_⟩
        obtain ⟨M8, rfl, hk', hl, w8⟩ := h7
        have hd : DicO K H7 p (fun u => u) acc := m7 p _ updM_same
        refine ⟨fun _ z => z, acc, kd, vd, hd, hk', hl, r6.ext e7, r7, fun o' z => ?_⟩
        obtain ⟨ww, hw⟩ := dct_some hd
        have ex : Ext K H7 (upd H7 p o') := by
          rcases hd with ⟨_, h1, _⟩ | ⟨_, h1, _⟩
          · exact Ext.mut h1 (fun _ z => by cases z) (fun _ _ z => by cases z)
          · exact Ext.mut h1 (fun _ z => by cases z) (fun _ _ z => by cases z)
        refine ⟨putD' acc kd vd, M8, ?_, (((((e2.trans e3).trans e4).trans e5).trans e6).trans e7).trans ex, w8⟩
        have zz := rm_put (o := .dct (putD' acc kd vd)) m7 hw ex z
        rw [updM_upd] at zz
        exact zz
      | false =>
        rw [if_neg Bool.false_ne_true] at h5 ⊢
        obtain ⟨M7, rfl, w7⟩ := h5
        exact ⟨acc, M7, m5, ((e2.trans e3).trans e4).trans e5, w7⟩
  · have hi' : i = ds.length := by omega
    refine .inl ⟨it.stop i H' _ e2 m2 (hok i acc M2 w) (by omega), ?_⟩
    subst hi'
    exact k _ _ _ H' (done acc M2 w) (e1.trans e2) rfl m2
theorem pd_dc {kx vx tg iter : Expr} {ifs : List Expr} {scope : Scope} {own : List (Str × Nat)} {pos : Pos} {di : DI} {is : List Nat} {g : DG} {tt : DT} {tk tv : DE} (hu : X.A.units + 64 < cLine) (hc : X.calm = true) (hN : X.N.Nodup) (hi : PDI X tg iter di) (ok : BlkOk X.N X.env.scope scope own)
    (hg : ∀ (s : Shared) (H : Hp) (C : Addr) (cl : List (Str × Addr)) (fp : List Addr), PDG (X.blk s H scope (compEnvC scope cl C X.env) fp) tg is g)
    (ht : ∀ (s : Shared) (H : Hp) (C : Addr) (cl : List (Str × Addr)) (fp : List Addr), PDTs (X.blk s H scope (compEnvC scope cl C X.env) fp) ifs tt)
    (hk : ∀ (s : Shared) (H : Hp) (C : Addr) (cl : List (Str × Addr)) (fp : List Addr), PD (X.blk s H scope (compEnvC scope cl C X.env) fp) kx tk)
    (he : ∀ (s : Shared) (H : Hp) (C : Addr) (cl : List (Str × Addr)) (fp : List Addr), PD (X.blk s H scope (compEnvC scope cl C X.env) fp) vx tv)
    (hv : ∀ j ∈ is, j ∈ own.map (·.2)) (hs : ∀ x, foldedSetIterable iter X.env x = pure x := by intro _; rfl) :
    PD X (.DictComp kx vx [⟨tg, iter, ifs, 0⟩] scope pos) (dDc di g tt tk tv (own.map (·.2))) :=
  ⟨PE_imp (pe_dcA hu hc hN hi.pi ok (fun s H C cl fp => (hg s H C cl fp).pg) (fun s H C cl fp => (ht s H C cl fp).pt) (fun s H C cl fp => (hk s H C cl fp).pe) (fun s H C cl fp => (he s H C cl fp).pe) hs) (dc_imp hv)⟩
end
end DD
end
section
namespace DD
open PySem PySem.Spec PyProof.Rows L2 GxR GenW
/-! ### dicts: walked, locked, listed -/
theorem vals_of_get : ∀ {vs : List V} {us : List Value}, vs.length = us.length → (∀ (i : Nat) (v : V) (u : Value), vs[i]? = some v → us[i]? = some u → RelV v u) → Vals vs us
  | [], [], _, _ => .nil
  | [], _ :: _, h, _ => by cases h
  | _ :: _, [], h, _ => by cases h
  | v :: vs, u :: us, h, g => .cons (g 0 v u rfl rfl) (vals_of_get (by simpa using h) fun i a b ha hb => g (i + 1) a b (by simpa using ha) (by simpa using hb))
theorem rv_key {K : PySem.W.Frag} {H : Hp} (k : Key) : RV K H (keyD k) (kV k) := by cases k <;> rfl
theorem dico_raw {X : Cx} {pins : List (Addr × Obj)} {σ : L2.St} {H : Hp} {s : Shared} {a : Addr} {kvs : List (D × D)} {u : HO → HO} (hu : (∀ x, u x = x) ∨ ∃ o, ∀ x, u x = .frz o x) (I : Inv X pins σ H s) (h : DicO X.K H a u kvs) :
    (a == sysModules) = false ∧ kvs.length ≤ sizeLine ∧ ∃ (es : Array DictEntry) (ep : Nat) (vs : List V), s.heap.DictRaw a es ep ∧ es.size = kvs.length ∧ RVs X.K H (kvs.map (·.1)) vs ∧ Vals vs (es.toList.map (·.key)) := by
  have rd : ∀ y, H a = some (u y) → Rd H a y := fun y e => by
    rcases hu with hu | ⟨o, hu⟩
    · rw [hu] at e; exact .inl e
    · rw [hu] at e; exact .inr ⟨o, e⟩
  rcases h with ⟨ws, h1, h2⟩ | ⟨xs, h1, h2⟩
  · obtain ⟨z, hd, vs, rel, dd⟩ := dk_rd I.hok (rd _ h1)
    have l1 := Paired.length h2
    have l2 := Paired.length rel
    obtain ⟨es, ep, hr, hs, hk⟩ := dd.raw
    refine ⟨hd, by omega, es, ep, ws.map fun p => kV p.1, hr, by omega, ?_, ?_⟩
    · clear hk hs hr dd l1 l2 rel h1 z
      induction h2 with
      | nil => exact .nil
      | cons r t ih => exact .cons (by show RV X.K H (Prod.fst _) _; rw [r.1]; exact rv_key _) ih
    · refine vals_of_get (by simp; omega) fun i v w hv hw => ?_
      rw [List.getElem?_map] at hv hw
      cases e : ws[i]? with
      | none => rw [e] at hv; cases hv
      | some q =>
        rw [e] at hv
        cases hv
        obtain ⟨k, x⟩ := q
        obtain ⟨y, hy, ry⟩ := kv_get rel e
        have hi : i < es.size := by
          have := (List.getElem?_eq_some_iff.mp hy).1
          omega
        rw [Array.getElem?_toList, Array.getElem?_eq_getElem hi] at hw
        cases hw
        exact relV_key (show keyIs k _ = true from (hk i hi k y hy).1)
  · obtain ⟨hd, hl, ht, nd, ys, py, o, es, ep, h3, h4, h5, h6⟩ := (show _ ∧ _ from (rd _ h1).ok I.hok).1
    have l1 := Paired.length h2
    have l2 := Paired.length py
    have h7 := h6 X.w
    have l3 : es.size = ys.length := by rw [← Array.length_toList, h7, List.length_map]
    refine ⟨hd, by omega, es, ep, xs.map fun x => V.ref x.2.1, ⟨o, h3, h4, h5⟩, by omega, ?_, ?_⟩
    · clear h7 l1 l2 l3 h6 py nd ht hl h1
      induction h2 with
      | nil => exact .nil
      | cons r t ih => exact .cons r.2.2.1 ih
    · rw [h7, List.map_map]
      clear h7 l1 l2 l3 h6 h2 nd ht hl h1
      induction py with
      | nil => exact .nil
      | cons r t ih => exact .cons (by show RelV (V.ref _) (Value.ref _); rw [r.2.1]; rfl) ih
theorem dico_frz {X : Cx} {pins : List (Addr × Obj)} {σ : L2.St} {H : Hp} {s : Shared} {a : Addr} {o : Obj} {kvs : List (D × D)} (I : Inv X pins σ H s) (h : DicO X.K H a (.frz o) kvs) : s.heap.get? a = some o := by
  rcases h with ⟨ws, h1, _⟩ | ⟨xs, h1, _⟩
  · exact (I.hok a _ h1).1
  · exact (I.hok a _ h1).1
/-- the keys of the locked dict -/
def Itf (K : PySem.W.Frag) (d : Addr) (o : Obj) (kvs : List (D × D)) : It :=
  ⟨fun i H => DicO K H d (.frz o) kvs ∧ i < kvs.length, fun i H x H' => H' = H ∧ ∃ k, (kvs.map (·.1))[i]? = some k ∧ RV K H k x, fun i H => DicO K H d (.frz o) kvs ∧ kvs.length ≤ i⟩
section
variable {P : Program} {w : World} {K : PySem.W.Frag} {tg : Expr} {d : Addr} {o : Obj} {es : Array DictEntry} {ep : Nat}
theorem turn_f {kvs : List (D × D)} (it : Addr) (hod : o.data = .dict es ep) : Turn P w K tg (Itf K d o kvs) [it] it (fun i h => h.IsKeyIter it d i kvs.length ep) where
  mem := by simp
  obj := fun i h st b hb => by
    have e : b = it := by simpa using hb
    subst e
    obtain ⟨oi, e, c, dd⟩ := st
    exact ⟨oi, e, fun v z => by rw [dd] at z; cases z⟩
  keep := fun i h h' st k => st.at fun oi e => k it (by simp) oi e
  item := by
    intro X hP hw hK hc i pins s σ H E I hf st hg
    subst hP hw hK
    obtain ⟨hd, hi⟩ := hg
    obtain ⟨f0, f1, f2, f3, f4, f5⟩ := hf it (by simp)
    have hgd := dico_frz I hd
    obtain ⟨hs, _, es', ep', vs, ⟨o', ho', hx, hdt⟩, hsz, rk, rv⟩ := dico_raw (.inr ⟨o, fun _ => rfl⟩) I hd
    rw [hgd] at ho'
    cases ho'
    obtain ⟨rfl, rfl⟩ := dict_ep hod hdt
    have hi' : i < es'.size := by omega
    have hen : es'[i]? = some es'[i] := Array.getElem?_eq_getElem hi'
    obtain ⟨kk, hkk⟩ : ∃ kk, (kvs.map (·.1))[i]? = some kk := ⟨_, List.getElem?_eq_getElem (by rw [List.length_map]; exact hi)⟩
    obtain ⟨v, hv, r1⟩ := rk.get hkk
    obtain ⟨u, hu, r2⟩ := rv.get hv
    rw [List.getElem?_map, Array.getElem?_toList, hen] at hu
    cases hu
    refine next_key_item st hgd hdt hsz hen fun h' st' sb => ?_
    have I1 : Inv X pins σ H { s with heap := h' } := I.turned (t' := s.toks) (fun b ob hb e => (sb.2 b hb).trans e) f0 f1 f3 f4 f5
    obtain ⟨oi, e, c, dd⟩ := id st'
    exact ⟨_, rfl, go_of (s := { s with heap := h' }) e c dd (by decide) ⟨v, H, I1, r2, ⟨rfl, _, hkk, r1⟩, st', fun b hb => (hf b hb).1⟩⟩
  done := by
    intro X hP hw hK hc i pins s σ H E I hf st hg
    subst hP hw hK
    obtain ⟨hd, hi⟩ := hg
    obtain ⟨f0, f1, f2, f3, f4, f5⟩ := hf it (by simp)
    have hgd := dico_frz I hd
    obtain ⟨hs, _, es', ep', vs, ⟨o', ho', hx, hdt⟩, hsz, rk, rv⟩ := dico_raw (.inr ⟨o, fun _ => rfl⟩) I hd
    rw [hgd] at ho'
    cases ho'
    obtain ⟨rfl, rfl⟩ := dict_ep hod hdt
    exact next_key_end (I.ok.hd hc) st hgd hdt hsz hi fun h' eb => ⟨rfl, I.turned (t' := s.toks) (fun b ob hb e => eb b ob hb e) f0 f1 f3 f4 f5⟩
  self := fun A i s Q E st h => wpAny_pyIter_keyiter st h
end
/-- what is walked of a dict that stands locked -/
def rKeysI (K : PySem.W.Frag) : V → Hp → (It → Hp → Prop) → Prop := fun x H R => ∃ d o kvs, x = .ref d ∧ DicO K H d (.frz o) kvs ∧ R (Itf K d o kvs) H
section
variable {X : Cx} {tg : Expr}
theorem itr_keys : ItR X tg (rKeysI X.K) := by
  intro pins s σ H x v R I rx h
  obtain ⟨d, o, kvs, rfl, hd, q⟩ := h
  cases rx
  have hgd := dico_frz I hd
  obtain ⟨hs, _, es', ep', vs, ⟨o', ho', hx, hdt⟩, hsz, rk, rv⟩ := dico_raw (.inr ⟨o, fun _ => rfl⟩) I hd
  rw [hgd] at ho'
  cases ho'
  refine iter_keys hs hgd hx hdt (pi_one (tk := s.toks) I _ (turn_f _ hdt) ⟨_, Heap.get?_push_size _ rfl, rfl, ?_⟩ q)
  rw [hsz] <;> rfl
theorem itf_ok {K : PySem.W.Frag} {H1 : Hp} {d : Addr} {o : Obj} {kvs : List (D × D)} (h : ∀ H M, Ext K H1 H → RM K H M → M d = some (.fct kvs) → DicO K H d (.frz o) kvs) : ItOk K H1 (Itf K d o kvs) (kvs.map (·.1)) (fun M => M d = some (.fct kvs)) where
  go := fun i H M e m o hi => ⟨h H M e m o, by simpa using hi⟩
  yld := fun i H M v H' e m o hi y => by
    obtain ⟨rfl, k, hk, r⟩ := y
    exact ⟨k, hk, Ext.refl _, r, m⟩
  stop := fun i H M e m o hi => ⟨h H M e m o, by simpa using hi⟩
/-- for x in e: a list, a tuple, or a dict that stands locked -/
def keyL (M : Mem) : D → Option (List (D × D))
  | .ref a => match M a with
    | some (.fct kvs) => some kvs
    | _ => none
  | _ => none
def iSeqA (te : DE) : DI := fun δ M R => te δ M fun d M1 => match keyL M1 d with
  | some kvs => R (kvs.map (·.1)) (fun M => ∃ a, d = .ref a ∧ M a = some (.fct kvs)) M1
  | none => match srcD M1 d with
    | some (xs, ok) => R xs ok M1
    | none => False
theorem ext_fdic {K : PySem.W.Frag} {H1 H : Hp} {a : Addr} {o : Obj} {kvs : List (D × D)} (e : Ext K H1 H) (h : DicO K H1 a (.frz o) kvs) : DicO K H a (.frz o) kvs := by
  rcases h with ⟨ws, h1, h2⟩ | ⟨xs, h1, h2⟩
  · exact .inl ⟨ws, e.f _ _ _ h1, Paired.mapP h2 fun p q z => ⟨z.1, z.2.ext e⟩⟩
  · exact .inr ⟨xs, e.f _ _ _ h1, Paired.mapP h2 fun p q z => ⟨z.1, z.2.1, z.2.2.1.ext e, z.2.2.2.ext e⟩⟩
theorem itr_or {r r' : V → Hp → (It → Hp → Prop) → Prop} (h : ItR X tg r) (h' : ItR X tg r') : ItR X tg fun x H R => r x H R ∨ r' x H R := fun pins s σ H x v R I rx q => q.elim (h pins s σ H x v R I rx) (h' pins s σ H x v R I rx)
theorem pdi_seqA {l : Expr} {tl : DE} (hl : PD X l tl) : PDI X tg l (iSeqA tl) := ⟨PI_imp (pi_of (itr_or itr_seq itr_keys) hl.pe) fun σ H Q q => by
  obtain ⟨δ, M, R, S, m, h, k⟩ := q
  refine ⟨δ, M, _, S, m, h, fun d M1 v H1 h1 e1 r1 m1 => ?_⟩
  split at h1
  · rename_i kvs he
    unfold keyL at he
    split at he
    · rename_i a
      split at he
      · rename_i kvs' ha
        cases he
        cases r1
        obtain ⟨o, hd⟩ := m1 _ _ ha
        refine .inr ⟨_, o, _, rfl, hd, k _ _ M1 _ H1 h1 e1 m1 ⟨fun i H M e m z hi => ?_, fun i H M v H' e m z hi y => ?_, fun i H M e m z hi => ?_⟩⟩
        · exact ⟨ext_fdic e hd, by simpa using hi⟩
        · obtain ⟨rfl, k, hk, r⟩ := y
          exact ⟨k, hk, Ext.refl _, r, m⟩
        · exact ⟨ext_fdic e hd, by simpa using hi⟩
      · cases he
    · cases he
  · split at h1
    · rename_i xs ok he
      rcases src_imp m1 he r1 with ⟨a, vs, rfl, s, rv, it⟩ | ⟨a, vs, rfl, s, rv⟩
      · exact .inl (.inl ⟨a, vs, rfl, s, k _ _ M1 _ H1 h1 e1 m1 it⟩)
      · exact .inl (.inr ⟨a, vs, rfl, s, k _ _ M1 _ H1 h1 e1 m1 (itt_ok s rv)⟩)
    · exact h1.elim⟩
end
end DD
end
section
namespace DD
open PySem PySem.Spec PyProof.Rows L2 GxR GenW
/-! ### a dict stands locked while a statement or an expression runs -/
structure ExtW (K : PySem.W.Frag) (H H' : Hp) : Prop where
  t : ∀ a xs, SqT K H a xs → SqT K H' a xs
  r : ∀ a xs, RoL K H a xs → RoL K H' a xs
  p : ∀ a o xs, H a = some (.frz o (.tup xs)) → H' a = some (.frz o (.tup xs))
section
variable {K : PySem.W.Frag} {H H' : Hp}
mutual
theorem RV.extW (e : ExtW K H H') : ∀ {d : D} {v : V}, RV K H d v → RV K H' d v
  | .non, _, h => h
  | .bl _, _, h => h
  | .int _, _, h => h
  | .str _, _, h => h
  | .ref _, _, h => h
  | .ty _, _, h => h
  | .tup ds, v, h => by
    obtain ⟨a, vs, r, s, q⟩ := h
    exact ⟨a, vs, r, e.t _ _ s, RVs.extW e q⟩
  | .rol ds, v, h => by
    obtain ⟨a, vs, r, s, q⟩ := h
    exact ⟨a, vs, r, e.r _ _ s, RVs.extW e q⟩
  | .pup ds, v, h => by
    obtain ⟨a, vs, r, ⟨o, s, n⟩, q⟩ := h
    exact ⟨a, vs, r, ⟨o, e.p _ _ _ s, n⟩, RVs.extW e q⟩
theorem RVs.extW (e : ExtW K H H') : ∀ {ds : List D} {vs : List V}, RVs K H ds vs → RVs K H' ds vs
  | [], _, h => h
  | d :: ds, _, h => by
    obtain ⟨v, ws, r, q, t⟩ := h
    exact ⟨v, ws, r, RV.extW e q, RVs.extW e t⟩
end
theorem DicO.extW {a : Addr} {u : HO → HO} {kvs : List (D × D)} (e : ExtW K H H') (k : H' a = H a) (h : DicO K H a u kvs) : DicO K H' a u kvs := by
  rcases h with ⟨ws, h1, h2⟩ | ⟨xs, h1, h2⟩
  · exact .inl ⟨ws, by rw [k]; exact h1, Paired.mapP h2 fun p q z => ⟨z.1, z.2.extW e⟩⟩
  · exact .inr ⟨xs, by rw [k]; exact h1, Paired.mapP h2 fun p q z => ⟨z.1, z.2.1, z.2.2.1.extW e, z.2.2.2.extW e⟩⟩
theorem ro_stayW {a : Addr} {o : MO} (e : ExtW K H H') (k : H' a = H a) (h : RO K H a o) : RO K H' a o := by
  cases o with
  | lst ds => obtain ⟨vs, h1, h2⟩ := h; exact ⟨vs, by rw [k]; exact h1, h2.extW e⟩
  | dK kvs => obtain ⟨vs, h1, h2, h3⟩ := h; exact ⟨vs, by rw [k]; exact h1, h2, h3.extW e⟩
  | ins C ns ds => obtain ⟨dx, vs, h1, h2, h3⟩ := h; exact ⟨dx, vs, by rw [k]; exact h1, h2, h3.extW e⟩
  | tbl => obtain ⟨ps, h1, h2⟩ := h; exact ⟨ps, by rw [k]; exact h1, h2⟩
  | dct kvs => exact DicO.extW (u := fun u => u) e k h
  | fct kvs => obtain ⟨o, h⟩ := h; exact ⟨o, DicO.extW (u := .frz o) e k h⟩
/-- neither a list nor a tuple nor locked -/
def NoSq : HO → Prop
  | .lst _ => False
  | .tup _ => False
  | .frz _ _ => False
  | _ => True
theorem extW_unlock {p : Addr} {od : Obj} {u : HO} (h : H p = some (.frz od u)) (n : NoSq u) : ExtW K H (upd H p u) where
  t := fun a xs q => by
    rcases q with (q | ⟨o, q⟩) | q
    · exact .inl (.inl (by rw [upd_ne (fun z => by rw [z, h] at q; cases q)]; exact q))
    · exact .inl (.inr ⟨o, by rw [upd_ne (fun z => by rw [z, h] at q; cases q; exact n)]; exact q⟩)
    · exact .inr q
  r := fun a xs q => by
    rcases q with ⟨o, q⟩ | q
    · exact .inl ⟨o, by rw [upd_ne (fun z => by rw [z, h] at q; cases q; exact n)]; exact q⟩
    · exact .inr q
  p := fun a o xs q => by rw [upd_ne (fun z => by rw [z, h] at q; cases q; exact n)]; exact q
theorem rm_unlock {M : Mem} {p : Addr} {od : Obj} {u : HO} {o : MO} (m : RM K H M) (h : H p = some (.frz od u)) (n : NoSq u) (r : RO K (upd H p u) p o) : RM K (upd H p u) (updM M p o) := fun a o' e => by
  by_cases ha : a = p
  · subst ha; rw [updM_same] at e; cases e; exact r
  · rw [updM_ne ha] at e
    exact ro_stayW (extW_unlock h n) (upd_ne ha) (m a o' e)
theorem ext_lock {p : Addr} {od : Obj} {u : HO} (h : H p = some u) (n : NoSq u) : Ext K H (upd H p (.frz od u)) := Ext.mut h (fun _ z => by rw [z] at n; exact n) (fun _ _ z => by rw [z] at n; exact n)
/-- through the locked run -/
theorem ext_thru {p : Addr} {od : Obj} {u : HO} (h : H p = some u) (n : NoSq u) (e : Ext K (upd H p (.frz od u)) H') : H' p = some (.frz od u) ∧ Ext K H (upd H' p u) := by
  have e1 : H' p = some (.frz od u) := e.f _ _ _ upd_same
  refine ⟨e1, fun a xs q => ?_, fun a o xs q => ?_⟩
  · have ne : a ≠ p := fun z => by rw [z, h] at q; cases q; exact n
    rw [upd_ne ne]
    exact e.t _ _ (by rw [upd_ne ne]; exact q)
  · have ne : a ≠ p := fun z => by rw [z, h] at q; cases q; exact n
    rw [upd_ne ne]
    exact e.f _ _ _ (by rw [upd_ne ne]; exact q)
theorem dico_u {p : Addr} {kvs : List (D × D)} (h : DicO K H p (fun u => u) kvs) : ∃ u, H p = some u ∧ NoSq u ∧ Mut (some u) ∧ (∀ od, DicO K (upd H p (.frz od u)) p (.frz od) kvs) ∧ ∀ H', Ext K H (upd H' p u) → DicO K (upd H' p u) p (fun u => u) kvs := by
  rcases h with ⟨ws, h1, h2⟩ | ⟨xs, h1, h2⟩
  · refine ⟨.dK ws, h1, trivial, trivial, fun od => .inl ⟨ws, upd_same, ?_⟩, fun H' e => .inl ⟨ws, upd_same, ?_⟩⟩
    · exact Paired.mapP h2 fun p q z => ⟨z.1, z.2.ext (ext_lock h1 trivial)⟩
    · exact Paired.mapP h2 fun p q z => ⟨z.1, z.2.ext e⟩
  · refine ⟨dictN p xs, h1, trivial, trivial, fun od => .inr ⟨xs, upd_same, ?_⟩, fun H' e => .inr ⟨xs, upd_same, ?_⟩⟩
    · exact Paired.mapP h2 fun p q z => ⟨z.1, z.2.1, z.2.2.1.ext (ext_lock h1 trivial), z.2.2.2.ext (ext_lock h1 trivial)⟩
    · exact Paired.mapP h2 fun p q z => ⟨z.1, z.2.1, z.2.2.1.ext e, z.2.2.2.ext e⟩
end
def sLock (t : DS) : DS := fun E δ M => ∃ p kvs, M p = some (.dct kvs) ∧ t ⟨fun δ' M' => E.nx δ' (updM M' p (.dct kvs)), fun d M' => E.rt d (updM M' p (.dct kvs)), fun δ' M' => E.bk δ' (updM M' p (.dct kvs)), fun δ' M' => E.ct δ' (updM M' p (.dct kvs))⟩ δ (updM M p (.fct kvs))
def dLock (t : DE) : DE := fun δ M R => ∃ p kvs, M p = some (.dct kvs) ∧ t δ (updM M p (.fct kvs)) fun d M' => R d (updM M' p (.dct kvs))
section
variable {X : Cx}
theorem pds_lock {st : Stmt} {t : DS} (h : PDS X st t) : PDS X st (sLock t) := ⟨PS_imp (ps_lock h.ps) fun Dd σ H q => by
  obtain ⟨δ, M, R, S, m, ⟨p, kvs, hp, ht⟩, k⟩ := q
  obtain ⟨u, hu, n, mu, lk, un⟩ := dico_u (m p _ hp)
  have out : ∀ {H' : Hp} {M' : Mem} (od : Obj), Ext X.K (upd H p (.frz od u)) H' → RM X.K H' M' → H' p = some (.frz od u) ∧ Ext X.K H (upd H' p u) ∧ RM X.K (upd H' p u) (updM M' p (.dct kvs)) := fun {H' M'} od e m' => by
    obtain ⟨e1, e2⟩ := ext_thru hu n e
    exact ⟨e1, e2, rm_unlock m' e1 n (un H' e2)⟩
  refine ⟨p, u, hu, mu, fun od => ⟨δ, _, _, S.ext (ext_lock hu n), rm_put (o := .fct kvs) m hu (ext_lock hu n) ⟨od, lk od⟩, ht, ⟨fun δ' M' σ' H' r e s m' => ?_, fun δ' M' σ' H' r e s m' => ?_, fun δ' M' σ' H' r e s m' => ?_, fun d M' v H' r e rv m' => ?_⟩⟩⟩
  · obtain ⟨a, b, c⟩ := out od e m'
    exact ⟨a, k.nx _ _ _ _ r b ⟨s.len, fun i d q => let ⟨v, x, y⟩ := s.at_ i d q; ⟨v, x, y.extW (extW_unlock a n)⟩⟩ c⟩
  · obtain ⟨a, b, c⟩ := out od e m'
    exact ⟨a, k.bk _ _ _ _ r b ⟨s.len, fun i d q => let ⟨v, x, y⟩ := s.at_ i d q; ⟨v, x, y.extW (extW_unlock a n)⟩⟩ c⟩
  · obtain ⟨a, b, c⟩ := out od e m'
    exact ⟨a, k.ct _ _ _ _ r b ⟨s.len, fun i d q => let ⟨v, x, y⟩ := s.at_ i d q; ⟨v, x, y.extW (extW_unlock a n)⟩⟩ c⟩
  · obtain ⟨a, b, c⟩ := out od e m'
    exact ⟨a, k.rt _ _ _ _ r b (rv.extW (extW_unlock a n)) c⟩⟩
theorem pd_lock {e : Expr} {t : DE} (h : PD X e t) : PD X e (dLock t) := ⟨PE_imp (pe_lock h.pe) fun σ H Q q => by
  obtain ⟨δ, M, R, S, m, ⟨p, kvs, hp, ht⟩, k⟩ := q
  obtain ⟨u, hu, n, mu, lk, un⟩ := dico_u (m p _ hp)
  refine ⟨p, u, hu, mu, fun od => ⟨δ, _, _, S.ext (ext_lock hu n), rm_put (o := .fct kvs) m hu (ext_lock hu n) ⟨od, lk od⟩, ht, fun d M' v H' r e rv m' => ?_⟩⟩
  obtain ⟨e1, e2⟩ := ext_thru hu n e
  exact ⟨e1, k _ _ _ _ r e2 (rv.extW (extW_unlock e1 n)) (rm_unlock m' e1 n (un H' e2))⟩⟩
end

/-! ### list(d), sorted(d) -/
/-- a dict, locked or not -/
def keyA (M : Mem) : D → Option (List (D × D))
  | .ref a => match M a with
    | some (.fct kvs) => some kvs
    | some (.dct kvs) => some kvs
    | _ => none
  | _ => none
theorem keyA_imp {K : PySem.W.Frag} {H : Hp} {M : Mem} {d : D} {kvs : List (D × D)} {v : V} (m : RM K H M) (e : keyA M d = some kvs) (h : RV K H d v) : ∃ (a : Addr) (u : HO → HO), v = .ref a ∧ ((∀ x, u x = x) ∨ ∃ o, ∀ x, u x = .frz o x) ∧ DicO K H a u kvs := by
  unfold keyA at e
  split at e
  · rename_i a
    cases h
    split at e
    · rename_i z hz
      cases e
      obtain ⟨o, hd⟩ := m _ _ hz
      exact ⟨a, .frz o, rfl, .inr ⟨o, fun _ => rfl⟩, hd⟩
    · rename_i z hz
      cases e
      exact ⟨a, fun u => u, rfl, .inl fun _ => rfl, m _ _ hz⟩
    · cases e
  · cases e
def rKeysL (K : PySem.W.Frag) : List V → Hp → VK → Prop := fun xs H Q => ∃ (a : Addr) (u : HO → HO) (kvs : List (D × D)), xs = [.ref a] ∧ ((∀ x, u x = x) ∨ ∃ o, ∀ x, u x = .frz o x) ∧ DicO K H a u kvs ∧
  ∀ l vs, H l = none → RVs K H (kvs.map (·.1)) vs → Q (.ref l) (upd H l (.lst vs))
section
variable {X : Cx}
theorem cr_or {f : Value} {r r' : List V → Hp → VK → Prop} (h : CallR X f r) (h' : CallR X f r') : CallR X f fun xs H Q => r xs H Q ∨ r' xs H Q := fun pins s σ H xs us Q I rv q => q.elim (h pins s σ H xs us Q I rv) (h' pins s σ H xs us Q I rv)
theorem cr_list_keys (hc : X.calm = true) : CallR X (.type "list") (rKeysL X.K) := by
  intro pins s σ H xs us Q I r h
  obtain ⟨a, u, kvs, rfl, hu, hd, q⟩ := h
  rw [Vals.ref1 r]
  obtain ⟨lo, hz, es, ep, vs, hr, hs, rk, rv⟩ := dico_raw hu I hd
  refine PySem.W.kdl_call (KdlSrc.rawDict (es := es) (ep := ep) lo) (I.ok.hd hc) hr (by omega) fun h' tk acc' c' hk hD hacc => ?_
  have rv2 : Vals vs acc'.toList := by
    refine vals_of_get ?_ fun i v w hv hw => ?_
    · have l1 := rv.length
      have l2 : (es.toList.map (·.key)).length = es.size := by rw [List.length_map]; exact Array.length_toList
      have l3 : acc'.toList.length = acc'.size := Array.length_toList
      have l4 := hacc.1
      omega
    · obtain ⟨hi, rfl⟩ := hacc.2 i w (by rw [← Array.getElem?_toList]; exact hw)
      obtain ⟨w', hw', r1⟩ := rv.get hv
      rw [List.getElem?_map, Array.getElem?_toList, Array.getElem?_eq_getElem hi] at hw'
      cases hw'
      exact r1
  have hlen : vs.length = kvs.length := by rw [← rk.length, List.length_map]
  refine ⟨.ref _, _, I.laid (t' := tk) (a := s.heap.objs.size) (o := .lst vs) hk (Nat.le_refl _) ⟨by omega, acc'.toList, c', rv2, by rw [Array.toArray_toList]; exact hD⟩, rfl, q _ vs (I.hok.fresh (Nat.le_refl _)) rk⟩
end
end DD
end
section
namespace DD
open PySem PySem.Spec PyProof.Rows L2 GxR GenW
/-! ### sorted(d) -/
theorem sorted_raw {prog : Program} {w : World} {A : Around} {E : Value → Shared → Prop} {s : Shared} {β : Type} {bs : List β} {enc : β → PyData} {R : Value → β → Prop} {d : Addr} {es : Array DictEntry} {ep : Nat} {Q : Value → Shared → Prop}
    (hh : A.handled = none) (lo : (d == sysModules) = false) (hr : s.heap.DictRaw d es ep) (e : PySem.W.EachIs R (es.toList.map (·.key)) bs) (er : PySem.W.EachIs (fun v b => ∃ as, Reads s.heap v (enc b) as) (es.toList.map (·.key)) bs)
    (hal : PySem.W.AllAlike (bs.map enc)) (hk : PySem.W.Sortable (bs.map enc)) (hL : bs.length ≤ sizeLine) (hu : ∀ b, b ∈ bs → A.units + 2 + (enc b).depth < cLine)
    (h : ∀ out (D : Addr) h' tk c, out.length = bs.length → PySem.W.EachIs R out (bs.mergeSort (PySem.W.dataLe false enc)) → (∀ b o, s.heap.get? b = some o → h'.get? b = some o) → (∃ h1 : Heap, (∀ b o, s.heap.get? b = some o → h1.get? b = some o) ∧ h1.objs.size ≤ D) → h'.get? D = some (seqObj "list" (List.toArray out) c) → Q (.ref D) { s with heap := h', toks := tk }) :
    wpAny (model prog w) A (call (.builtin "sorted") [.ref d]) Q E s := by
  have hn : es.size = bs.length := by rw [← e.length, List.length_map]; exact Array.length_toList.symm
  refine Calls.call_function_entry kind_sorted plain_sorted entry_sorted (args_sorted1 _) ?_
  unfold Builtin.«sorted»
  refine wpAny_bind (m := checkCount "sorted" 1 1 _) (wpAny_pure ?_)
  refine wpAny_bind (PySem.W.kdu_collect (A := A.in1) (KdlSrc.rawDict (es := es) (ep := ep) lo) hh hr (by omega) fun h' tk acc hk' hacc => ?_)
  have hacc2 : acc.toList = es.toList.map (·.key) := by
    apply List.ext_getElem?
    intro j
    have l2 : (es.toList.map (·.key)).length = es.size := by rw [List.length_map]; exact Array.length_toList
    have l3 : acc.toList.length = acc.size := Array.length_toList
    have l4 := hacc.1
    by_cases hj : j < es.size
    · have e1 : acc.toList[j]? = some (acc.toList[j]'(by omega)) := List.getElem?_eq_getElem (by omega)
      obtain ⟨hi, hv⟩ := hacc.2 j _ (by rw [← Array.getElem?_toList]; exact e1)
      rw [e1, hv, List.getElem?_map, Array.getElem?_toList, Array.getElem?_eq_getElem hi]
      rfl
    · rw [List.getElem?_eq_none (by omega), List.getElem?_eq_none (by omega)]
  rw [hacc2]
  generalize es.toList.map (·.key) = vs at e er hacc2
  have hvl : vs.length = bs.length := e.length
  refine wpAny_bind (wpAny_newList ?_ (by rw [hvl]; exact hL))
  have ho : (h'.push { cls := .type "list", data := .seq vs.toArray }).get? h'.objs.size = some (seqObj "list" vs.toArray 0) := Heap.get?_push_size _ rfl
  have er' : PySem.W.EachIs (fun v b => ∃ as, Reads (PySem.W.sortingHeap (h'.push { cls := .type "list", data := .seq vs.toArray }) h'.objs.size vs) v (enc b) as) vs bs := er.mono fun _ _ ⟨as, r⟩ =>
    ⟨as, PyProof.Rows.Reads.keeps (fun b o q => PySem.W.sortingHeap_old (Nat.ne_of_lt (Heap.lt_size (hk' b o q))) (Heap.get?_push_of_some _ (hk' b o q))) r⟩
  refine wpAny_bind (wpAny_holding (wpAny_call_entry (s := { s with heap := h'.push { cls := .type "list", data := .seq vs.toArray }, toks := tk }) slot_list_sort ⟨_, ho, rfl⟩ entry_list_sort
    (PySem.W.list_sort_vals (κ := PySem.W.dataKind (PySem.W.sortingHeap (h'.push { cls := .type "list", data := .seq vs.toArray }) h'.objs.size vs) (bs.map enc)) ho
      (PySem.W.SortsAt.data (s := { s with heap := PySem.W.sortingHeap (h'.push { cls := .type "list", data := .seq vs.toArray }) h'.objs.size vs, toks := tk })
        (PySem.W.each_map (R := fun v d => ∃ as, Reads (PySem.W.sortingHeap (h'.push { cls := .type "list", data := .seq vs.toArray }) h'.objs.size vs) v d as) enc er') hal hk (PySem.W.bound_map fun b hb => by
          have := hu b hb
          show A.units + 1 + 1 + _ < _
          omega)) (by rw [hvl]; exact hL) ?_) (args_list_sort _)))
  refine ⟨.none, rfl, wpAny_pure ⟨_, rfl, ?_⟩⟩
  obtain ⟨c, hc⟩ := sortedHeap_at (vs := vs) (out := (PySem.W.sortVals (PySem.W.dataKind (PySem.W.sortingHeap (h'.push { cls := .type "list", data := .seq vs.toArray }) h'.objs.size vs) (bs.map enc)) false vs vs).toArray) ho
  refine h _ h'.objs.size _ tk c ?_ (PySem.W.sortVals_data false e er' hal) (fun b o q => ?_) ?_ hc
  · rw [PySem.W.sortVals_length false rfl]; exact hvl
  · have q1 := hk' b o q
    have q2 : (h'.push { cls := .type "list", data := .seq vs.toArray }).get? b = some o := Heap.get?_push_of_some _ q1
    rw [sortedHeap_old (Nat.ne_of_lt (Heap.lt_size q1)) (Heap.lt_size q2)]
    exact q2
  · exact ⟨h', hk', Nat.le_refl _⟩
/-- the keys of a dict that can be compared -/
def rKeysS (K : PySem.W.Frag) : List V → Hp → VK → Prop := fun xs H Q => ∃ (a : Addr) (u : HO → HO) (kvs : List (D × D)), xs = [.ref a] ∧ ((∀ x, u x = x) ∨ ∃ o, ∀ x, u x = .frz o x) ∧ DicO K H a u kvs ∧
  (∀ x ∈ kvs.map (·.1), pyd x = some (toP x)) ∧ PySem.W.AllAlike ((kvs.map (·.1)).map toP) ∧ PySem.W.Sortable ((kvs.map (·.1)).map toP) ∧ (∀ y ∈ kvs.map (·.1), (toP y).depth ≤ 60) ∧
  ∀ l vs, H l = none → RVs K H ((kvs.map (·.1)).mergeSort dLe) vs → Q (.ref l) (upd H l (.lst vs))
section
variable {X : Cx}
theorem cr_sorted_keys (hc : X.calm = true) (hu : X.A.units + 64 < cLine) : CallR X (.builtin "sorted") (rKeysS X.K) := by
  intro pins s σ H xs us Q I r h
  obtain ⟨a, u, kvs, rfl, hu', hd, hp, hal, hso, hdp, q⟩ := h
  rw [Vals.ref1 r]
  obtain ⟨lo, hz, es, ep, vs, hr, hs, rk, rv⟩ := dico_raw hu' I hd
  generalize hks : kvs.map (·.1) = ks at *
  have hkl : ks.length = kvs.length := by rw [← hks, List.length_map]
  have e := each_of rk rv
  have er : PySem.W.EachIs (fun v b => ∃ as, Reads s.heap v (toP b) as) (es.toList.map (·.key)) ks := by
    have gen : ∀ {us : List Value} {ds : List D}, (∀ x ∈ ds, pyd x = some (toP x)) → PySem.W.EachIs (fun u d => ∃ v, RelV v u ∧ RV X.K H d v) us ds → PySem.W.EachIs (fun v b => ∃ as, Reads s.heap v (toP b) as) us ds := by
      intro us ds hp e
      induction e with
      | nil => exact .nil
      | cons h t ih =>
        obtain ⟨v, r1, q1⟩ := h
        exact .cons (Dp.reads I _ v _ (pyd_dp (hp _ List.mem_cons_self) q1) r1) (ih fun x hx => hp x (List.mem_cons_of_mem _ hx))
    exact gen hp e
  refine sorted_raw (I.ok.hd hc) lo hr e er hal hso (by omega) (fun b hb => by have := hdp b hb; omega) fun out D h' tk c ho eo hk hD hl => ?_
  obtain ⟨ys, b1, b2⟩ := of_each eo
  obtain ⟨h1, k1, z1⟩ := hD
  have hfr : H D = none := (I.hok.kept k1).fresh z1
  have hD : s.heap.get? D = none := by
    cases q : s.heap.get? D with
    | none => rfl
    | some o => exact absurd (Nat.lt_of_lt_of_le (Heap.lt_size (k1 _ _ q)) z1) (Nat.lt_irrefl _)
  refine ⟨.ref D, upd H D (.lst ys), I.laidN (t' := tk) hk hD hfr ⟨?_, out, c, b2, hl⟩, rfl, q _ ys hfr b1⟩
  rw [b2.length, ho]; omega
end
end DD
end
section
namespace DD
open PySem PySem.Spec PyProof.Rows L2 GxR GenW
/-! ### list, sorted over data: dicts too -/
/-- a list that is made behind a memory that may have been forgotten in part -/
def gListA : DC1 := fun xs M R => match xs with
  | [d] => match keyA M d with
    | some kvs => ∀ p, M p = none → R (.ref p) (updM M p (.lst (kvs.map (·.1))))
    | none => gList xs M R
  | _ => False
theorem cr_listA {X : Cx} (hc : X.calm = true) : CallR X (.type "list") (fun xs H Q => rKeysL X.K xs H Q ∨ ∃ p ys, xs = [.ref p] ∧ (SqL X.K H p ys ∨ SqT X.K H p ys) ∧ ∀ l, H l = none → Q (.ref l) (upd H l (.lst ys))) := cr_or (X := X) (cr_list_keys hc) call_list_of
theorem cd_listA {K : PySem.W.Frag} : CallD K (fun xs H Q => rKeysL K xs H Q ∨ ∃ p ys, xs = [.ref p] ∧ (SqL K H p ys ∨ SqT K H p ys) ∧ ∀ l, H l = none → Q (.ref l) (upd H l (.lst ys))) gListA := by
  intro xs M R H vs Q g m r k
  unfold gListA at g
  split at g
  · rename_i d
    split at g
    · rename_i kvs he
      obtain ⟨v, ws, rfl, q, t⟩ := r
      cases t
      obtain ⟨a, u, rfl, hu, hd⟩ := keyA_imp m he q
      exact .inl ⟨a, u, kvs, rfl, hu, hd, fun l vs hl rv => kq_new k m hl rv (g l (rm_none m hl))⟩
    · exact .inr (cd_list _ M R H vs Q g m r k)
  · exact g.elim
def gSortedA : DC1 := fun xs M R => match xs with
  | [d] => match keyA M d with
    | some kvs => (∃ ps, pyds (kvs.map (·.1)) = some ps) ∧ PySem.W.AllAlike ((kvs.map (·.1)).map toP) ∧ PySem.W.Sortable ((kvs.map (·.1)).map toP) ∧ (∀ y ∈ kvs.map (·.1), (toP y).depth ≤ 60) ∧
      ∃ M0, Sub M0 M ∧ ∀ p, M0 p = none → R (.ref p) (updM M0 p (.lst ((kvs.map (·.1)).mergeSort dLe)))
    | none => gSorted xs M R
  | _ => False
theorem cr_sortedA {X : Cx} (hc : X.calm = true) (hu : X.A.units + 64 < cLine) : CallR X (.builtin "sorted") (fun xs H Q => rKeysS X.K xs H Q ∨ rSortedD X.K xs H Q) := cr_or (X := X) (cr_sorted_keys hc hu) (cr_sortedD hu)
theorem cd_sortedA {K : PySem.W.Frag} : CallD K (fun xs H Q => rKeysS K xs H Q ∨ rSortedD K xs H Q) gSortedA := by
  intro xs M R H vs Q g m r k
  unfold gSortedA at g
  split at g
  · rename_i d
    split at g
    · rename_i kvs he
      obtain ⟨v, ws, rfl, q, t⟩ := r
      cases t
      obtain ⟨a, u, rfl, hu, hd⟩ := keyA_imp m he q
      obtain ⟨⟨ps, hp⟩, h1, h2, h3, M0, hs, g⟩ := g
      exact .inl ⟨a, u, kvs, rfl, hu, hd, (pyds_map hp).2, h1, h2, h3, fun l vs hl rv => kq_new k (rm_sub m hs) hl rv (g l (rm_none (rm_sub m hs) hl))⟩
    · exact .inr (cd_sorted _ M R H vs Q g m r k)
  · exact g.elim

/-! ### dict(pairs): a tuple of pairs whose keys are tuples -/
def pairsD : List D → Option (List (D × D))
  | [] => some []
  | .tup [k, v] :: r => (pairsD r).map ((k, v) :: ·)
  | _ => none
noncomputable def putAll (acc ps : List (D × D)) : List (D × D) := ps.foldl (fun a p => putD' a p.1 p.2) acc
abbrev RelX (p : NestedKey × Addr × V) (q : NestedKey × Addr × Value) : Prop := p.1 = q.1 ∧ p.2.1 = q.2.1 ∧ RelV p.2.2 q.2.2
theorem putAll_rel {K : PySem.W.Frag} {H : Hp} : ∀ {ps : List (D × D)} {xs : List (NestedKey × Addr × V)} {ys : List (NestedKey × Addr × Value)} {acc : List (D × D)} {ax : List (NestedKey × Addr × V)} {ay : List (NestedKey × Addr × Value)}, Paired (DN K H) ps xs → Paired RelX xs ys → Paired (DN K H) acc ax → Paired RelX ax ay →
    ∃ zx, Paired (DN K H) (putAll acc ps) zx ∧ Paired RelX zx (storedAllH ay ys) ∧ zx.length ≤ ax.length + ps.length := by
  intro ps xs ys acc ax ay h
  induction h generalizing ys acc ax ay with
  | nil =>
    intro q a b
    cases q
    exact ⟨ax, a, b, by simp⟩
  | @cons p x ps xs r t ih =>
    intro q a b
    cases q with
    | @cons _ y _ ys r2 t2 =>
      obtain ⟨hn, hdp, rk, rv⟩ := r
      obtain ⟨e1, e2, rr⟩ := r2
      have PP : Paired (DN K H) (putD' acc p.1 p.2) (putX ax x.1 x.2.1 x.2.2) := paired_putX a (fun p' x' z => ⟨fun e => by
          have := z.1
          rw [e, hn] at this
          exact (Option.some.inj this).symm, fun e => nkD_inj (by rw [z.1, e]) hn⟩) ⟨hn, hdp, rk, rv⟩ fun p' x' z _ => ⟨z.1, z.2.1, z.2.2.1, rv⟩
      have QQ := paired_stored (nk := x.1) (b := x.2.1) b rr
      rw [show x.1 = y.1 from e1, show x.2.1 = y.2.1 from e2] at PP QQ
      obtain ⟨zx, z1, z2, z3⟩ := ih t2 PP QQ
      refine ⟨zx, z1, z2, ?_⟩
      have := putX_len ax y.1 y.2.1 x.2.2
      rw [List.length_cons]
      omega
def rDictP (K : PySem.W.Frag) : List V → Hp → VK → Prop := fun xs H Q => ∃ (t : Addr) (vs : List V) (ds : List D) (ps : List (D × D)), xs = [.ref t] ∧ SqT K H t vs ∧ RVs K H ds vs ∧ pairsD ds = some ps ∧ (∀ p ∈ ps, isTk p.1 = true) ∧
  ∀ l o', H l = none → DicO K (upd H l o') l (fun u => u) (putAll [] ps) → Ext K H (upd H l o') → Q (.ref l) (upd H l o')
/-- the pairs, as they stand -/
theorem pairs_at {X : Cx} {pins : List (Addr × Obj)} {σ : L2.St} {H : Hp} {s : Shared} (I : Inv X pins σ H s) : ∀ {ds : List D} {vs : List V} {us : List Value} {ps : List (D × D)}, RVs X.K H ds vs → Vals vs us → pairsD ds = some ps → (∀ p ∈ ps, isTk p.1 = true) →
    ∃ (Ts : List Addr) (xs : List (NestedKey × Addr × V)) (ys : List (NestedKey × Addr × Value)), us = Ts.map Value.ref ∧ Paired (DN X.K H) ps xs ∧ Paired RelX xs ys ∧ Ts.length = ys.length ∧ (∀ (i : Nat) T y, Ts[i]? = some T → ys[i]? = some y → PairAt s.heap T (.ref y.2.1) y.2.2) ∧
      ∀ y ∈ ys, (nestedKind X.prog X.w).is s.heap y.1 y.2.1
  | [], _, _, ps, r, rv, e, _ => by
    cases e; cases r; cases rv
    exact ⟨[], [], [], rfl, .nil, .nil, rfl, fun i T y h => by simp at h, fun y hy => by cases hy⟩
  | d :: ds, vs, us, ps, r, rv, e, hk => by
    obtain ⟨v, ws, rfl, r1, r2⟩ := r
    unfold pairsD at e
    split at e
    · rename_i heq
      cases heq
    · rename_i k w rr heq
      cases heq
      cases h1 : pairsD ds with
      | none => rw [h1] at e; cases e
      | some ps' =>
        rw [h1] at e
        cases e
        cases rv with
        | @cons _ u _ us' rv1 rv2 =>
          obtain ⟨Ts, xs, ys, e1, p1, p2, l1, g1, g2⟩ := pairs_at I r2 rv2 h1 fun p hp => hk p (List.mem_cons_of_mem _ hp)
          obtain ⟨T, zs, rfl, hs, rs⟩ := r1
          cases rv1
          obtain ⟨its, ri, pt, _⟩ := I.tuple hs
          obtain ⟨y1, w1, rfl, rk, rs⟩ := rs
          obtain ⟨y2, w2, rfl, rv', rs⟩ := rs
          cases rs
          cases ri with
          | @cons _ u1 _ us1 a1 a2 =>
            cases a2 with
            | @cons _ u2 _ us2 b1 b2 =>
              cases b2
              obtain ⟨ks, nk, hkk, hn, hdp⟩ := isTk_ok (hk (k, w) List.mem_cons_self)
              have hkk : k = .tup ks := hkk
              subst hkk
              have ni := nested_of I hn rk a1
              have rk' := rk
              obtain ⟨b, _, rfl, _, _⟩ := rk
              cases a1
              have pt' : s.heap.IsTuple T #[.ref b, u2] := pt
              refine ⟨T :: Ts, (nk, b, y2) :: xs, (nk, b, u2) :: ys, by rw [e1]; rfl, .cons ⟨hn, hdp, rk', rv'⟩ p1, .cons ⟨rfl, rfl, b1⟩ p2, by simp [l1], fun i T' y hT hy => ?_, fun y hy => ?_⟩
              · cases i with
                | zero => simp at hT hy; subst hT hy; exact .inl pt'
                | succ i => exact g1 i T' y (by simpa using hT) (by simpa using hy)
              · rcases List.mem_cons.mp hy with rfl | hy
                · exact ⟨ni, hdp⟩
                · exact g2 y hy
    · cases e
end DD
end
section
namespace DD
open PySem PySem.Spec PyProof.Rows L2 GxR GenW
/-! ### a tuple whose object is known: tuple(xs), dict(xs) -/
def rTupP (K : PySem.W.Frag) : List V → Hp → VK → Prop := fun xs H Q => ∃ (p : Addr) (ys : List V), xs = [.ref p] ∧ SqL K H p ys ∧ ∀ l o, H l = none → o.dict = none → Q (.ref l) (upd H l (.frz o (.tup ys)))
def SqP (H : Hp) (a : Addr) (vs : List V) : Prop := ∃ o, H a = some (.frz o (.tup vs)) ∧ o.dict = none
/-- what a weaker reading of a value is -/
def Wk (d d' : D) : Prop := ∀ K H v, RV K H d v → RV K H d' v
theorem wk_refl (d : D) : Wk d d := fun _ _ _ h => h
theorem wk_pup (ds : List D) : Wk (.pup ds) (.tup ds) := fun K H v h => by
  obtain ⟨a, vs, rfl, ⟨o, s, _⟩, r⟩ := h
  exact ⟨a, vs, rfl, .inl (.inr ⟨o, s⟩), r⟩
def Wks : List D → List D → Prop
  | [], [] => True
  | d :: ds, e :: es => Wk d e ∧ Wks ds es
  | _, _ => False
theorem wks_rv {K : PySem.W.Frag} {H : Hp} : ∀ {ds es : List D} {vs : List V}, Wks ds es → RVs K H ds vs → RVs K H es vs
  | [], [], _, _, h => h
  | d :: ds, e :: es, _, w, h => by
    obtain ⟨v, ws, rfl, a, b⟩ := h
    exact .cons (w.1 K H v a) (wks_rv w.2 b)
  | [], _ :: _, _, w, _ => w.elim
  | _ :: _, [], _, w, _ => w.elim
theorem wk_tup {ds es : List D} (h : Wks ds es) : Wk (.tup ds) (.tup es) := fun K H v r => by
  obtain ⟨a, vs, rfl, s, q⟩ := r
  exact ⟨a, vs, rfl, s, wks_rv h q⟩
/-- the value read weaker -/
def dWk (t : DE) : DE := fun δ M R => t δ M fun d M' => ∃ d', Wk d d' ∧ R d' M'
section
variable {X : Cx}
theorem pd_wk {e : Expr} {t : DE} (h : PD X e t) : PD X e (dWk t) := ⟨PE_imp h.pe fun σ H Q q => by
  obtain ⟨δ, M, R, S, m, ht, k⟩ := q
  exact ⟨δ, M, _, S, m, ht, fun d M' v H' ⟨d', w, r⟩ e rv m' => k d' M' v H' r e (w _ _ _ rv) m'⟩⟩
theorem cr_tupP : CallR X (.type "tuple") (rTupP X.K) := by
  intro pins s σ H xs us Q I r h
  obtain ⟨p, ys, rfl, hq, q⟩ := h
  obtain ⟨u, rfl, rx⟩ := vals1 r
  cases rx
  obtain ⟨its, r', pl, hz⟩ := I.list hq
  have hlen := r'.length
  refine call_tuple_list pl.isList (fun h' kp => ?_) (by simp only [List.size_toArray] <;> omega)
  have I1 : Inv X pins σ H { s with heap := h' } := I.kept (t' := s.toks) kp
  have I2 : Inv X pins σ (upd H h'.objs.size (.frz { cls := .type "tuple", data := .seq its.toArray } (.tup ys))) { s with heap := h'.push { cls := .type "tuple", data := .seq its.toArray } } :=
    I1.laid (t' := s.toks) (fun b o e => Heap.get?_push_of_some _ e) (Nat.le_refl _) ⟨Heap.get?_push_size _ rfl, (show ObjOk X.prog X.w _ _ _ (.tup ys) from ⟨hz, its, r', IsTup.new _ _⟩)⟩
  exact ⟨.ref h'.objs.size, _, I2, rfl, q _ _ (I1.hok.fresh (Nat.le_refl _)) rfl⟩
end
def gTupP : DC1 := fun xs M R => match xs with
  | [.ref a] => match M a with
    | some (.lst ys) => ∃ M0, Sub M0 M ∧ R (.pup ys) M0
    | _ => False
  | _ => False
theorem cd_tupP {K : PySem.W.Frag} : CallD K (rTupP K) gTupP := by
  intro xs M R H vs Q g m r k
  unfold gTupP at g
  split at g
  · obtain ⟨v, ws, rfl, q, t⟩ := r
    cases t; cases q
    split at g
    · rename_i ys he
      obtain ⟨M0, hs, g⟩ := g
      obtain ⟨us, a1, r2⟩ := rm_lst m he
      refine ⟨_, us, rfl, .inl (.inl a1), fun l o hl hd => ?_⟩
      exact k _ _ _ _ g (Ext.new hl) ⟨l, us, rfl, ⟨o, upd_same, hd⟩, r2.ext (Ext.new hl)⟩ (rm_skip (rm_sub m hs) hl)
    · exact g.elim
  · exact g.elim
/-- dict(f), f a tuple of pairs whose keys are tuples -/
def rDictQ (K : PySem.W.Frag) : List V → Hp → VK → Prop := fun xs H Q => ∃ (t : Addr) (vs : List V) (ds : List D) (ps : List (D × D)), xs = [.ref t] ∧ SqP H t vs ∧ RVs K H ds vs ∧ pairsD ds = some ps ∧ (∀ p ∈ ps, isTk p.1 = true) ∧
  ∀ l o', H l = none → DicO K (upd H l o') l (fun u => u) (putAll [] ps) → Q (.ref l) (upd H l o')
section
variable {X : Cx}
theorem pairsD_len : ∀ {ds : List D} {ps : List (D × D)}, pairsD ds = some ps → ps.length = ds.length
  | [], ps, h => by cases h; rfl
  | d :: ds, ps, h => by
    unfold pairsD at h
    split at h
    · rename_i heq; cases heq
    · rename_i k v r heq
      cases heq
      cases e : pairsD ds with
      | none => rw [e] at h; cases h
      | some qs => rw [e] at h; cases h; simp [pairsD_len e]
    · cases h
theorem cr_dictQ (hc : X.calm = true) (hu : X.A.units + 64 < cLine) : CallR X (.type "dict") (rDictQ X.K) := by
  intro pins s σ H xs us Q I r h
  obtain ⟨t, vs, ds, ps, rfl, ⟨o, ht, hd⟩, rd, hp, hk, q⟩ := h
  rw [Vals.ref1 r]
  obtain ⟨its, rv, hti, hz⟩ := I.tuple (a := t) (xs := vs) (.inl (.inr ⟨o, ht⟩))
  obtain ⟨Ts, zs, ys, e1, p1, p2, l1, g1, g2⟩ := pairs_at I rd rv hp hk
  have hget : s.heap.get? t = some o := (I.hok t _ ht).1
  have hsz : its.length = ys.length := by rw [e1, List.length_map]; exact l1
  have hpl := pairsD_len hp
  have hdl := rd.length
  have hvl := rv.length
  have hyl : ys.length ≤ sizeLine := by omega
  obtain ⟨o', ho', hcl, n', hdat⟩ := hti
  rw [hget] at ho'
  cases ho'
  have hTs : ∀ (j : Nat) (y : NestedKey × Addr × Value), ys[j]? = some y → ∃ T, Ts[j]? = some T := fun j y hy => by
    have : j < Ts.length := by rw [l1]; exact (List.getElem?_eq_some_iff.mp hy).1
    exact ⟨_, List.getElem?_eq_getElem this⟩
  have ok : PlainSeq "tuple" s.heap t its.toArray ∧ PairItems s.heap its.toArray (fun i => Ts.getD i 0) (ys.map fun y => (Value.ref y.2.1, y.2.2)) := by
    refine ⟨⟨o, n', hget, hcl, hd, hdat⟩, by simp [hsz], fun j k v hj => ?_⟩
    rw [List.getElem?_map] at hj
    cases hy : ys[j]? with
    | none => rw [hy] at hj; cases hj
    | some y =>
      rw [hy] at hj
      cases hj
      obtain ⟨T, hT⟩ := hTs j y hy
      have hd' : Ts.getD j 0 = T := by rw [List.getD_eq_getElem?_getD, hT]; rfl
      show its.toArray[j]? = some (.ref (Ts.getD j 0)) ∧ PairAt s.heap (Ts.getD j 0) _ _
      rw [hd']
      refine ⟨?_, g1 j T y hT hy⟩
      rw [e1]
      simp [hT]
  refine call_dict_pairsH (knd := nestedKind X.prog X.w) (ps := ys) (PairArg.tuple t its.toArray (fun i => Ts.getD i 0) (ys.map fun y => (Value.ref y.2.1, y.2.2))) (I.ok.hd hc) (nk_room2 hu) ok ⟨by simp, fun i key v hr => ?_⟩ (fun h' hk' y hy => ?_) (by simpa using hyl) fun h' tk hd' hkp => ?_
  · have hr : (ys.map fun y => (Value.ref y.2.1, y.2.2))[i]? = some (key, v) := hr
    rw [List.getElem?_map] at hr
    cases hy : ys[i]? with
    | none => rw [hy] at hr; cases hr
    | some y =>
      rw [hy] at hr
      cases hr
      exact ⟨y.1, y.2.1, rfl, rfl⟩
  · have q := g2 y hy
    refine ⟨NestedIs.at (fun b ob vs n e _ => hk' b ob (Nat.ne_of_lt (Heap.lt_size e)) (fun z => nomatch z) e) _ _ q.1, q.2⟩
  · have kp : ∀ b ob, s.heap.get? b = some ob → h'.get? b = some ob := fun b ob e => hkp b ob (fun z => nomatch z) e
    obtain ⟨zx, w1, w2, w3⟩ := putAll_rel (acc := []) (ax := []) (ay := []) p1 p2 .nil .nil
    have hfr := I.hok.fresh (Nat.le_refl s.heap.objs.size)
    have hdd : (s.heap.objs.size == sysModules) = false := beq_eq_false_iff_ne.mpr (Ne.symm (Nat.ne_of_lt I.big))
    have new : ObjOk X.prog X.w (upd H s.heap.objs.size (dictN s.heap.objs.size zx)) h' s.heap.objs.size (dictN s.heap.objs.size zx) := dictN_new hdd (by
      have w3 : zx.length ≤ 0 + ps.length := w3
      omega) (fun x hx => by
      obtain ⟨p', hp', z⟩ := paired_mem w1 x hx
      exact nkD_txt z.1) w2 hd'
    refine ⟨.ref s.heap.objs.size, _, I.laid (t' := tk) kp (Nat.le_refl _) new, rfl, q _ _ hfr (.inr ⟨zx, upd_same, ?_⟩)⟩
    exact Paired.mapP w1 fun p x z => ⟨z.1, z.2.1, z.2.2.1.ext (Ext.new hfr), z.2.2.2.ext (Ext.new hfr)⟩
end
def gDictQ : DC1 := fun xs M R => match xs with
  | [.pup ds] => match pairsD ds with
    | some ps => (∀ p ∈ ps, isTk p.1 = true) ∧ ∀ p, M p = none → R (.ref p) (updM M p (.dct (putAll [] ps)))
    | none => False
  | _ => False
theorem cd_dictQ {K : PySem.W.Frag} : CallD K (rDictQ K) gDictQ := by
  intro xs M R H vs Q g m r k
  unfold gDictQ at g
  split at g
  · rename_i ds
    obtain ⟨v, ws, rfl, q, t⟩ := r
    cases t
    split at g
    · rename_i ps he
      obtain ⟨a, us, rfl, s, r2⟩ := q
      exact ⟨a, us, ds, ps, rfl, s, r2, he, g.1, fun l o' hl hd => k _ _ _ _ (g.2 l (rm_none m hl)) (Ext.new hl) rfl (rm_new m hl hd)⟩
    · exact g.elim
  · exact g.elim
end DD
end
section
namespace DD
open PySem PySem.Spec PyProof.Rows L2 GxR GenW
/-! ### max(xs, default = d) of ints -/
theorem reads_ints {h : Heap} : ∀ {ns : List Int} {us : List Value}, Vals (ns.map V.int) us → ∃ as, ReadsAll h us (ns.map PyData.int) as
  | [], _, r => by cases r; exact ⟨[], .nil⟩
  | n :: ns, _, r => by
    cases r with
    | @cons _ u _ us r1 r2 =>
      obtain ⟨t, rfl⟩ := r1
      obtain ⟨as, q⟩ := reads_ints r2
      exact ⟨_, .cons (.int n t) q⟩
def rMaxDef (K : PySem.W.Frag) : List V → List V → Hp → VK → Prop := fun vs zs H Q => ∃ (a : Addr) (ns : List Int) (d : V), vs = [.ref a] ∧ zs = [d] ∧ SqL K H a (ns.map V.int) ∧ (ns = [] → Q d H) ∧ ∀ n r, ns = n :: r → Q (.int (r.foldl max n)) H
section
variable {X : Cx}
theorem cr_maxDef (hc : X.calm = true) (hu : X.A.units + 64 < cLine) : CallRK X (.builtin "max") ["default"] (rMaxDef X.K) := by
  intro pins s σ H xs zs us ws Q I r r2 h
  obtain ⟨a, ns, d, rfl, rfl, hs, q0, q1⟩ := h
  obtain ⟨its, rv, hl, _⟩ := I.list hs
  rw [Vals.ref1 r]
  obtain ⟨w, rfl, rw'⟩ := vals1 r2
  obtain ⟨as, hr⟩ := reads_ints (h := s.heap) rv
  have hal : PySem.W.AlikeAll (ns.map PyData.int) := PySem.W.alikeAll_datum ns
  have hd : X.A.units + 1 + PyData.depthAll (ns.map PyData.int) < cLine := PySem.W.room_all (PySem.W.depthAll_map ns) (by show X.A.units + 1 + 0 < cLine; omega)
  refine PySem.W.max_list_default (I.ok.hd hc) hl.isList hr hal hd (fun e h' tk hk => ⟨d, H, I.kept hk, rw', q0 (List.map_eq_nil_iff.mp e)⟩) fun y ys i v h' tk bs e hi hrd hk => ?_
  cases ns with
  | nil => cases e
  | cons n r' =>
    rw [List.map_cons] at e
    injection e with e1 e2
    subst e1 e2
    rw [PySem.W.maxD_ints] at hrd
    cases hrd with
    | int _ t => exact ⟨.int _, H, I.kept hk, ⟨t, rfl⟩, q1 n r' rfl⟩
end
/-! ### a built-in called with keywords -/
abbrev DC2 := List D → List D → Mem → DK → Prop
def CallDK (K : PySem.W.Frag) (r : List V → List V → Hp → VK → Prop) (g : DC2) : Prop := ∀ xs zs M R H vs ws Q, g xs zs M R → RM K H M → RVs K H xs vs → RVs K H zs ws → KQ K H R Q → r vs ws H Q
def dCBK (g : DC2) (t tk : DA) : DE := fun δ M R => t δ M fun xs M1 => tk δ M1 fun zs M2 => g xs zs M2 R
section
variable {X : Cx}
theorem pd_callBK {r : List V → List V → Hp → VK → Prop} {g : DC2} {id : String} {x : Str} {ks : List Str} {p pos : Pos} {e : Expr} {es : List Expr} {kws : List Keyword} {t tk : DA} (hc : CallRK X (.builtin id) ks r) (hg : CallDK X.K r g) (hgl : Gl X x) (hm : X.mg x = none) (hv : bootBuiltins x = some (.builtin id)) (ha : PDA X (e :: es) t) (hk : PDK X kws tk) (hn : x ≠ "__name__" := by decide) (hdb : (x == ("__debug__" : Str)) = false := by decide)
    (he : backTo pos (starEach (e :: es) X.env) = (false, eval e X.env) :: backTo pos (starEach es X.env) := by rfl) (hpl : (backTo pos (starEach (e :: es) X.env)).any (·.1) = false := by rfl)
    (hall : (backToKw pos (keywordEach kws X.env)).all (·.1.isSome) = true := by rfl) (hnone : (backToKw pos (keywordEach kws X.env)).any (·.1.isNone) = false := by rfl) (hks : (backToKw pos (keywordEach kws X.env)).filterMap (·.1) = ks := by rfl) :
    PD X (.Call (.Name x p) (e :: es) kws pos) (dCBK g t tk) :=
  ⟨PE_imp (pe_callBK hc hgl hm hv ha.pa hk.pk hn hdb he hpl hall hnone hks) fun σ H Q q => by
    obtain ⟨δ, M, R, S, m, ht, k⟩ := q
    refine ⟨δ, M, _, S, m, ht, fun ds M1 vs H1 h1 e1 r1 m1 => ?_⟩
    refine ⟨δ, M1, _, S.ext e1, m1, h1, fun zs M2 ws H2 h2 e2 r2 m2 => ?_⟩
    exact hg ds zs M2 R H2 vs ws Q h2 m2 (r1.ext e2) r2 (k.ext (e1.trans e2))⟩
end
def gMaxDef : DC2 := fun xs zs M R => match xs, zs with
  | [.ref a], [d] => match M a with
    | some (.lst ys) => match intsD ys with
      | some [] => ∃ M0, Sub M0 M ∧ R d M0
      | some (n :: r) => ∃ M0, Sub M0 M ∧ R (.int (r.foldl max n)) M0
      | none => False
    | _ => False
  | _, _ => False
theorem cd_maxDef {K : PySem.W.Frag} : CallDK K (rMaxDef K) gMaxDef := by
  intro xs zs M R H vs ws Q g m r r' k
  unfold gMaxDef at g
  split at g
  · obtain ⟨v, us, rfl, q, t⟩ := r
    cases t; cases q
    obtain ⟨w, us, rfl, q, t⟩ := r'
    cases t
    split at g
    · rename_i ys he
      obtain ⟨us, a1, r2⟩ := rm_lst m he
      split at g
      · rename_i hn
        rw [intsD_eq hn] at r2
        cases r2
        obtain ⟨M0, hs, g⟩ := g
        exact ⟨_, [], w, rfl, rfl, .inl (.inl a1), fun _ => kq_keep k (rm_sub m hs) g q, fun n r e => (by cases e)⟩
      · rename_i n r hn
        obtain ⟨M0, hs, g⟩ := g
        rw [intsD_eq hn] at r2
        rw [r2.ints] at a1
        refine ⟨_, n :: r, w, rfl, rfl, .inl (.inl a1), fun e => (by cases e), fun n' r' e => ?_⟩
        cases e
        exact kq_keep k (rm_sub m hs) g rfl
      · exact g.elim
    · exact g.elim
  · exact g.elim
end DD
end
section
namespace DD
open PySem PySem.Spec PyProof.Rows L2 GxR GenW RT
/-! ### list(reversed(t)), t a tuple -/
theorem nolen_rt : typeLookup (.type "reversed") "__len__" = pure none := by rw [typeLookup_type, builtinLookup_eq_fast]; kernel_rfl
theorem slot_rt_hint : Slot "reversed" "__length_hint__" "reversed.__length_hint__" :=
  .of (owner := "reversed") (n := "__length_hint__") (by rw [typeLookup_type, builtinLookup_eq_fast]; kernel_rfl) (by decide +kernel) (by decide +kernel) (by decide +kernel)
    (by first | exact .inl (by decide +kernel) | exact .inr (by decide +kernel)) (by rw [isSubtype_type]; kernel_rfl)
theorem entry_rt_hint : entryFor table "reversed.__length_hint__" = some Builtin.«reversed.__length_hint__» := entryFor_of_tree (by kernel_rfl)
theorem args_rt_hint (a : Value) : argsOk "reversed.__length_hint__" ⟨[a], []⟩ := by
  unfold argsOk; rw [signature?_of (id := "reversed.__length_hint__") (n := ['_', '_', 't', 'n', 'i', 'h', '_', 'h', 't', 'g', 'n', 'e', 'l', '_', '_']) (o := ['d', 'e', 's', 'r', 'e', 'v', 'e', 'r']) (by kernel_rfl) owner_rt]; kernel_rfl
section
variable {prog : Program} {w : World} {A : Around} {E : Value → Shared → Prop} {s : Shared} {it t : Addr} {items : Array Value}
theorem body_rt_hint {P : Fin → Shared → Prop} (hit : IsRt s.heap it t ((items.size : Int) - 1)) (ht : IsTup s.heap t items) (hn : items.size ≤ sizeLine) (h : ∀ tk u, P (.done (.ret (.int items.size u))) { s with toks := tk }) :
    wpAny (model prog w) A (Builtin.«reversed.__length_hint__» ⟨[.ref it], []⟩) P E s := by
  obtain ⟨o, ho, hc, hd⟩ := id hit
  rw [sizeLine_eq] at hn
  unfold Builtin.«reversed.__length_hint__»
  refine wpAny_bind (wpAny_of_eq (a := Value.ref it) rfl ?_)
  try dsimp only
  refine wpAny_bind (wpAny_field ho hd (x := .ref t) rfl ?_)
  rw [if_neg (show ¬ ((Value.ref t == Value.none) = true) from by simp)]
  refine wpAny_bind (len_tuple ht (by omega) ?_)
  refine wpAny_bind (wpAny_of_eq (a := some ((items.size : Nat) : Int)) rfl ?_)
  try dsimp only
  refine wpAny_bind (wpAny_field (s := { s with toks := s.toks + 1 + 1 }) ho hd (x := rawInt ((items.size : Int) - 1)) rfl ?_)
  show wpAny _ _ (if ((items.size : Nat) : Int) < (items.size : Int) - 1 + 1 then _ else _) _ _ _
  rw [if_neg (by omega)]
  have e : (items.size : Int) - 1 + 1 = items.size := by omega
  rw [e]
  exact wpAny_bind (wpAny_mkInt (wpAny_pure (h _ _)))
theorem hint_rt {Q : Bool → Shared → Prop} (hit : IsRt s.heap it t ((items.size : Int) - 1)) (ht : IsTup s.heap t items) (hn : items.size ≤ sizeLine) (h : ∀ b tk, Q b { s with toks := tk }) :
    wpAny (model prog w) A (Builtin.List.listLengthHint (.ref it)) Q E s := by
  have hn' := hn
  rw [sizeLine_eq] at hn'
  unfold Builtin.List.listLengthHint
  refine wpAny_bind (wpAny_specialOf hit.typeIs nolen_rt ?_)
  show wpAny _ A (specialOf (Value.ref it) (Str.ofString "__length_hint__") >>= _) _ _ _
  refine wpAny_bind (wpAny_specialOf hit.typeIs slot_rt_hint.lookup ?_)
  generalize hid : ("reversed.__length_hint__" : String) = id0
  wp_delta
  rw [show splitId id0 = some ("reversed", "__length_hint__") from by subst hid; decide +kernel]
  subst hid
  refine wpAny_bind (wpAny_isInstance (b := true) hit.typeIs (by rw [isSubtype_type]; kernel_rfl) ?_)
  refine wpAny_ite_split (fun hab => absurd hab (by decide)) (fun _ => ?_)
  refine wpAny_ite_split (fun hab => absurd hab (by decide +kernel)) (fun _ => ?_)
  refine wpAny_bind (wpAny_rule ?_)
  refine wpAny_bind (wpAny_of_eq (slot_rt_hint.bind _) ?_)
  refine wpAny_bind (wpAny_attempt (wpAny_call_entry slot_rt_hint hit.typeIs entry_rt_hint (body_rt_hint hit ht hn fun tk u => ⟨_, rfl, ?_⟩) (args_rt_hint _)))
  have ha : asInt? (Value.int (items.size : Int) u) = pure (some ((items.size : Nat) : Int)) := rfl
  refine wpAny_bind ?_
  rw [ha]
  refine wpAny_pure ?_
  try dsimp only
  have f1 : (!Builtin.List.listFitsIndex ((items.size : Nat) : Int)) = false := by
    unfold Builtin.List.listFitsIndex
    simp
    omega
  have f2 : Builtin.List.listTooLong ((items.size : Nat) : Int).toNat = false := by
    unfold Builtin.List.listTooLong
    simp
    exact hn
  have f3 : ¬ ((items.size : Nat) : Int) < 0 := by omega
  simp only [f1, f2, f3, Bool.false_eq_true, if_false]
  refine wpAny_pure ?_
  exact h (((items.size : Nat) : Int) != 0) tk
theorem walks_rt (hh : A.handled = none) (hne : t ≠ it) (hn : items.size ≤ sizeLine) :
    Walks prog w A it [it, t] [it] items.size (fun i v => items[items.size - 1 - i]? = some v) (fun i h => i ≤ items.size ∧ IsRt h it t ((items.size : Int) - 1 - (i : Int)) ∧ IsTup h t items) where
  sub := fun b hb => by simp at hb; simp [hb]
  frame := fun _ _ _ x hk => ⟨x.1, x.2.1.at fun o e => hk it (by simp) o e, let ⟨o, ho, r⟩ := x.2.2; ⟨o, hk t (by simp) o ho, r⟩⟩
  item := fun i s Q E hi x hQ => by
    have e : (items.size : Int) - 1 - (i : Int) = ((items.size - 1 - i : Nat) : Int) := by omega
    have hit := x.2.1
    rw [e] at hit
    have hx : items[items.size - 1 - i]? = some (items[items.size - 1 - i]'(by omega)) := Array.getElem?_eq_getElem (by omega)
    refine next_rt_item hit x.2.2 hx hn fun h' hit' hs' => ?_
    have e2 : ((items.size - 1 - i : Nat) : Int) - 1 = (items.size : Int) - 1 - ((i + 1 : Nat) : Int) := by omega
    rw [e2] at hit'
    exact hQ _ h' _ hx ⟨hi, hit', x.2.2.extBut hs'.extBut hne⟩ fun b o hb eo => hs'.extBut b o (fun h => hb (by simp [h])) eo
  done := fun s Q E x hQ => by
    have e : (items.size : Int) - 1 - (items.size : Int) = -1 := by omega
    have hit := x.2.1
    rw [e] at hit
    exact next_rt_end hh hit fun h' he' => hQ h' s.toks fun b o hb eo => he' b o (fun h => hb (by simp [h])) eo
  self := fun _ _ _ _ x hQ => iter_rt x.2.1 hQ
theorem call_list_rt {Q : Value → Shared → Prop} (hh : A.handled = none) (hit : IsRt s.heap it t ((items.size : Int) - 1)) (ht : IsTup s.heap t items) (hne : t ≠ it) (hn : items.size ≤ sizeLine)
    (hQ : ∀ h' tk acc' c', (∀ b o, b ≠ it → s.heap.get? b = some o → h'.get? b = some o) → h'.get? s.heap.objs.size = some { cls := .type "list", dict := none, data := .seq acc' c', slots := #[] } → ItemsOf (fun i v => items[items.size - 1 - i]? = some v) acc' items.size → Q (.ref s.heap.objs.size) { s with heap := h', toks := tk }) :
    wpAny (model prog w) A (call (.type "list") [.ref it]) Q E s := by
  refine callType_codes (Q₁ := fun obj s₁ => obj = .ref s.heap.objs.size ∧ s₁ = { s with heap := s.heap.push { cls := .type "list", data := .seq #[] } }) PySem.F.called_list (PySem.F.typeCall_list_1 _) PySem.F.entry_list_init
    (code_list_new _ ⟨rfl, rfl⟩) fun obj s₁ h₁ => ?_
  obtain ⟨rfl, rfl⟩ := h₁
  have li : it < s.heap.objs.size := let ⟨_, ho, _⟩ := hit; Heap.lt_size ho
  have lt : t < s.heap.objs.size := let ⟨_, ho, _⟩ := ht; Heap.lt_size ho
  have hS : (s.heap.push { cls := .type "list", data := .seq #[] }).get? s.heap.objs.size = some { cls := .type "list", data := .seq #[] } := Heap.get?_push_size _ rfl
  refine ⟨⟨_, hS, rfl⟩, PySem.F.args_list_init_2 _ _, ?_⟩
  show wpAny _ _ (do let old ← Builtin.List.listItems (.ref s.heap.objs.size); Builtin.List.listUpdate (.ref s.heap.objs.size) (fun _ => #[]); letGo old.toList.reverse; Builtin.List.listExtendWith (.ref s.heap.objs.size) (.ref it) .none) _ _ _
  refine wpAny_bind ?_
  unfold Builtin.List.listItems
  refine wpAny_bind (wpAny_seqItems hS rfl (wpAny_pure ?_))
  show wpAny _ _ (updateSeq s.heap.objs.size (fun _ => #[]) >>= fun _ => letGo (#[] : Array Value).toList.reverse >>= fun _ => Builtin.List.listExtendWith (.ref s.heap.objs.size) (.ref it) .none) _ _ _
  refine wpAny_bind (wpAny_updateSeq hS rfl ?_)
  have hS2 := Heap.get?_update_self (Obj.mapSeq (fun _ => (#[] : Array Value))) hS rfl
  refine wpAny_bind (wpAny_letGo ?_)
  have kp : ∀ b o, s.heap.get? b = some o → ((s.heap.push { cls := .type "list", data := .seq #[] }).update s.heap.objs.size (Obj.mapSeq (fun _ => (#[] : Array Value)))).get? b = some o := fun b o e =>
    (Heap.get?_update_other _ _ (Nat.ne_of_gt (Heap.lt_size e))).trans (Heap.get?_push_of_some _ e)
  generalize (s.heap.push { cls := .type "list", data := .seq #[] }).update s.heap.objs.size (Obj.mapSeq (fun _ => (#[] : Array Value))) = h2 at hS2 kp ⊢
  have hit2 : IsRt h2 it t ((items.size : Int) - 1) := hit.at fun o e => kp _ _ e
  have ht2 : IsTup h2 t items := let ⟨o, ho, r⟩ := ht; ⟨o, kp _ _ ho, r⟩
  have hSf : s.heap.objs.size ∉ [it, t] := by simp only [List.mem_cons, List.not_mem_nil, or_false, not_or]; exact ⟨Nat.ne_of_gt li, Nat.ne_of_gt lt⟩
  have key : ∀ (h : Heap) (c₁ tk : Nat), (∀ b o, b ≠ s.heap.objs.size → h2.get? b = some o → h.get? b = some o) → h.get? s.heap.objs.size = some { cls := .type "list", data := .seq #[] c₁ } →
      codeAny (model prog w) A.in1 (.builtin "list.extend.loop" ⟨[.ref s.heap.objs.size, .ref it, .none], []⟩) (wants (fun r s₂ => r = Value.none ∧ Q (.ref s.heap.objs.size) s₂) E) { s with heap := h, toks := tk } := by
    intro h c₁ tk hk hS₁
    refine codeAny_extend_loopS (walks_rt (A := A.in1.in1) hh hne hn).toS hn _ hSf .none items.size 0 _ #[] c₁ rfl (Nat.zero_le _) ⟨Nat.zero_le _, by rw [show (items.size : Int) - 1 - ((0 : Nat) : Int) = (items.size : Int) - 1 from by omega]; exact hit2.at fun o e => hk _ _ (Nat.ne_of_lt li) e, let ⟨o, ho, r⟩ := ht2; ⟨o, hk _ _ (Nat.ne_of_lt lt) ho, r⟩⟩ hS₁ (ItemsOf.nil _) fun s' acc' c' hm hS' hacc => ?_
    rw [Moved.eq_with hm]
    refine ⟨rfl, hQ s'.heap s'.toks acc' c' (fun b o hb e => hm.heap b o (fun hmem => ?_) (hk b o (Nat.ne_of_lt (Heap.lt_size e)) (kp b o e))) hS' hacc⟩
    rcases List.mem_cons.mp hmem with e' | hmem
    · exact absurd (Heap.lt_size e) (by rw [e']; exact Nat.lt_irrefl _)
    · exact hb (List.mem_singleton.mp hmem)
  unfold Builtin.List.listExtendWith
  refine wpAny_bind (wpAny_typeOf (T := "reversed") (IsRt.typeIs (s := { s with heap := h2 }) hit2) ?_)
  have h1 : Builtin.List.listSameRef (.ref s.heap.objs.size) (.ref it) = false := by simp [Builtin.List.listSameRef, Nat.ne_of_gt li]
  rw [if_neg (by rw [h1]; decide)]
  refine wpAny_bind (iter_rt (s := { s with heap := h2 }) hit2 ?_)
  refine wpAny_bind (wpAny_holding (hint_rt (s := { s with heap := h2 }) hit2 ht2 hn fun b tk => ?_))
  refine wpAny_ite_split (fun _ => ?_) (fun _ => wpAny_pure ⟨plainId_quiet F.plain_extend_loop _, key _ _ _ (fun b o _ e => e) hS2⟩)
  refine wpAny_bind (wpAny_rule ?_)
  refine wpAny_bind ?_
  show wpAny _ _ (updateSeq s.heap.objs.size (·.push .none) >>= fun _ => updateSeq s.heap.objs.size (·.pop)) _ _ _
  refine wpAny_bind (wpAny_updateSeq hS2 rfl ?_)
  have hS3 := Heap.get?_update_self (Obj.mapSeq (·.push Value.none)) hS2 rfl
  refine wpAny_updateSeq (hz := by seq_fits) hS3 rfl ?_
  have hS4 := Heap.get?_update_self (Obj.mapSeq (·.pop)) hS3 rfl
  refine wpAny_pure ⟨plainId_quiet F.plain_extend_loop _, key _ _ _ (fun b o hb e => ?_) hS4⟩
  exact (Heap.get?_update_other _ _ (Ne.symm hb)).trans ((Heap.get?_update_other _ _ (Ne.symm hb)).trans e)
end
end DD
end
section
namespace DD
open PySem PySem.Spec PyProof.Rows L2 GxR GenW RT
/-! ### list(reversed(t)), t a tuple; x[::-1] -/
theorem adjust_rev (n : Nat) : Builtin.Slice.sliceAdjust none none (-1) (n : Int) = ((n : Int) - 1, -1) := by
  unfold Builtin.Slice.sliceAdjust
  simp
theorem places_rev (n : Nat) : Builtin.Slice.slicePlaces ((n : Int) - 1) (-1) (-1) = n := by
  unfold Builtin.Slice.slicePlaces
  have h1 : ¬ ((-1 : Int) > 0) := by omega
  simp only [h1, if_false]
  have h2 : ((n : Int) - 1 - -1 - 1) / (- -1) = (n : Int) - 1 := by
    rw [show (- -1 : Int) = 1 by decide, Int.ediv_one]
    omega
  rw [h2]
  split <;> omega
theorem pick_rev (xs : Array Value) : ((List.range xs.size).filterMap fun (m : Nat) => xs[((xs.size : Int) - 1 + (m : Int) * (-1)).toNat]?).toArray = xs.toList.reverse.toArray := by
  rw [← PySem.W.krv_all xs, ← List.filterMap_reverse, ← PySem.W.krv_range, List.filterMap_map]
  have e : (List.range xs.size).filterMap (fun (m : Nat) => xs[((xs.size : Int) - 1 + (m : Int) * (-1)).toNat]?) = (List.range xs.size).filterMap ((fun x => xs[x]?) ∘ fun k => xs.size - 1 - k) := by
    have gen : ∀ (l : List Nat), (∀ m ∈ l, m < xs.size) → l.filterMap (fun (m : Nat) => xs[((xs.size : Int) - 1 + (m : Int) * (-1)).toNat]?) = l.filterMap ((fun x => xs[x]?) ∘ fun k => xs.size - 1 - k) := by
      intro l
      induction l with
      | nil => intro _; rfl
      | cons m l ih =>
        intro hl
        have hm := hl m List.mem_cons_self
        have : ((xs.size : Int) - 1 + (m : Int) * (-1)).toNat = xs.size - 1 - m := by omega
        rw [List.filterMap_cons, List.filterMap_cons, ih fun k hk => hl k (List.mem_cons_of_mem _ hk)]
        simp only [Function.comp, this]
    exact gen _ fun m hm => List.mem_range.mp hm
  rw [e]
section
variable {prog : Program} {w : World} {A : Around} {E : Value → Shared → Prop} {s : Shared}
theorem applied_rev {sl : Addr} {vl vu vs : Value} {n : Nat} {Q : Int × Int × Nat → Shared → Prop} (hs : s.heap.IsSliceOf sl vl vu vs) (pl : IsPart vl none) (pu : IsPart vu none) (ps : IsPart vs (some (-1)))
    (h : Q ((n : Int) - 1, -1, n) s) : wpAny (model prog w) A (Builtin.Slice.sliceApplied (.ref sl) (pure (n : Int))) Q E s := by
  obtain ⟨os, hos, hcs, hds⟩ := id hs
  unfold Builtin.Slice.sliceApplied Builtin.Slice.sliceFields
  refine wpAny_bind (wpAny_bind (wpAny_field hos hds (x := vl) rfl (wpAny_bind (wpAny_field hos hds (x := vu) rfl (wpAny_bind (wpAny_field hos hds (x := vs) rfl (wpAny_pure ?_)))))))
  refine wpAny_bind (HT.slicePart_ ps ?_)
  show wpAny _ _ (if ((-1 : Int) == 0) = true then _ else _) _ _ s
  rw [if_neg (by decide)]
  refine wpAny_bind (HT.slicePart_ pl (wpAny_bind (HT.slicePart_ pu (wpAny_bind (wpAny_pure ?_)))))
  show wpAny _ _ (match Builtin.Slice.sliceAdjust none none (-1) (n : Int) with | (lo, hi) => pure (lo, (-1 : Int), Builtin.Slice.slicePlaces lo hi (-1))) _ _ s
  rw [adjust_rev n]
  show wpAny _ _ (pure ((n : Int) - 1, (-1 : Int), Builtin.Slice.slicePlaces ((n : Int) - 1) (-1) (-1))) _ _ s
  rw [places_rev]
  exact wpAny_pure h
theorem getItem_tup_rev {t sl : Addr} {items : Array Value} {vl vu vs : Value} {Q : Value → Shared → Prop} (ht : IsTup s.heap t items) (hs : s.heap.IsSliceOf sl vl vu vs) (pl : IsPart vl none) (pu : IsPart vu none) (ps : IsPart vs (some (-1)))
    (h : Q (.ref s.heap.objs.size) { s with heap := s.heap.push { cls := .type "tuple", data := .seq items.toList.reverse.toArray } }) (hsz : items.size ≤ sizeLine) : wpAny (model prog w) A (getItem (.ref t) (.ref sl)) Q E s := by
  have htake : sizeOk (.seq items.toList.reverse.toArray) := by
    show items.toList.reverse.toArray.size ≤ sizeLine
    rw [List.size_toArray, List.length_reverse, Array.length_toList]
    exact hsz
  obtain ⟨os, hos, hcs, hds⟩ := id hs
  have hTs : s.TypeIs (.ref sl) "slice" := ⟨os, hos, hcs⟩
  unfold getItem
  try with_reducible refine wpAny_holding ?_
  first | refine wpAny_bind (wpAny_pure ?_) | skip
  refine wpAny_bind (wpAny_sequenceKey ht.typeIs (by decide) ?_)
  refine wpAny_bind (wpAny_callSpecial?_slot (name := Str.ofString "__getitem__") ht.typeIs PyProof.Rows.slot_tuple_getitem
    (wpAny_call_entry PyProof.Rows.slot_tuple_getitem ht.typeIs entry_tuple_getitem ?_ (args_tuple_getitem _ _)))
  show wpAny _ _ (Builtin.Tuple.tupleItemsOf (.ref t) >>= _) _ _ s
  refine wpAny_bind (tupleItemsOf_ ht ?_)
  refine wpAny_bind (wpAny_typeOf hTs ?_)
  rw [if_pos (by decide)]
  refine wpAny_bind (applied_rev hs pl pu ps ?_)
  have hno : ¬ ((((items.size : Int) - 1) == 0 && (-1 : Int) == 1 && items.size == items.size) = true) := by
    intro q
    rw [Bool.and_eq_true, Bool.and_eq_true] at q
    have q1 : (-1 : Int) = 1 := eq_of_beq q.1.2
    omega
  show wpAny _ _ (if (((items.size : Int) - 1) == 0 && (-1 : Int) == 1 && items.size == items.size) = true then _ else _) _ _ s
  rw [if_neg hno, pick_rev]
  first
    | exact wpAny_bind (m := Builtin.Tuple.tupleExact _) (wpAny_newObj_type (wpAny_pure ⟨_, rfl, wpAny_pure h⟩) htake)
    | exact wpAny_bind (m := Builtin.Tuple.tupleExact _) (wpAny_newObj_type (wpAny_bind (wpAny_pure (wpAny_pure ⟨_, rfl, wpAny_pure h⟩))) htake)
    | exact wpAny_bind (wpAny_bind (m := Builtin.Tuple.tupleExact _) (wpAny_newObj_type (wpAny_pure (wpAny_pure ⟨_, rfl, wpAny_pure h⟩)) htake))
    | exact wpAny_bind (wpAny_bind (m := Builtin.Tuple.tupleExact _) (wpAny_newObj_type (wpAny_pure ⟨_, rfl, wpAny_pure h⟩) htake))
end
def tListRev (K : PySem.W.Frag) (te : TE) : TE := fun σ H Q => te σ H fun v H1 => ∃ (a : Addr) (xs : List V), v = .ref a ∧ SqT K H1 a xs ∧ ∀ q, H1 q = none → Q (.ref q) (upd H1 q (.lst xs.reverse))
section
variable {X : Cx}
theorem pe_listRev {e : Expr} {te : TE} {p p2 pos pos2 : Pos} (hc : X.calm = true) (hg : Gl X "list") (hm : X.mg "list" = none) (hg2 : Gl X "reversed") (hm2 : X.mg "reversed" = none) (he : PE X e te)
    (hs : starEach [e] X.env = (false, eval e X.env) :: starEach [] X.env := by rfl)
    (hs2 : starEach [.Call (.Name "reversed" p2) [e] [] pos2] X.env = (false, eval (.Call (.Name "reversed" p2) [e] [] pos2) X.env) :: starEach [] X.env := by rfl) :
    PE X (.Call (.Name "list" p) [.Call (.Name "reversed" p2) [e] [] pos2] [] pos) (tListRev X.K te) := by
  refine ⟨fun pins s σ H Q I h => ?_⟩
  refine Call_ (ld_blt I hg hm (by rfl) (PyProof.Rows.callWith_type1 (args_cons (Call_ (ld_blt I hg2 hm2 PyProof.Rows.boot_reversed (PyProof.Rows.callWith_type1 (args_cons (thn (he.run pins s σ H _ I h) fun u s1 ⟨v, H1, I1, r1, q1⟩ => args_nil ?_) hs) hs rfl))) hs2) hs2 rfl))
  obtain ⟨a, xs, ev, hq, q⟩ := q1
  subst ev
  obtain rfl : u = Value.ref a := r1
  obtain ⟨its, rv, p', hz⟩ := I1.tuple hq
  have hl := rv.length
  have hn : its.toArray.size ≤ sizeLine := by rw [List.size_toArray, ← hl]; exact hz
  have h63 : ((its.toArray.size : Nat) : Int) < 2 ^ 63 := by
    rw [sizeLine_eq] at hn
    omega
  refine call_reversed_tup p' (fun A E Q k => len_tuple p' h63 k) (args_nil ?_)
  have k0 : ∀ b o, s1.heap.get? b = some o → (s1.heap.push (rtObj a ((its.toArray.size : Int) - 1))).get? b = some o := fun b o e => Heap.get?_push_of_some _ e
  have I2 : Inv X pins σ H1 { s1 with heap := s1.heap.push (rtObj a ((its.toArray.size : Int) - 1)), toks := s1.toks + 1 + 1 } := I1.kept (t' := s1.toks + 1 + 1) k0
  obtain ⟨f0, f1, f2, f3, f4, f5⟩ := I1.fpOk (H' := H1) (b := s1.heap.objs.size) (Nat.le_refl _) (I1.hok.fresh (Nat.le_refl _))
  have hne : a ≠ s1.heap.objs.size := Nat.ne_of_lt (let ⟨o, ho, _⟩ := p'; Heap.lt_size ho)
  refine call_list_rt (s := { s1 with heap := s1.heap.push (rtObj a ((its.toArray.size : Int) - 1)), toks := s1.toks + 1 + 1 }) (items := its.toArray) (I1.ok.hd hc) ⟨_, Heap.get?_push_size _ rfl, rfl, rfl⟩ (let ⟨o, ho, r⟩ := p'; ⟨o, k0 _ _ ho, r⟩) hne hn fun h' tk acc c hk hS hi => ?_
  have hsz : (s1.heap.push (rtObj a ((its.toArray.size : Int) - 1))).objs.size = s1.heap.objs.size + 1 := size_push' ..
  have I3 : Inv X pins σ H1 { s1 with heap := s1.heap.push (rtObj a ((its.toArray.size : Int) - 1)), toks := s1.toks + 1 + 1 } := I2
  have hfr : H1 (s1.heap.push (rtObj a ((its.toArray.size : Int) - 1))).objs.size = none := I3.hok.fresh (Nat.le_refl _)
  have I4 : Inv X pins σ H1 { s1 with heap := h', toks := tk } := I2.turned (t' := tk) (fun b o hb e => hk b o hb e) f0 f1 f3 f4 f5
  have new : ObjOk X.prog X.w (upd H1 (s1.heap.push (rtObj a ((its.toArray.size : Int) - 1))).objs.size (.lst xs.reverse)) h' (s1.heap.push (rtObj a ((its.toArray.size : Int) - 1))).objs.size (.lst xs.reverse) :=
    ⟨by rw [List.length_reverse]; exact hz, acc.toList, c, vals_rev rv hi, by rw [Array.toArray_toList]; exact hS⟩
  refine ⟨.ref _, upd H1 (s1.heap.push (rtObj a ((its.toArray.size : Int) - 1))).objs.size (.lst xs.reverse), ?_, rfl, q _ hfr⟩
  exact I2.turnedNew (t' := tk) (ch := [s1.heap.objs.size]) (h' := h') (fun b o hb e => hk b o (by simpa using hb) e) (fun b hb => by rw [List.mem_singleton.mp hb]; exact ⟨f0, f1, f2, f3, f4, f5⟩) (Nat.le_refl _) new
end
def dListRev (te : DE) : DE := fun δ M R => te δ M fun d M1 => match d with
  | .tup ys => ∀ p, M1 p = none → R (.ref p) (updM M1 p (.lst ys.reverse))
  | _ => False
/-- x[::-1], x a list or a tuple -/
def tRevA (K : PySem.W.Frag) (te : TE) : TE := fun σ H Q => te σ H fun x H1 => ∃ a xs, x = .ref a ∧ ((SqL K H1 a xs ∧ ∀ p, H1 p = none → Q (.ref p) (upd H1 p (.lst xs.reverse))) ∨ (SqT K H1 a xs ∧ ∀ p, H1 p = none → Q (.ref p) (upd H1 p (.tup xs.reverse))))
section
variable {X : Cx}
theorem pd_listRev {e : Expr} {te : DE} {p p2 pos pos2 : Pos} (hc : X.calm = true) (hg : Gl X "list") (hm : X.mg "list" = none) (hg2 : Gl X "reversed") (hm2 : X.mg "reversed" = none) (he : PD X e te)
    (hs : starEach [e] X.env = (false, eval e X.env) :: starEach [] X.env := by rfl)
    (hs2 : starEach [.Call (.Name "reversed" p2) [e] [] pos2] X.env = (false, eval (.Call (.Name "reversed" p2) [e] [] pos2) X.env) :: starEach [] X.env := by rfl) :
    PD X (.Call (.Name "list" p) [.Call (.Name "reversed" p2) [e] [] pos2] [] pos) (dListRev te) := ⟨PE_imp (pe_listRev hc hg hm hg2 hm2 he.pe hs hs2) fun σ H Q q => by
  obtain ⟨δ, M, R, S, m, ht, k⟩ := q
  refine ⟨δ, M, _, S, m, ht, fun d M1 v H1 h1 e1 r1 m1 => ?_⟩
  split at h1
  · rename_i ys
    obtain ⟨a, vs, rfl, s, r⟩ := r1
    exact ⟨a, vs, rfl, s, fun p hp => kq_new (k.ext e1) m1 hp r.reverse (h1 p (rm_none m1 hp))⟩
  · exact h1.elim⟩
theorem pe_revA {e : Expr} {te : TE} {k : Nat} {p1 p2 p3 pos : Pos} (he : PE X e te) : PE X (.Subscript e (.Slice none none (some (.UnaryOp .USub (.Constant (.int 1) k p1) p2)) p3) pos) (tRevA X.K te) := by
  refine ⟨fun pins s σ H Q I h => ?_⟩
  refine Subscript_ (thn (he.run pins s σ H _ I h) fun v s1 ⟨x, H1, I1, r1, q1⟩ => ?_)
  obtain ⟨a, xs, ex, hx⟩ := q1
  subst ex
  cases r1
  have hst : PO X (some (.UnaryOp .USub (.Constant (.int 1) k p1) p2)) (tPart (tUn (rU fun i => .int (-i)) (tC (.int 1)))) := po_some (pe_un un_neg pe_int)
  refine wpAny_Slice (thn (po_none.run pins s1 σ H1 (fun o H2 => o = none ∧ H2 = H1) I1 ⟨rfl, rfl⟩) fun vl s2 ⟨l, H2, I2, pl, el, e2⟩ => ?_)
  subst el e2
  refine thn (po_none.run pins s2 σ H2 (fun o H3 => o = none ∧ H3 = H2) I2 ⟨rfl, rfl⟩) fun vu s3 ⟨u, H3, I3, pu, eu, e3⟩ => ?_
  subst eu e3
  refine thn (hst.run pins s3 σ H3 (fun o H4 => o = some (-1) ∧ H4 = H3) I3 ⟨1, rfl, -1, rfl, rfl, rfl⟩) fun vs s4 ⟨o, H4, I4, ps, eo, e4⟩ => ?_
  subst eo e4
  have I5 : Inv X pins σ H4 { s4 with heap := s4.heap.push { cls := .type "slice", data := .fields #[vl, vu, vs] } } := I4.kept (t' := s4.toks) fun b ob q => Heap.get?_push_of_some _ q
  show wpAny (model X.prog X.w) X.A (subscriptTail e (.Slice none none (some (.UnaryOp .USub (.Constant (.int 1) k p1) p2)) p3) (.ref a) (.ref s4.heap.objs.size)) (EP X pins σ Q) X.xe { s4 with heap := s4.heap.push { cls := .type "slice", data := .fields #[vl, vu, vs] } }
  rcases hx with ⟨hx, q⟩ | ⟨hx, q⟩
  · obtain ⟨its, r, ht, hz⟩ := I5.list hx
    have hlen := r.length
    refine tail_any (ops := [.ref a, .ref s4.heap.objs.size]) ht.isList.typeIs (PySem.slot_list_getitem.lookup) ?_ (by with_unfolding_all rfl)
    refine wpAny_getItem_list_slice ht.isList (Heap.IsSliceOf.new _ vl vu vs) pl pu ps (by decide) ?_ (by rw [List.size_toArray]; omega)
    rw [PySem.W.krv_pick]
    refine ⟨.ref _, _, I5.laid (t' := s4.toks) (o := .lst xs.reverse) (fun b ob q => Heap.get?_push_of_some _ q) (Nat.le_refl _) ?_, rfl, q _ (I5.hok.fresh (Nat.le_refl _))⟩
    exact ⟨by rw [List.length_reverse]; exact hz, _, 0, r.reverse, Heap.get?_push_size _ rfl⟩
  · obtain ⟨its, r, ht, hz⟩ := I5.tuple hx
    have hlen := r.length
    refine tail_any (ops := [.ref a, .ref s4.heap.objs.size]) (IsTup.typeIs ht) PyProof.Rows.slot_tuple_getitem.lookup ?_ (by with_unfolding_all rfl)
    refine getItem_tup_rev ht (Heap.IsSliceOf.new _ vl vu vs) pl pu ps ?_ (by rw [List.size_toArray]; omega)
    refine ⟨.ref _, _, I5.laid (t' := s4.toks) (o := .tup xs.reverse) (fun b ob q => Heap.get?_push_of_some _ q) (Nat.le_refl _) ?_, rfl, q _ (I5.hok.fresh (Nat.le_refl _))⟩
    exact ⟨by rw [List.length_reverse]; exact hz, its.reverse, r.reverse, ⟨_, Heap.get?_push_size _ rfl, rfl, 0, by simp⟩⟩
end
def dRevA (te : DE) : DE := fun δ M R => te δ M fun d M1 => match d with
  | .tup ys => R (.tup ys.reverse) M1
  | .ref a => match M1 a with
    | some (.lst ys) => ∀ p, M1 p = none → R (.ref p) (updM M1 p (.lst ys.reverse))
    | _ => False
  | _ => False
section
variable {X : Cx}
theorem pd_revA {e : Expr} {te : DE} {k : Nat} {p1 p2 p3 pos : Pos} (he : PD X e te) : PD X (.Subscript e (.Slice none none (some (.UnaryOp .USub (.Constant (.int 1) k p1) p2)) p3) pos) (dRevA te) := ⟨PE_imp (pe_revA he.pe) fun σ H Q q => by
  obtain ⟨δ, M, R, S, m, ht, k⟩ := q
  refine ⟨δ, M, _, S, m, ht, fun d M1 v H1 h1 e1 r1 m1 => ?_⟩
  split at h1
  · rename_i ys
    obtain ⟨a, vs, rfl, s, r⟩ := r1
    exact ⟨a, vs, rfl, .inr ⟨s, fun p hp => kq_newT (k.ext e1) m1 hp r.reverse h1⟩⟩
  · rename_i a
    cases r1
    split at h1
    · rename_i ys hy
      obtain ⟨vs, a1, q1⟩ := rm_lst m1 hy
      exact ⟨a, vs, rfl, .inl ⟨.inl (.inl a1), fun p hp => kq_new (k.ext e1) m1 hp q1.reverse (h1 p (rm_none m1 hp))⟩⟩
    · exact h1.elim
  · exact h1.elim⟩
end
end DD
end
section
namespace DD
open PySem PySem.Spec PyProof.Rows L2 GxR GenW
/-! ### zip of a list or a tuple and a list or a tuple -/
/-- the iterator of a list (false) or of a tuple (true) -/
def IterK : Bool → Heap → Addr → Addr → Nat → Prop
  | true, h, it, l, k => h.IsTupleIter it l k
  | false, h, it, l, k => h.IsListIter it l k
def SeqK : Bool → Heap → Addr → Array Value → Prop
  | true, h, l, xs => h.IsTuple l xs
  | false, h, l, xs => h.IsList l xs
theorem IterK.eb {b : Bool} {h h' : Heap} {it l c : Addr} {k : Nat} (x : IterK b h it l k) (s : Heap.ExtBut c h h') (n : it ≠ c) : IterK b h' it l k := by
  cases b with
  | true => exact Heap.IsTupleIter.at x fun o e => s it o n e
  | false => exact Heap.IsListIter.at x fun o e => s it o n e
theorem SeqK.eb {b : Bool} {h h' : Heap} {l c : Addr} {xs : Array Value} (x : SeqK b h l xs) (s : Heap.ExtBut c h h') (n : l ≠ c) : SeqK b h' l xs := by
  cases b with
  | true => exact Heap.IsTuple.extBut x s n
  | false => exact Heap.IsList.extBut x s n
theorem IterK.atK {b : Bool} {h h' : Heap} {it l : Addr} {k : Nat} (x : IterK b h it l k) (e : ∀ o, h.get? it = some o → h'.get? it = some o) : IterK b h' it l k := by
  cases b with
  | true => exact Heap.IsTupleIter.at x e
  | false => exact Heap.IsListIter.at x e
theorem IterK.obj {b : Bool} {h : Heap} {it l : Addr} {k : Nat} (x : IterK b h it l k) : ∃ o vs, h.get? it = some o ∧ o.data = .fields vs := by
  cases b with
  | true => obtain ⟨o, e, _, d⟩ := x; exact ⟨o, _, e, d⟩
  | false => obtain ⟨o, e, _, d⟩ := x; exact ⟨o, _, e, d⟩
theorem IterK.lt {b : Bool} {h : Heap} {it l : Addr} {k : Nat} (x : IterK b h it l k) : it < h.objs.size := by
  obtain ⟨_, _, e, _⟩ := x.obj
  exact Heap.lt_size e
section
variable {prog : Program} {w : World} {A : Around} {E : Value → Shared → Prop} {s : Shared}
theorem nextK {b : Bool} {it l : Addr} {i : Nat} {items : Array Value} {x : Value} {Q : Value → Shared → Prop} (hit : IterK b s.heap it l i) (hl : SeqK b s.heap l items) (hx : items[i]? = some x)
    (hQ : ∀ h', IterK b h' it l (i + 1) → Heap.SameBut it s.heap h' → Q x { s with heap := h' }) : wpAny (model prog w) A (Builtin.SmallTypes.nextOf (.ref it)) Q E s := by
  cases b with
  | true => exact RZ.nextOf_tuple_item hit hl hx hQ
  | false => exact wpAny_nextOf_list_item hit hl hx hQ
theorem endK {b : Bool} {it l : Addr} {i : Nat} {items : Array Value} {Q : Value → Shared → Prop} (hh : A.handled = none) (hit : IterK b s.heap it l i) (hl : SeqK b s.heap l items) (hx : items[i]? = none)
    (hE : ∀ h' e, Heap.ExtBut it s.heap h' → (∃ o, h'.get? e = some o ∧ o.cls = .type "StopIteration") → E (.ref e) { s with heap := h' }) : wpAny (model prog w) A (Builtin.SmallTypes.nextOf (.ref it)) Q E s := by
  cases b with
  | true => exact RZ.nextOf_tuple_end hh hit hl hx hE
  | false => exact wpAny_nextOf_list_end hh hit hl hx hE
theorem iterK {b : Bool} {l : Addr} {xs : Array Value} {Q : Value → Shared → Prop} (hl : SeqK b s.heap l xs) (hQ : ∀ o, IterK b (s.heap.push o) s.heap.objs.size l 0 → Q (.ref s.heap.objs.size) { s with heap := s.heap.push o }) : wpAny (model prog w) A (pyIter (.ref l)) Q E s := by
  cases b with
  | true => exact wpAny_pyIter_tuple hl (hQ _ ⟨_, Heap.get?_push_size _ rfl, rfl, rfl⟩)
  | false => exact wpAny_pyIter_list hl (hQ _ ⟨_, Heap.get?_push_size _ rfl, rfl, rfl⟩)
variable {z TI TO i1 i2 l1 l2 : Addr} {k1 k2 : Nat} {xs ys : Array Value} {b1 b2 : Bool}
theorem zipK_item {x y a b : Value} {Q : Value → Shared → Prop} (D : ZipApart z TI TO i1 i2 l1 l2) (hz : IsZip s.heap z TI TO .none) (hTI : IsPair s.heap TI (.ref i1) (.ref i2)) (hTO : IsPair s.heap TO a b)
    (h1 : IterK b1 s.heap i1 l1 k1) (h2 : IterK b2 s.heap i2 l2 k2) (hl1 : SeqK b1 s.heap l1 xs) (hl2 : SeqK b2 s.heap l2 ys) (hx : xs[k1]? = some x) (hy : ys[k2]? = some y)
    (hQ : ∀ h', IsZip h' z TI TO (rawInt s.heap.objs.size) → IsPair h' TO x y → IterK b1 h' i1 l1 (k1 + 1) → IterK b2 h' i2 l2 (k2 + 1) → IsPair h' s.heap.objs.size x y →
      (∀ c o, c ≠ z → c ≠ TO → c ≠ i1 → c ≠ i2 → s.heap.get? c = some o → h'.get? c = some o) → Q (.ref s.heap.objs.size) { s with heap := h' }) :
    wpAny (model prog w) A (Builtin.«zip.__next__» ⟨[.ref z], []⟩) (fun fin s' => ∃ v, fin = .done (.ret v) ∧ Q v s') E s := by
  show wpAny _ _ (field (.ref z) 2 >>= _) _ _ _
  refine wpAny_bind (wpAny_field hz rfl (x := .bool false) rfl ?_)
  show wpAny _ _ (field (.ref z) 3 >>= _) _ _ _
  refine wpAny_bind (wpAny_field hz rfl (x := .ref TI) rfl (wpAny_bind (wpAny_seqItems hTI rfl ?_)))
  show wpAny _ _ (Builtin.SmallTypes.ownedTupleIsFree (.ref z) >>= _) _ _ _
  refine wpAny_bind ?_
  unfold Builtin.SmallTypes.ownedTupleIsFree
  refine wpAny_bind (wpAny_field hz rfl (x := .none) rfl (wpAny_pure ?_))
  simp only [if_true]
  refine wpAny_bind (wpAny_rule (wpAny_bind (wpAny_field hz rfl (x := .ref TO) rfl (wpAny_bind (wpAny_setField_rec hz (by simp) fun g1 z1 s1 => ?_)))))
  replace z1 : IsZip g1 z TI TO .ellipsis := z1
  refine wpAny_bind ?_
  simp only [List.zipIdx_cons, List.zipIdx_nil, List.forIn_cons, List.forIn_nil]
  refine wpAny_bind (wpAny_bind (wpAny_onRaise ?_))
  show wpAny _ _ (Builtin.SmallTypes.nextOf (.ref i1) >>= _) _ _ _
  refine wpAny_bind (nextK (h1.eb s1.extBut D.i1z) (hl1.eb s1.extBut D.l1z) hx fun g2 j1 s2 => wpAny_pure ?_)
  have t2 : IsPair g2 TO a b := s2.extBut _ _ D.TOi1 (s1.extBut _ _ D.TOz hTO)
  refine wpAny_bind (wpAny_seqItems t2 rfl (wpAny_bind (wpAny_updateSeq_pair t2 fun g3 t3 s3 => ?_)))
  replace t3 : IsPair g3 TO x b := t3
  refine wpAny_bind (wpAny_letGo (wpAny_pure (wpAny_bind (wpAny_bind (wpAny_onRaise ?_)))))
  show wpAny _ _ (Builtin.SmallTypes.nextOf (.ref i2) >>= _) _ _ _
  refine wpAny_bind (nextK (((h2.eb s1.extBut D.i2z).eb s2.extBut D.i12.symm).eb s3.extBut D.TOi2.symm) (((hl2.eb s1.extBut D.l2z).eb s2.extBut D.l2i1).eb s3.extBut D.l2TO) hy fun g4 j2 s4 => wpAny_pure ?_)
  have t4 : IsPair g4 TO x b := s4.extBut _ _ D.TOi2 t3
  refine wpAny_bind (wpAny_seqItems t4 rfl (wpAny_bind (wpAny_updateSeq_pair t4 fun g5 t5 s5 => ?_)))
  replace t5 : IsPair g5 TO x y := t5
  refine wpAny_bind (wpAny_letGo (wpAny_pure (wpAny_pure (wpAny_bind (wpAny_seqItems t5 rfl (wpAny_bind (wpAny_newTuple ?_)))))))
  have hsz : g5.objs.size = s.heap.objs.size := by rw [s5.1, s4.1, s3.1, s2.1, s1.1]
  have z5 : IsZip g5 z TI TO .ellipsis := s5.extBut _ _ D.TOz.symm (s4.extBut _ _ D.i2z.symm (s3.extBut _ _ D.TOz.symm (s2.extBut _ _ D.i1z.symm z1)))
  have k5 : ∀ c o, c ≠ z → c ≠ TO → c ≠ i1 → c ≠ i2 → s.heap.get? c = some o → g5.get? c = some o := fun c o c1 c2 c3 c4 e => s5.extBut _ _ c2 (s4.extBut _ _ c4 (s3.extBut _ _ c2 (s2.extBut _ _ c3 (s1.extBut _ _ c1 e))))
  have j1' : IterK b1 g5 i1 l1 (k1 + 1) := ((j1.eb s3.extBut D.TOi1.symm).eb s4.extBut D.i12).eb s5.extBut D.TOi1.symm
  have j2' : IterK b2 g5 i2 l2 (k2 + 1) := j2.eb s5.extBut D.TOi2.symm
  have zl : z < g5.objs.size := Heap.lt_size z5
  show wpAny _ _ (Builtin.SmallTypes.ownedTupleHandOut (.ref z) (.ref g5.objs.size) >>= _) _ _ _
  refine wpAny_bind ?_
  unfold Builtin.SmallTypes.ownedTupleHandOut
  have z6 : IsZip (g5.push { cls := .type "tuple", data := .seq #[x, y] }) z TI TO .ellipsis := Heap.get?_push_of_some _ z5
  refine wpAny_bind (wpAny_setField_rec z6 (by simp) fun g7 z7 s7 => ?_)
  replace z7 : IsZip g7 z TI TO (rawInt g5.objs.size) := z7
  refine wpAny_setField_rec z7 (by simp) fun g8 z8 s8 => ?_
  replace z8 : IsZip g8 z TI TO (rawInt g5.objs.size) := z8
  have up : ∀ c o, c ≠ z → g5.get? c = some o → g8.get? c = some o := fun c o c1 e => s8.extBut _ _ c1 (s7.extBut _ _ c1 (Heap.get?_push_of_some _ e))
  have t8 : IsPair g8 g5.objs.size x y := s8.extBut _ _ (Nat.ne_of_gt zl) (s7.extBut _ _ (Nat.ne_of_gt zl) (Heap.get?_push_size _ rfl))
  rw [hsz] at z8 t8
  refine wpAny_pure ⟨_, rfl, ?_⟩
  show Q (.ref g5.objs.size) _
  rw [hsz]
  exact hQ g8 z8 (up _ _ D.TOz t5) (j1'.atK fun o e => up _ o D.i1z e) (j2'.atK fun o e => up _ o D.i2z e) t8 fun c o c1 c2 c3 c4 e => up c o c1 (k5 c o c1 c2 c3 c4 e)
theorem zipK_end {a b : Value} {Q : Fin → Shared → Prop} (hh : A.handled = none) (D : ZipApart z TI TO i1 i2 l1 l2) (hz : IsZip s.heap z TI TO .none) (hTI : IsPair s.heap TI (.ref i1) (.ref i2)) (hTO : IsPair s.heap TO a b)
    (h1 : IterK b1 s.heap i1 l1 k1) (h2 : IterK b2 s.heap i2 l2 k2) (hl1 : SeqK b1 s.heap l1 xs) (hl2 : SeqK b2 s.heap l2 ys) (hend : xs[k1]? = none ∨ ys[k2]? = none)
    (hE : ∀ h' e, (∀ c o, c ≠ z → c ≠ TO → c ≠ i1 → c ≠ i2 → s.heap.get? c = some o → h'.get? c = some o) → (∃ o, h'.get? e = some o ∧ o.cls = .type "StopIteration") → E (.ref e) { s with heap := h' }) :
    wpAny (model prog w) A (Builtin.«zip.__next__» ⟨[.ref z], []⟩) Q E s := by
  show wpAny _ _ (field (.ref z) 2 >>= _) _ _ _
  refine wpAny_bind (wpAny_field hz rfl (x := .bool false) rfl ?_)
  show wpAny _ _ (field (.ref z) 3 >>= _) _ _ _
  refine wpAny_bind (wpAny_field hz rfl (x := .ref TI) rfl (wpAny_bind (wpAny_seqItems hTI rfl ?_)))
  show wpAny _ _ (Builtin.SmallTypes.ownedTupleIsFree (.ref z) >>= _) _ _ _
  refine wpAny_bind ?_
  unfold Builtin.SmallTypes.ownedTupleIsFree
  refine wpAny_bind (wpAny_field hz rfl (x := .none) rfl (wpAny_pure ?_))
  simp only [if_true]
  refine wpAny_bind (wpAny_rule (wpAny_bind (wpAny_field hz rfl (x := .ref TO) rfl (wpAny_bind (wpAny_setField_rec hz (by simp) fun g1 z1 s1 => ?_)))))
  replace z1 : IsZip g1 z TI TO .ellipsis := z1
  refine wpAny_bind ?_
  simp only [List.zipIdx_cons, List.zipIdx_nil, List.forIn_cons, List.forIn_nil]
  refine wpAny_bind (wpAny_bind (wpAny_onRaise ?_))
  show wpAny _ _ (Builtin.SmallTypes.nextOf (.ref i1) >>= _) _ _ _
  cases hx : xs[k1]? with
  | none =>
    refine wpAny_bind (endK hh (h1.eb s1.extBut D.i1z) (hl1.eb s1.extBut D.l1z) hx fun g2 e s2 he => ?_)
    obtain ⟨oe, hoe, hce⟩ := he
    have z2 : IsZip g2 z TI TO .ellipsis := s2 _ _ D.i1z.symm z1
    have ez : e ≠ z := fun q => by subst q; rw [z2] at hoe; cases hoe; simp at hce
    exact wpAny_setField_rec z2 (by simp) fun g3 _ s3 => hE g3 e (fun c o c1 _ c3 _ q => s3.extBut _ _ c1 (s2 _ _ c3 (s1.extBut _ _ c1 q))) ⟨oe, s3.extBut _ _ ez hoe, hce⟩
  | some x =>
    have hy : ys[k2]? = none := hend.elim (fun q => by rw [hx] at q; cases q) id
    refine wpAny_bind (nextK (h1.eb s1.extBut D.i1z) (hl1.eb s1.extBut D.l1z) hx fun g2 j1 s2 => wpAny_pure ?_)
    have t2 : IsPair g2 TO a b := s2.extBut _ _ D.TOi1 (s1.extBut _ _ D.TOz hTO)
    refine wpAny_bind (wpAny_seqItems t2 rfl (wpAny_bind (wpAny_updateSeq_pair t2 fun g3 t3 s3 => wpAny_bind (wpAny_letGo (wpAny_pure (wpAny_bind (wpAny_bind (wpAny_onRaise ?_))))))))
    show wpAny _ _ (Builtin.SmallTypes.nextOf (.ref i2) >>= _) _ _ _
    refine wpAny_bind (endK hh (((h2.eb s1.extBut D.i2z).eb s2.extBut D.i12.symm).eb s3.extBut D.TOi2.symm) (((hl2.eb s1.extBut D.l2z).eb s2.extBut D.l2i1).eb s3.extBut D.l2TO) hy fun g4 e s4 he => ?_)
    obtain ⟨oe, hoe, hce⟩ := he
    have z4 : IsZip g4 z TI TO .ellipsis := s4 _ _ D.i2z.symm (s3.extBut _ _ D.TOz.symm (s2.extBut _ _ D.i1z.symm z1))
    have ez : e ≠ z := fun q => by subst q; rw [z4] at hoe; cases hoe; simp at hce
    exact wpAny_setField_rec z4 (by simp) fun g5 _ s5 => hE g5 e (fun c o c1 c2 c3 c4 q => s5.extBut _ _ c1 (s4 _ _ c4 (s3.extBut _ _ c2 (s2.extBut _ _ c3 (s1.extBut _ _ c1 q))))) ⟨oe, s5.extBut _ _ ez hoe, hce⟩
theorem zipK_next {x y a b : Value} {Q : Option Value → Shared → Prop} (D : ZipApart z TI TO i1 i2 l1 l2) (hz : IsZip s.heap z TI TO .none) (hTI : IsPair s.heap TI (.ref i1) (.ref i2)) (hTO : IsPair s.heap TO a b)
    (h1 : IterK b1 s.heap i1 l1 k1) (h2 : IterK b2 s.heap i2 l2 k2) (hl1 : SeqK b1 s.heap l1 xs) (hl2 : SeqK b2 s.heap l2 ys) (hx : xs[k1]? = some x) (hy : ys[k2]? = some y)
    (hQ : ∀ h', IsZip h' z TI TO (rawInt s.heap.objs.size) → IsPair h' TO x y → IterK b1 h' i1 l1 (k1 + 1) → IterK b2 h' i2 l2 (k2 + 1) → IsPair h' s.heap.objs.size x y →
      (∀ c o, c ≠ z → c ≠ TO → c ≠ i1 → c ≠ i2 → s.heap.get? c = some o → h'.get? c = some o) → Q (some (.ref s.heap.objs.size)) { s with heap := h' }) : wpAny (model prog w) A (pyNext (.ref z)) Q E s := by
  have hT : s.TypeIs (.ref z) "zip" := ⟨_, hz, rfl⟩
  unfold pyNext
  exact wpAny_bind (wpAny_attempt (wpAny_callSpecial?_slot (name := Str.ofString "__next__") hT F.slot_zip_next (wpAny_call_entry F.slot_zip_next hT F.entry_zip_next
    (zipK_item D hz hTI hTO h1 h2 hl1 hl2 hx hy fun h' a1 a2 a3 a4 a5 a6 => wpAny_pure (hQ h' a1 a2 a3 a4 a5 a6)) (F.args_zip_next_1 _))))
theorem zipK_stop {a b : Value} {Q : Option Value → Shared → Prop} (hh : A.handled = none) (D : ZipApart z TI TO i1 i2 l1 l2) (hz : IsZip s.heap z TI TO .none) (hTI : IsPair s.heap TI (.ref i1) (.ref i2)) (hTO : IsPair s.heap TO a b)
    (h1 : IterK b1 s.heap i1 l1 k1) (h2 : IterK b2 s.heap i2 l2 k2) (hl1 : SeqK b1 s.heap l1 xs) (hl2 : SeqK b2 s.heap l2 ys) (hend : xs[k1]? = none ∨ ys[k2]? = none)
    (hQ : ∀ h', (∀ c o, c ≠ z → c ≠ TO → c ≠ i1 → c ≠ i2 → s.heap.get? c = some o → h'.get? c = some o) → Q none { s with heap := h' }) : wpAny (model prog w) A (pyNext (.ref z)) Q E s := by
  have hT : s.TypeIs (.ref z) "zip" := ⟨_, hz, rfl⟩
  unfold pyNext
  refine wpAny_bind (wpAny_attempt (wpAny_callSpecial?_slot (name := Str.ofString "__next__") hT F.slot_zip_next (wpAny_call_entry F.slot_zip_next hT F.entry_zip_next (zipK_end hh D hz hTI hTO h1 h2 hl1 hl2 hend fun h' e hk he => ?_) (F.args_zip_next_1 _))))
  obtain ⟨o, ho, hc⟩ := he
  exact wpAny_bind (wpAny_isInstance (T := "StopIteration") (b := true) ⟨o, ho, hc⟩ isSubtype_stop (wpAny_pure (hQ _ hk)))
end
end DD
end
section
namespace DD
open PySem PySem.Spec PyProof.Rows L2 GxR GenW
def itObj : Bool → Addr → Obj
  | true, l => { cls := .type "tuple_iterator", data := .fields #[.ref l, .int 0 0] }
  | false, l => { cls := .type "list_iterator", data := .fields #[.ref l, .int 0 0] }
theorem itObj_is {b : Bool} {h : Heap} {it l : Addr} (e : h.get? it = some (itObj b l)) : IterK b h it l 0 := by
  cases b with
  | true => exact ⟨_, e, rfl, rfl⟩
  | false => exact ⟨_, e, rfl, rfl⟩
abbrev zk1 (h : Heap) (b1 : Bool) (l1 : Addr) : Heap := h.push (itObj b1 l1)
abbrev zk2 (h : Heap) (b1 b2 : Bool) (l1 l2 : Addr) : Heap := (zk1 h b1 l1).push (itObj b2 l2)
abbrev zk3 (h : Heap) (b1 b2 : Bool) (l1 l2 : Addr) : Heap := (zk2 h b1 b2 l1 l2).push { cls := .type "tuple", data := .seq #[.ref h.objs.size, .ref (zk1 h b1 l1).objs.size] }
abbrev zk4 (h : Heap) (b1 b2 : Bool) (l1 l2 : Addr) : Heap := (zk3 h b1 b2 l1 l2).push { cls := .type "tuple", data := .seq #[.none, .none] }
abbrev zk5 (h : Heap) (b1 b2 : Bool) (l1 l2 : Addr) : Heap := (zk4 h b1 b2 l1 l2).push { cls := .type "zip", data := .fields #[.none, .bool false, .bool false, .ref (zk2 h b1 b2 l1 l2).objs.size, .ref (zk3 h b1 b2 l1 l2).objs.size] }
theorem SeqK.push {b : Bool} {h : Heap} {l : Addr} {xs : Array Value} (x : SeqK b h l xs) (o : Obj) : SeqK b (h.push o) l xs := by
  cases b with
  | true => exact Heap.IsTuple.push x _
  | false => exact Heap.IsList.push x _
theorem meets_zipK (b1 b2 : Bool) (l1 l2 : Addr) (xs ys : Array Value) :
    Meets (Builtin.«zip.__new__» ⟨[.type "zip", .ref l1, .ref l2], []⟩) (fun _ R s => SeqK b1 s.heap l1 xs ∧ SeqK b2 s.heap l2 ys ∧
      R (.ok (.ret (.ref (zk4 s.heap b1 b2 l1 l2).objs.size))) { s with heap := zk5 s.heap b1 b2 l1 l2 }) :=
  .of_wp fun prog w A R s h => by
    obtain ⟨hp, g, d, tk, os⟩ := s; obtain ⟨hl1, hl2, h⟩ := h
    have hsub := sub_zip
    have hl2' := hl2.push (itObj b1 l1)
    cases b1 with
    | true =>
      have hL1 : Heap.IsTuple (Shared.heap ⟨hp, g, d, tk, os⟩) l1 xs := hl1
      cases b2 with
      | true =>
        have hL2 : Heap.IsTuple (Shared.heap ⟨hp.push { cls := .type "tuple_iterator", data := .fields #[.ref l1, .int 0 0] }, g, d, tk, os⟩) l2 ys := hl2'
        wp_walk using wpAny_pyIter_tuple hL1, wpAny_pyIter_tuple hL2
        exact ⟨_, rfl, h⟩
      | false =>
        have hL2 : Heap.IsList (Shared.heap ⟨hp.push { cls := .type "tuple_iterator", data := .fields #[.ref l1, .int 0 0] }, g, d, tk, os⟩) l2 ys := hl2'
        wp_walk using wpAny_pyIter_tuple hL1, wpAny_pyIter_list hL2
        exact ⟨_, rfl, h⟩
    | false =>
      have hL1 : Heap.IsList (Shared.heap ⟨hp, g, d, tk, os⟩) l1 xs := hl1
      cases b2 with
      | true =>
        have hL2 : Heap.IsTuple (Shared.heap ⟨hp.push { cls := .type "list_iterator", data := .fields #[.ref l1, .int 0 0] }, g, d, tk, os⟩) l2 ys := hl2'
        wp_walk using wpAny_pyIter_list hL1, wpAny_pyIter_tuple hL2
        exact ⟨_, rfl, h⟩
      | false =>
        have hL2 : Heap.IsList (Shared.heap ⟨hp.push { cls := .type "list_iterator", data := .fields #[.ref l1, .int 0 0] }, g, d, tk, os⟩) l2 ys := hl2'
        wp_walk using wpAny_pyIter_list hL1, wpAny_pyIter_list hL2
        exact ⟨_, rfl, h⟩
section
variable {prog : Program} {w : World} {A : Around} {E : Value → Shared → Prop} {s : Shared}
theorem call_zipK {b1 b2 : Bool} {l1 l2 : Addr} {xs ys : Array Value} {Q : Value → Shared → Prop} (hl1 : SeqK b1 s.heap l1 xs) (hl2 : SeqK b2 s.heap l2 ys)
    (h : ∀ h', IsZip h' (s.heap.objs.size + 4) (s.heap.objs.size + 2) (s.heap.objs.size + 3) .none → IsPair h' (s.heap.objs.size + 2) (.ref s.heap.objs.size) (.ref (s.heap.objs.size + 1)) →
      IsPair h' (s.heap.objs.size + 3) .none .none → IterK b1 h' s.heap.objs.size l1 0 → IterK b2 h' (s.heap.objs.size + 1) l2 0 →
      (∀ c o, s.heap.get? c = some o → h'.get? c = some o) → Q (.ref (s.heap.objs.size + 4)) { s with heap := h' }) :
    wpAny (model prog w) A (call (.type "zip") [.ref l1, .ref l2]) Q E s := by
  refine callType_new F.called_zip (by decide) (F.typeCall_zip_2 _ _) (F.newCall_zip_2 _ _) (fun obj => F.args_object_init_3 obj _ _) F.entry_zip_new (meets_zipK b1 b2 l1 l2 xs ys) ⟨hl1, hl2, ?_⟩
  have n1 : (zk1 s.heap b1 l1).objs.size = s.heap.objs.size + 1 := Heap.size_push ..
  have n2 : (zk2 s.heap b1 b2 l1 l2).objs.size = s.heap.objs.size + 2 := by rw [Heap.size_push, n1]
  have n3 : (zk3 s.heap b1 b2 l1 l2).objs.size = s.heap.objs.size + 3 := by rw [Heap.size_push, n2]
  have n4 : (zk4 s.heap b1 b2 l1 l2).objs.size = s.heap.objs.size + 4 := by rw [Heap.size_push, n3]
  have p5 : (zk5 s.heap b1 b2 l1 l2).get? (zk4 s.heap b1 b2 l1 l2).objs.size = some _ := Heap.get?_push_size _ rfl
  have p4 : (zk5 s.heap b1 b2 l1 l2).get? (zk3 s.heap b1 b2 l1 l2).objs.size = some _ := Heap.get?_push_of_some _ (Heap.get?_push_size _ rfl)
  have p3 : (zk5 s.heap b1 b2 l1 l2).get? (zk2 s.heap b1 b2 l1 l2).objs.size = some _ := Heap.get?_push_of_some _ (Heap.get?_push_of_some _ (Heap.get?_push_size _ rfl))
  have p2 : (zk5 s.heap b1 b2 l1 l2).get? (zk1 s.heap b1 l1).objs.size = some (itObj b2 l2) := Heap.get?_push_of_some _ (Heap.get?_push_of_some _ (Heap.get?_push_of_some _ (Heap.get?_push_size _ (by cases b2 <;> rfl))))
  have p1 : (zk5 s.heap b1 b2 l1 l2).get? s.heap.objs.size = some (itObj b1 l1) := Heap.get?_push_of_some _ (Heap.get?_push_of_some _ (Heap.get?_push_of_some _ (Heap.get?_push_of_some _ (Heap.get?_push_size _ (by cases b1 <;> rfl)))))
  show _ ∧ _
  rw [n2, n3, n4] at p5
  rw [n1, n2] at p3
  rw [n3] at p4
  rw [n1] at p2
  rw [n4]
  exact ⟨⟨_, p5, rfl⟩, h _ p5 p3 p4 (itObj_is p1) (itObj_is p2) fun c o x => Heap.get?_push_of_some _ (Heap.get?_push_of_some _ (Heap.get?_push_of_some _ (Heap.get?_push_of_some _ (Heap.get?_push_of_some _ x))))⟩
end
/-- a list or a tuple, by its kind -/
def SqK (K : PySem.W.Frag) : Bool → Hp → Addr → List V → Prop
  | true, H, a, xs => SqT K H a xs
  | false, H, a, xs => SqL K H a xs
theorem sqK_inv {X : Cx} {pins : List (Addr × Obj)} {σ : L2.St} {H : Hp} {s : Shared} {b : Bool} {a : Addr} {xs : List V} (I : Inv X pins σ H s) (h : SqK X.K b H a xs) : ∃ its : List Value, Vals xs its ∧ SeqK b s.heap a its.toArray := by
  cases b with
  | true => obtain ⟨its, r, p, _⟩ := I.tuple h; exact ⟨its, r, p⟩
  | false => obtain ⟨its, r, p, _⟩ := I.list h; exact ⟨its, r, p.isList⟩
theorem sqK_inj {X : Cx} {pins : List (Addr × Obj)} {σ : L2.St} {H : Hp} {s : Shared} {b : Bool} {a : Addr} {xs ys : List V} (I : Inv X pins σ H s) (h : SqK X.K b H a xs) (h' : SqK X.K b H a ys) : xs = ys := by
  cases b with
  | true => exact I.tuple_inj h h'
  | false => exact I.list_inj h h'
/-- the items of both, pair by pair -/
def ItzK (K : PySem.W.Frag) (b1 b2 : Bool) (a b : Addr) : It :=
  ⟨fun i H => ∃ (xs ys : List V) (x y : V), SqK K b1 H a xs ∧ SqK K b2 H b ys ∧ xs[i]? = some x ∧ ys[i]? = some y,
    fun i H v H' => ∃ T x y, v = .ref T ∧ H T = none ∧ H' = upd H T (.tup [x, y]) ∧ (∀ xs, SqK K b1 H a xs → xs[i]? = some x) ∧ ∀ ys, SqK K b2 H b ys → ys[i]? = some y,
    fun i H => ∃ xs ys : List V, SqK K b1 H a xs ∧ SqK K b2 H b ys ∧ (xs.length ≤ i ∨ ys.length ≤ i)⟩
theorem turn_zipK {P : Program} {w : World} {K : PySem.W.Frag} {elts : List Expr} {kk : Nat} {tpos : Pos} {b1 b2 : Bool} {a b z TI TO i1 i2 : Addr} (D : ZipApart z TI TO i1 i2 a b) :
    Turn P w K (.Tuple elts kk tpos) (ItzK K b1 b2 a b) [z, TI, TO, i1, i2] z (fun i h => IsZip h z TI TO .none ∧ IsPair h TI (.ref i1) (.ref i2) ∧ (∃ x y, IsPair h TO x y) ∧ IterK b1 h i1 a i ∧ IterK b2 h i2 b i) where
  mem := by simp
  obj := fun i h st c hc => by
    obtain ⟨hz, hTI, ⟨x, y, hTO⟩, h1, h2⟩ := st
    obtain ⟨o1, v1, e1, d1⟩ := h1.obj
    obtain ⟨o2, v2, e2, d2⟩ := h2.obj
    have e' : c = z ∨ c = TI ∨ c = TO ∨ c = i1 ∨ c = i2 := by simpa using hc
    rcases e' with rfl | rfl | rfl | rfl | rfl
    · exact ⟨_, hz, fun v q => nomatch q⟩
    · exact ⟨_, hTI, fun v q => nomatch q⟩
    · exact ⟨_, hTO, fun v q => nomatch q⟩
    · exact ⟨o1, e1, fun v q => by rw [d1] at q; cases q⟩
    · exact ⟨o2, e2, fun v q => by rw [d2] at q; cases q⟩
  keep := fun i h h' st k => by
    obtain ⟨hz, hTI, ⟨x, y, hTO⟩, h1, h2⟩ := st
    exact ⟨k z (by simp) _ hz, k TI (by simp) _ hTI, ⟨x, y, k TO (by simp) _ hTO⟩, h1.atK fun o q => k i1 (by simp) o q, h2.atK fun o q => k i2 (by simp) o q⟩
  item := by
    intro X hP hw hK hc i pins s σ H E I hf st hg
    subst hP hw hK
    obtain ⟨hz, hTI, ⟨x0, y0, hTO⟩, h1, h2⟩ := st
    obtain ⟨xs, ys, x, y, hqx, hqy, hx, hy⟩ := hg
    obtain ⟨its, rv, p⟩ := sqK_inv I hqx
    obtain ⟨its2, rv2, p2⟩ := sqK_inv I hqy
    obtain ⟨u, hu, ru⟩ := rv.get hx
    obtain ⟨u2, hu2, ru2⟩ := rv2.get hy
    have lz : z < s.heap.objs.size := Heap.lt_size hz
    refine zipK_next D hz hTI hTO h1 h2 p p2 (x := u) (y := u2) (by simpa using hu) (by simpa using hu2) fun h' z' TO' h1' h2' hT hk => ?_
    refine ⟨_, rfl, wpAny_letOwnedTupleGo_zip (s := { s with heap := h' }) z' fun h'' z'' sb => ?_⟩
    have hT2 : h''.get? s.heap.objs.size = some { cls := .type "tuple", data := .seq #[u, u2] } := (sb.2 _ (Nat.ne_of_gt lz)).trans hT
    have new : ObjOk X.prog X.w (upd H s.heap.objs.size (.tup [x, y])) h'' s.heap.objs.size (.tup [x, y]) := ⟨by show 2 ≤ sizeLine; decide, [u, u2], .cons ru (.cons ru2 .nil), ⟨_, hT2, rfl, _, rfl⟩⟩
    have I1 : Inv X pins σ (upd H s.heap.objs.size (.tup [x, y])) { s with heap := h'' } :=
      I.turnedNew (t' := s.toks) (ch := [z, TI, TO, i1, i2]) (fun c o hb q => by
        simp only [List.mem_cons, List.not_mem_nil, or_false, not_or] at hb
        exact (sb.2 c hb.1).trans (hk c o hb.1 hb.2.2.1 hb.2.2.2.1 hb.2.2.2.2 q)) hf (Nat.le_refl _) new
    refine ⟨.ref s.heap.objs.size, _, I1, rfl, ⟨_, x, y, rfl, I.hok.fresh (Nat.le_refl _), rfl, fun l hl => by rw [sqK_inj I hl hqx]; exact hx, fun l hl => by rw [sqK_inj I hl hqy]; exact hy⟩, ⟨z'', (sb.2 _ D.TIz).trans (hk _ _ D.TIz D.TITO D.TIi1 D.TIi2 hTI), ⟨u, u2, (sb.2 _ D.TOz).trans TO'⟩, h1'.atK fun o q => (sb.2 _ D.i1z).trans q, h2'.atK fun o q => (sb.2 _ D.i2z).trans q⟩, fun c hcm => ?_⟩
    have hlt : c < s.heap.objs.size := by
      have e' : c = z ∨ c = TI ∨ c = TO ∨ c = i1 ∨ c = i2 := by simpa using hcm
      rcases e' with rfl | rfl | rfl | rfl | rfl
      · exact lz
      · exact Heap.lt_size hTI
      · exact Heap.lt_size hTO
      · exact h1.lt
      · exact h2.lt
    rw [upd_ne (Nat.ne_of_lt hlt)]
    exact (hf c hcm).1
  done := by
    intro X hP hw hK hc i pins s σ H E I hf st hg
    subst hP hw hK
    obtain ⟨hz, hTI, ⟨x0, y0, hTO⟩, h1, h2⟩ := st
    obtain ⟨xs, ys, hqx, hqy, hend⟩ := hg
    obtain ⟨its, rv, p⟩ := sqK_inv I hqx
    obtain ⟨its2, rv2, p2⟩ := sqK_inv I hqy
    have l1 := rv.length
    have l2 := rv2.length
    have he : its.toArray[i]? = none ∨ its2.toArray[i]? = none := by
      rcases hend with q | q
      · exact .inl (by simp; omega)
      · exact .inr (by simp; omega)
    refine zipK_stop (I.ok.hd hc) D hz hTI hTO h1 h2 p p2 he fun h' hk => ⟨rfl, I.turnedL (t' := s.toks) (ch := [z, TI, TO, i1, i2]) (fun c o hb q => ?_) hf⟩
    simp only [List.mem_cons, List.not_mem_nil, or_false, not_or] at hb
    exact hk c o hb.1 hb.2.2.1 hb.2.2.2.1 hb.2.2.2.2 q
  self := fun A i s Q E st h => wpAny_pyIter_zip st.1 h
def iZipK (K : PySem.W.Frag) (ta : TA) : TI := fun σ H R => ta σ H fun vs H1 => ∃ b1 b2 a b xs ys, vs = [.ref a, .ref b] ∧ SqK K b1 H1 a xs ∧ SqK K b2 H1 b ys ∧ R (ItzK K b1 b2 a b) H1
theorem pi_zipK {X : Cx} {e e2 : Expr} {ta : TA} {p pos tpos : Pos} {elts : List Expr} {kk : Nat} (hg : Gl X "zip") (hm : X.mg "zip" = none) (ha : PA X [e, e2] ta)
    (hs : starEach [e, e2] X.env = (false, eval e X.env) :: starEach [e2] X.env := by rfl) (hpl : (backTo pos (starEach [e2] X.env)).any (·.1) = false := by rfl) :
    PI X (.Tuple elts kk tpos) (.Call (.Name "zip" p) [e, e2] [] pos) (iZipK X.K ta) := by
  refine ⟨fun pins s σ H R I h => ?_⟩
  refine Call_ (ld_blt I hg hm PyProof.Rows.boot_zip (PyProof.Rows.callWith_type1 (thn (ha.run pos pins s σ H _ I h) fun us s1 ⟨vs, H1, I1, r1, q1⟩ => ?_) hs hpl))
  obtain ⟨b1, b2, a, b, xs, ys, ex, hqx, hqy, q⟩ := q1
  subst ex
  cases r1 with
  | cons r rr =>
    cases rr with
    | cons r' rr =>
      cases rr
      cases r
      cases r'
      have n : s1.heap.objs.size ≤ s1.heap.objs.size := Nat.le_refl _
      have fresh5 : ∀ c, c ∈ [s1.heap.objs.size + 4, s1.heap.objs.size + 2, s1.heap.objs.size + 3, s1.heap.objs.size, s1.heap.objs.size + 1] → FpOk X pins H1 c := fun c hcm => by
        have e' : s1.heap.objs.size ≤ c := by
          simp only [List.mem_cons, List.not_mem_nil, or_false] at hcm
          rcases hcm with z | z | z | z | z <;> rw [z] <;> first | exact Nat.le_add_right _ _ | exact n
        exact I1.fpOk e' (I1.hok.fresh e')
      obtain ⟨its, rv, p1⟩ := sqK_inv I1 hqx
      obtain ⟨its2, rv2, p2⟩ := sqK_inv I1 hqy
      have lt : ∀ {b : Bool} {l : Addr} {zs : Array Value}, SeqK b s1.heap l zs → l < s1.heap.objs.size := fun {b l zs} h => by
        cases b with
        | true => obtain ⟨o, e, _⟩ := h; exact Heap.lt_size e
        | false => obtain ⟨o, e, _⟩ := h; exact Heap.lt_size e
      refine call_zipK p1 p2 fun h' hz hTI hTO h1 h2 hk => wpAny_pyIter_zip hz ?_
      exact ⟨s1.heap.objs.size + 4, [s1.heap.objs.size + 4, s1.heap.objs.size + 2, s1.heap.objs.size + 3, s1.heap.objs.size, s1.heap.objs.size + 1], _, _, H1, rfl, I1.kept (t' := s1.toks) hk, turn_zipK (b1 := b1) (b2 := b2) (PySem.W.ktu_apart s1.heap.objs.size a b (lt p1) (lt p2)), ⟨hz, hTI, ⟨_, _, hTO⟩, h1, h2⟩, fresh5, q⟩
/-! over data -/
def zipD (xs ys : List D) : List D := List.zipWith (fun x y => D.tup [x, y]) xs ys
def iZipD (t : DA) : DI := fun δ M R => t δ M fun ds M1 => match ds with
  | [x, y] => match srcD M1 x, srcD M1 y with
    | some (xs, ok1), some (ys, ok2) => R (zipD xs ys) (fun M => ok1 M ∧ ok2 M) M1
    | _, _ => False
  | _ => False
theorem src_kind {K : PySem.W.Frag} {H : Hp} {M : Mem} {d : D} {xs : List D} {ok : Mem → Prop} {v : V} (m : RM K H M) (e : srcD M d = some (xs, ok)) (h : RV K H d v) :
    ∃ (b : Bool) (a : Addr) (vs : List V), v = .ref a ∧ SqK K b H a vs ∧ ∀ H' M', Ext K H H' → RM K H' M' → ok M' → ∃ vs, SqK K b H' a vs ∧ RVs K H' xs vs := by
  unfold srcD at e
  split at e
  · cases e
    obtain ⟨a, vs, rfl, s, r⟩ := h
    exact ⟨true, a, vs, rfl, s, fun H' M' e' m' _ => ⟨vs, e'.sqT s, r.ext e'⟩⟩
  · cases e
    obtain ⟨a, vs, rfl, s, r⟩ := h
    exact ⟨false, a, vs, rfl, s.sq, fun H' M' e' m' _ => ⟨vs, (e'.rol s).sq, r.ext e'⟩⟩
  · cases h
    split at e
    · rename_i ys he
      cases e
      obtain ⟨vs, a1, q1⟩ := rm_lst m he
      exact ⟨false, _, vs, rfl, .inl (.inl a1), fun H' M' e' m' o => let ⟨ws, a2, q2⟩ := rm_lst m' o; ⟨ws, .inl (.inl a2), q2⟩⟩
    · cases e
  · cases e
section
variable {X : Cx}
theorem pdi_zip {e e2 : Expr} {t : DA} {p pos tpos : Pos} {elts : List Expr} {kk : Nat} (hg : Gl X "zip") (hm : X.mg "zip" = none) (ha : PDA X [e, e2] t)
    (hs : starEach [e, e2] X.env = (false, eval e X.env) :: starEach [e2] X.env := by rfl) (hpl : (backTo pos (starEach [e2] X.env)).any (·.1) = false := by rfl) :
    PDI X (.Tuple elts kk tpos) (.Call (.Name "zip" p) [e, e2] [] pos) (iZipD t) := ⟨PI_imp (pi_zipK hg hm ha.pa hs hpl) fun σ H Q q => by
  obtain ⟨δ, M, R, S, m, h, k⟩ := q
  refine ⟨δ, M, _, S, m, h, fun ds M1 vs H1 h1 e1 r1 m1 => ?_⟩
  split at h1
  · rename_i x y
    obtain ⟨v, ws, rfl, q1, r2⟩ := r1
    obtain ⟨v2, ws, rfl, q2, r3⟩ := r2
    cases r3
    split at h1
    · rename_i xs ok1 ys ok2 hx hy
      obtain ⟨b1, a, us, rfl, s1, g1⟩ := src_kind m1 hx q1
      obtain ⟨b2, b, us2, rfl, s2, g2⟩ := src_kind m1 hy q2
      have hlen : (zipD xs ys).length = min xs.length ys.length := by unfold zipD; rw [List.length_zipWith]
      refine ⟨b1, b2, a, b, us, us2, rfl, s1, s2, k _ _ M1 _ H1 h1 e1 m1 ⟨fun i H M e m o hi => ?_, fun i H M v H' e m o hi yv => ?_, fun i H M e m o hi => ?_⟩⟩
      · obtain ⟨vs, t1, w1⟩ := g1 H M e m o.1
        obtain ⟨vs2, t2, w2⟩ := g2 H M e m o.2
        have hx' : i < xs.length := by omega
        have hy' : i < ys.length := by omega
        obtain ⟨x, hx, _⟩ := w1.get (List.getElem?_eq_getElem hx')
        obtain ⟨y, hy, _⟩ := w2.get (List.getElem?_eq_getElem hy')
        exact ⟨vs, vs2, x, y, t1, t2, hx, hy⟩
      · obtain ⟨T, x, y, rfl, hT, rfl, hx, hy⟩ := yv
        obtain ⟨vs, t1, w1⟩ := g1 H M e m o.1
        obtain ⟨vs2, t2, w2⟩ := g2 H M e m o.2
        have hx' : i < xs.length := by omega
        have hy' : i < ys.length := by omega
        obtain ⟨x', hx2, rx⟩ := w1.get (List.getElem?_eq_getElem hx')
        obtain ⟨y', hy2, ry⟩ := w2.get (List.getElem?_eq_getElem hy')
        rw [hx vs t1] at hx2
        rw [hy vs2 t2] at hy2
        cases hx2
        cases hy2
        refine ⟨.tup [xs[i], ys[i]], ?_, Ext.new hT, ⟨T, [x, y], rfl, .inl (.inl upd_same), .cons (rx.ext (Ext.new hT)) (.cons (ry.ext (Ext.new hT)) .nil)⟩, rm_skip m hT⟩
        unfold zipD
        rw [List.getElem?_zipWith, List.getElem?_eq_getElem hx', List.getElem?_eq_getElem hy']
      · obtain ⟨vs, t1, w1⟩ := g1 H M e m o.1
        obtain ⟨vs2, t2, w2⟩ := g2 H M e m o.2
        refine ⟨vs, vs2, t1, t2, ?_⟩
        rw [← w1.length, ← w2.length]
        omega
    · exact h1.elim
  · exact h1.elim⟩
end
end DD
end
section
namespace DD
open PySem PySem.Spec PyProof.Rows L2 GxR GenW
/-! ### all(a list of data) -/
def gAllD : DC1 := fun xs M R => match xs with
  | [.ref a] => match M a with
    | some (.lst ys) => match pyds ys with
      | some ps => PyData.plainAll ps = true ∧ (∀ x ∈ ps, x.fits63) ∧ R (.bl (ps.all PyData.truthy)) M
      | none => False
    | _ => False
  | _ => False
def rAllD (K : PySem.W.Frag) : List V → Hp → VK → Prop := fun vs H Q => ∃ (a : Addr) (xs : List V) (ps : List PyData), vs = [V.ref a] ∧ H a = some (.lst xs) ∧ DpAll K H xs ps ∧ PyData.plainAll ps = true ∧ (∀ x ∈ ps, x.fits63) ∧ Q (.bl (ps.all PyData.truthy)) H
section
variable {X : Cx}
theorem cr_allD (hc : X.calm = true) : CallR X (.builtin "all") (rAllD X.K) := by
  intro pins s σ H vs us Q I r h
  obtain ⟨a, xs, ps, rfl, hs, dp, hp, hf, q⟩ := h
  obtain ⟨its, rv, hl, hz⟩ := I.list (.inl (.inl hs))
  rw [Vals.ref1 r]
  obtain ⟨as, rr⟩ := Dp.readsAll I ps xs its dp rv
  refine PySem.W.all_list_data (I.ok.hd hc) hl.isList (by simpa using rr) hp hf fun h' tk hk => ?_
  exact ⟨.bl _, H, I.kept hk, rfl, q⟩
end
theorem cd_allD {K : PySem.W.Frag} : CallD K (rAllD K) gAllD := by
  intro xs M R H vs Q g m r k
  unfold gAllD at g
  split at g
  · obtain ⟨v, ws, rfl, q, t⟩ := r
    cases t; cases q
    split at g
    · rename_i ys he
      split at g
      · rename_i ps hps
        obtain ⟨us, a1, r2⟩ := rm_lst m he
        exact ⟨_, us, ps, rfl, a1, pyds_dp hps r2, g.1, g.2.1, kq_keep k m g.2.2 rfl⟩
      · exact g.elim
    · exact g.elim
  · exact g.elim
end DD
end
section
namespace DD
open PySem PySem.Spec PyProof.Rows L2 GxR GenW
/-! ### the text by places -/
def topS (i : Nat) : Stmt := PySem.Challenge.pw_wayorring_k11_names_polynomials_places.main.body.getD i (.Pass ⟨0, 0, 0, 0⟩)
abbrev c_NAMES : D := .tup [.str "x", .str "y", .str "z"]
abbrev c_ATOM_WORDS : D := .tup [.str "less", .str "most", .str "is"]
abbrev c_JOIN_WORDS : D := .tup [.str "and", .str "or"]
abbrev c_OVER_WORDS : D := .tup [.str "some", .str "all"]
/-! ### sign_of -/
abbrev s_sign_of : Stmt := topS 2
abbrev N_sign_of : List Str := ["number"]
abbrev P_sign_of : List Str := ["number"]
theorem sc_sign_of : FnScope N_sign_of P_sign_of (defScope s_sign_of) := ⟨rfl, rfl, rfl, by decide +kernel, rfl, by decide +kernel, by decide +kernel⟩
theorem bd_sign_of {K : PySem.W.Frag} {f : Addr} {fd : FuncData} (F : FnP K "sign_of" "sign_of" s_sign_of f fd) : Binds K fd P_sign_of [] := FunD.bindsN F fun _ _ _ _ _ _ us hl => match us, hl with | [_], _ => rfl
noncomputable def r_sign_of  : DS := sRet (dBin gSubA (dBin gGt (dVar 0) (dC (.int 0))) (dBin gLt (dVar 0) (dC (.int 0))))
theorem body_sign_of {W : Wd} {k : Nat}   : Body W k N_sign_of "sign_of" (defScope s_sign_of) (defBody s_sign_of) (r_sign_of ) := fun f cdv A outer s H E hi =>
  have nd := sc_sign_of.nd
  pdss_one (pds_ret (pd_op op_subA od_subA (pd_cmp op_gt od_gt (pd_var (pv 0)) (pd_int) (nomark _)) (pd_cmp op_lt od_lt (pd_var (pv 0)) (pd_int) (nomark _))))
/-! ### common_divisor -/
abbrev s_common_divisor : Stmt := topS 3
abbrev N_common_divisor : List Str := ["numbers", "found", "number"]
abbrev P_common_divisor : List Str := ["numbers"]
theorem sc_common_divisor : FnScope N_common_divisor P_common_divisor (defScope s_common_divisor) := ⟨rfl, rfl, rfl, by decide +kernel, rfl, by decide +kernel, by decide +kernel⟩
theorem bd_common_divisor {K : PySem.W.Frag} {f : Addr} {fd : FuncData} (F : FnP K "common_divisor" "common_divisor" s_common_divisor f fd) : Binds K fd P_common_divisor [] := FunD.bindsN F fun _ _ _ _ _ _ us hl => match us, hl with | [_], _ => rfl
noncomputable def r_common_divisor  : DS := sSeq (sAsg (dC (.int 0)) (gNm 1)) (sSeq (sFor (iSeqA (dVar 0)) (gNm 2) (sAsg (dCB gGcd (aCons (dVar 1) (aCons (dVar 2) (aNil)))) (gNm 1))) (sRet (dVar 1)))
theorem body_common_divisor {W : Wd} {k : Nat}  (ng : W.mg "gcd" = some (.builtin "math.gcd")) : Body W k N_common_divisor "common_divisor" (defScope s_common_divisor) (defBody s_common_divisor) (r_common_divisor ) := fun f cdv A outer s H E hi =>
  have nd := sc_common_divisor.nd
  pdss_cons (pds_set (i := 1) nd rfl (by first | exact .inl rfl | exact .inr rfl) (pd_int))
      (pdss_cons (pds_for PassesOwn.never rfl (pdi_seqA (pd_var (pv 0))) (pdg_name (pg_name (i := 2) nd rfl (by first | exact .inl rfl | exact .inr rfl))) (pdss_one (pds_set (i := 1) nd rfl (by first | exact .inl rfl | exact .inr rfl) (pd_callF cr_gcd cd_gcd (by rfl) ng (pda_cons (pd_var (pv 1)) (pda_cons (pd_var (pv 2)) (pda_nil)))))))
      (pdss_one (pds_ret (pd_var (pv 1)))))
/-! ### parts_of -/
abbrev s_parts_of : Stmt := topS 9
abbrev N_parts_of : List Str := ["s"]
abbrev P_parts_of : List Str := ["s"]
theorem sc_parts_of : FnScope N_parts_of P_parts_of (defScope s_parts_of) := ⟨rfl, rfl, rfl, by decide +kernel, rfl, by decide +kernel, by decide +kernel⟩
theorem bd_parts_of {K : PySem.W.Frag} {f : Addr} {fd : FuncData} (F : FnP K "parts_of" "parts_of" s_parts_of f fd) : Binds K fd P_parts_of [] := FunD.bindsN F fun _ _ _ _ _ _ us hl => match us, hl with | [_], _ => rfl
noncomputable def r_parts_of  : DS := sSeq (sIf (dTest (dBin (gInA false) (dBin gIxA (dVar 0) (dC (.int 0))) (dC c_JOIN_WORDS))) (sRet (dSl (dVar 0) (oSome (dC (.int 1))) (oNone))) (sNext)) (sSeq (sIf (dTest (dBin gEq (dBin gIxA (dVar 0) (dC (.int 0))) (dC (.str "not")))) (sRet (dSl (dVar 0) (oSome (dC (.int 1))) (oSome (dC (.int 2))))) (sNext)) (sRet (dIf (dTest (dBin (gInA false) (dBin gIxA (dVar 0) (dC (.int 0))) (dC c_OVER_WORDS))) (dSl (dVar 0) (oSome (dC (.int 2))) (oSome (dC (.int 3)))) (dTup (aNil)))))
theorem body_parts_of {W : Wd} {k : Nat}  (gc_JOIN_WORDS : GConst W "JOIN_WORDS" c_JOIN_WORDS) (gc_OVER_WORDS : GConst W "OVER_WORDS" c_OVER_WORDS) : Body W k N_parts_of "parts_of" (defScope s_parts_of) (defBody s_parts_of) (r_parts_of ) := fun f cdv A outer s H E hi =>
  have nd := sc_parts_of.nd
  pdss_cons (pds_if (pdt_cmp (op_inA hi.room.units2) od_rL2 (pd_ixA hi.room.units (pd_var (pv 0)) (pd_int)) ((gc_JOIN_WORDS.pd hi rfl)) (by rfl)) (pdss_one (pds_ret (pd_slice (pd_var (pv 0)) (pdo_some (pd_int)) (pdo_none)))) (pdss_nil))
      (pdss_cons (pds_if (pdt_cmp (op_eqD hi.room.units) od_eq (pd_ixA hi.room.units (pd_var (pv 0)) (pd_int)) (pd_str) (nomark _)) (pdss_one (pds_ret (pd_slice (pd_var (pv 0)) (pdo_some (pd_int)) (pdo_some (pd_int))))) (pdss_nil))
      (pdss_one (pds_ret (pd_ifExp (pdt_cmp (op_inA hi.room.units2) od_rL2 (pd_ixA hi.room.units (pd_var (pv 0)) (pd_int)) ((gc_OVER_WORDS.pd hi rfl)) (by rfl)) (pd_slice (pd_var (pv 0)) (pdo_some (pd_int)) (pdo_some (pd_int))) (pd_tup (pda_nil))))))
/-! ### inner_of -/
abbrev s_inner_of : Stmt := topS 10
abbrev N_inner_of : List Str := ["s", "found", "waiting", "one"]
abbrev P_inner_of : List Str := ["s"]
theorem sc_inner_of : FnScope N_inner_of P_inner_of (defScope s_inner_of) := ⟨rfl, rfl, rfl, by decide +kernel, rfl, by decide +kernel, by decide +kernel⟩
theorem bd_inner_of {K : PySem.W.Frag} {f : Addr} {fd : FuncData} (F : FnP K "inner_of" "inner_of" s_inner_of f fd) : Binds K fd P_inner_of [] := FunD.bindsN F fun _ _ _ _ _ _ us hl => match us, hl with | [_], _ => rfl
noncomputable def r_inner_of (sp_parts_of : DSp) : DS := sSeq (sPar 1 2 (aCons (dLst (aNil)) (aCons (dLst (aCons (dVar 0) (aNil))) (aNil)))) (sSeq (sWhile (dTru (dVar 2)) (sSeq (sAsg (dBM0 isLst gPop (dVar 2)) (gNm 3)) (sSeq (sDrop (dBM isLst gAppend (dVar 1) (aCons (dVar 3) (aNil)))) (sDrop (dBM isLst gExtend (dVar 2) (aCons (dListRev (dCall sp_parts_of (aCons (dVar 3) (aNil)))) (aNil))))))) (sRet (dVar 1)))
theorem body_inner_of {W : Wd} {k : Nat} {sp_parts_of : DSp} (f_parts_of : GFn W k "parts_of" P_parts_of sp_parts_of) (nb : NB W) : Body W k N_inner_of "inner_of" (defScope s_inner_of) (defBody s_inner_of) (r_inner_of sp_parts_of) := fun f cdv A outer s H E hi =>
  have nd := sc_inner_of.nd
  pdss_cons (pds_par (i := 1) (j := 2) rfl nd rfl rfl (by decide) rfl rfl (pda_cons (pd_lst (pda_nil)) (pda_cons (pd_lst (pda_cons (pd_var (pv 0)) (pda_nil))) (pda_nil))))
      (pdss_cons (pds_while PassesOwn.never (pdt_tru (pd_var (pv 2))) (pdss_cons (pds_set (i := 3) nd rfl (by first | exact .inl rfl | exact .inr rfl) (pd_bm0 PySem.F.plainAttrs_list PySem.F.slot_list_pop PySem.F.type_list_pop mt_pop md_pop (pd_var (pv 2))))
      (pdss_cons (pds_expr (pd_bm PySem.F.plainAttrs_list PySem.F.slot_list_append PySem.F.type_list_append mt_append md_append (pd_var (pv 1)) (pda_cons (pd_var (pv 3)) (pda_nil))))
      (pdss_one (pds_expr (pd_bm PySem.F.plainAttrs_list PySem.F.slot_list_extend PySem.F.type_list_extend mt_extend md_extend (pd_var (pv 2)) (pda_cons (pd_listRev rfl (by rfl) nb.list_ (by rfl) nb.reversed (pd_call f_parts_of hi (by rfl) (pda_cons (pd_var (pv 3)) (pda_nil)))) (pda_nil))))))))
      (pdss_one (pds_ret (pd_var (pv 1)))))
/-! ### atoms_of -/
abbrev s_atoms_of : Stmt := topS 11
abbrev N_atoms_of : List Str := ["s", "one"]
abbrev P_atoms_of : List Str := ["s"]
theorem sc_atoms_of : FnScope N_atoms_of P_atoms_of (defScope s_atoms_of) := ⟨rfl, rfl, rfl, by decide +kernel, rfl, by decide +kernel, by decide +kernel⟩
theorem bd_atoms_of {K : PySem.W.Frag} {f : Addr} {fd : FuncData} (F : FnP K "atoms_of" "atoms_of" s_atoms_of f fd) : Binds K fd P_atoms_of [] := FunD.bindsN F fun _ _ _ _ _ _ us hl => match us, hl with | [_], _ => rfl
noncomputable def r_atoms_of (sp_inner_of : DSp) : DS := sRet (dLc (iSeqA (dCall sp_inner_of (aCons (dVar 0) (aNil)))) (gNm 1) (dTest (dBin (gInA false) (dBin gIxA (dVar 1) (dC (.int 0))) (dC c_ATOM_WORDS))) (dVar 1) [1])
theorem body_atoms_of {W : Wd} {k : Nat} {sp_inner_of : DSp} (f_inner_of : GFn W k "inner_of" P_inner_of sp_inner_of) (gc_ATOM_WORDS : GConst W "ATOM_WORDS" c_ATOM_WORDS) : Body W k N_atoms_of "atoms_of" (defScope s_atoms_of) (defBody s_atoms_of) (r_atoms_of sp_inner_of) := fun f cdv A outer s H E hi =>
  have nd := sc_atoms_of.nd
  pdss_one (pds_ret (pd_lc rfl nd (pdi_seqA (pd_call f_inner_of hi (by rfl) (pda_cons (pd_var (pv 0)) (pda_nil)))) (blkOk_by (own := [("one", 1)]) (by first | (show blkC N_atoms_of (defScope s_atoms_of) _ _ = true; decide +kernel) | kernel_rfl)) (fun _ _ _ _ _ => pdg_name (pg_name (i := 1) nd rfl (by first | exact .inl rfl | exact .inr rfl))) (fun _ _ _ _ _ => pdts_one (pdt_cmp (op_inA hi.blk.room.units2) od_rL2 (pd_ixA hi.blk.room.units (pd_var (pv 1)) (pd_int)) ((gc_ATOM_WORDS.pd hi.blk rfl)) (by rfl))) (fun _ _ _ _ _ => pd_var (pv 1)) (by decide)))
/-! ### names_in -/
abbrev s_names_in : Stmt := topS 12
abbrev N_names_in : List Str := ["f", "place", "name", "term"]
abbrev P_names_in : List Str := ["f"]
theorem sc_names_in : FnScope N_names_in P_names_in (defScope s_names_in) := ⟨rfl, rfl, rfl, by decide +kernel, rfl, by decide +kernel, by decide +kernel⟩
theorem bd_names_in {K : PySem.W.Frag} {f : Addr} {fd : FuncData} (F : FnP K "names_in" "names_in" s_names_in f fd) : Binds K fd P_names_in [] := FunD.bindsN F fun _ _ _ _ _ _ us hl => match us, hl with | [_], _ => rfl
noncomputable def r_names_in (P_t : Addr) : DS := sRet (dCB gTuple (aCons (dLc (iEnumerate (aCons (dC c_NAMES) (aNil))) (gUnp 2 (gsCons (gNm 1) (gsCons (gNm 2) (gsNil)))) (dTru (dAnyG P_t true (iSeqA (dVar 0)) (gNm 3) (tYesD) (dBin gGt (dBin gIxA (dBin gIxA (dVar 3) (dC (.int 0))) (dVar 1)) (dC (.int 0))) [3])) (dVar 2) [1, 2]) (aNil)))
theorem body_names_in {W : Wd} {k : Nat} {P_t : Addr} (gc_NAMES : GConst W "NAMES" c_NAMES) (nb : NB W) {c_t : Addr} (TB : GxR.TabB W.base W.mg c_t P_t) : BodyC W (k + 1) N_names_in "names_in" (defScope s_names_in) (defBody s_names_in) (.ref c_t) (r_names_in P_t) := fun f A outer s H E hi =>
  have nd := sc_names_in.nd
  pdss_one (pds_ret (pd_callTy call_tuple_of cd_tuple (by rfl) nb.tuple_ (by decide +kernel) (pda_cons (pd_lc rfl nd (pdi_enumerate (by rfl) nb.enumerate (pda_cons ((gc_NAMES.pd hi rfl)) (pda_nil))) (blkOk_by (own := [("place", 1), ("name", 2)]) (by first | (show blkC N_names_in (defScope s_names_in) _ _ = true; decide +kernel) | kernel_rfl)) (fun _ _ _ _ _ => pdg_tup rfl (pdgs_cons (pdg_name (pg_name (i := 1) nd rfl (by first | exact .inl rfl | exact .inr rfl))) (pdgs_cons (pdg_name (pg_name (i := 2) nd rfl (by first | exact .inl rfl | exact .inr rfl))) (pdgs_nil)))) (fun _ _ _ _ _ => pdts_one (pdt_tru (pd_anyG hi.blk.room (hi.blk.tab TB) (by rfl) (by rfl) nb.any nd (pdi_seqA (pd_var (pv 0))) (blkOk_by (own := [("term", 3)]) (by first | (show blkC N_names_in (defScope s_names_in) _ _ = true; decide +kernel) | kernel_rfl)) (by decide +kernel) (fun _ sj Hj _ _ fj ej => have hj1 := hi.blk.gen (s := sj) (H := Hj) (fp := fj) ej; pdg_name (pg_name (i := 3) nd rfl (by first | exact .inl rfl | exact .inr rfl))) (fun _ sj Hj _ _ fj ej => have hj1 := hi.blk.gen (s := sj) (H := Hj) (fp := fj) ej; pdts_nil) (fun _ sj Hj _ _ fj ej => have hj1 := hi.blk.gen (s := sj) (H := Hj) (fp := fj) ej; pd_cmp op_gt od_gt (pd_ixA hj1.room.units (pd_ixA hj1.room.units (pd_var (pv 3)) (pd_int)) (pd_var (pv 1))) (pd_int) (nomark _)) (by decide)))) (fun _ _ _ _ _ => pd_var (pv 2)) (by decide)) (pda_nil))))
/-! ### free_names -/
abbrev s_free_names : Stmt := topS 13
abbrev N_free_names : List Str := ["s", "found", "waiting", "more", "one", "held", "name", "part"]
abbrev P_free_names : List Str := ["s"]
theorem sc_free_names : FnScope N_free_names P_free_names (defScope s_free_names) := ⟨rfl, rfl, rfl, by decide +kernel, rfl, by decide +kernel, by decide +kernel⟩
theorem bd_free_names {K : PySem.W.Frag} {f : Addr} {fd : FuncData} (F : FnP K "free_names" "free_names" s_free_names f fd) : Binds K fd P_free_names [] := FunD.bindsN F fun _ _ _ _ _ _ us hl => match us, hl with | [_], _ => rfl
noncomputable def r_free_names (sp_names_in : DSp) (sp_parts_of : DSp) : DS := sSeq (sPar 1 2 (aCons (dDict0) (aCons (dLst (aCons (dTup (aCons (dVar 0) (aCons (dTup (aNil)) (aNil)))) (aNil))) (aNil)))) (sSeq (sWhile (dTru (dVar 2)) (sSeq (sAsg (dBM0 isLst gPop (dVar 2)) (gUnp 2 (gsCons (gNm 4) (gsCons (gNm 5) (gsNil))))) (sSeq (sIf (dTest (dBin (gInA false) (dBin gIxA (dVar 4) (dC (.int 0))) (dC c_ATOM_WORDS))) (sFor (iSeqA (dCall sp_names_in (aCons (dBin gIxA (dVar 4) (dC (.int 1))) (aNil)))) (gNm 6) (sIf (dTest (dBin (gInA true) (dVar 6) (dVar 5))) (sAsg (dC (.bl true)) (gSubD (dVar 1) (dVar 6) gSetA)) (sNext))) (sNext)) (sSeq (sAsg (dIf (dTest (dBin (gInA false) (dBin gIxA (dVar 4) (dC (.int 0))) (dC c_OVER_WORDS))) (dBin gAdd (dVar 5) (dTup (aCons (dBin gIxA (dVar 4) (dC (.int 1))) (aNil)))) (dVar 5)) (gNm 3)) (sDrop (dBM isLst gExtend (dVar 2) (aCons (dLc (iSeqA (dCall sp_parts_of (aCons (dVar 4) (aNil)))) (gNm 7) (tYesD) (dTup (aCons (dVar 7) (aCons (dVar 3) (aNil)))) [7]) (aNil)))))))) (sRet (dCB gTuple (aCons (dCB gSortedA (aCons (dVar 1) (aNil))) (aNil)))))
theorem body_free_names {W : Wd} {k : Nat} {sp_names_in : DSp} {sp_parts_of : DSp} (f_names_in : GFn W k "names_in" P_names_in sp_names_in) (f_parts_of : GFn W k "parts_of" P_parts_of sp_parts_of) (gc_ATOM_WORDS : GConst W "ATOM_WORDS" c_ATOM_WORDS) (gc_OVER_WORDS : GConst W "OVER_WORDS" c_OVER_WORDS) (nb : NB W) : Body W k N_free_names "free_names" (defScope s_free_names) (defBody s_free_names) (r_free_names sp_names_in sp_parts_of) := fun f cdv A outer s H E hi =>
  have nd := sc_free_names.nd
  pdss_cons (pds_par (i := 1) (j := 2) rfl nd rfl rfl (by decide) rfl rfl (pda_cons (pd_dict0) (pda_cons (pd_lst (pda_cons (pd_tup (pda_cons (pd_var (pv 0)) (pda_cons (pd_tup (pda_nil)) (pda_nil)))) (pda_nil))) (pda_nil))))
      (pdss_cons (pds_while PassesOwn.never (pdt_tru (pd_var (pv 2))) (pdss_cons (pds_asg (pd_bm0 PySem.F.plainAttrs_list PySem.F.slot_list_pop PySem.F.type_list_pop mt_pop md_pop (pd_var (pv 2))) (pdg_tup rfl (pdgs_cons (pdg_name (pg_name (i := 4) nd rfl (by first | exact .inl rfl | exact .inr rfl))) (pdgs_cons (pdg_name (pg_name (i := 5) nd rfl (by first | exact .inl rfl | exact .inr rfl))) (pdgs_nil)))))
      (pdss_cons (pds_if (pdt_cmp (op_inA hi.room.units2) od_rL2 (pd_ixA hi.room.units (pd_var (pv 4)) (pd_int)) ((gc_ATOM_WORDS.pd hi rfl)) (by rfl)) (pdss_one (pds_for PassesOwn.never rfl (pdi_seqA (pd_call f_names_in hi (by rfl) (pda_cons (pd_ixA hi.room.units (pd_var (pv 4)) (pd_int)) (pda_nil)))) (pdg_name (pg_name (i := 6) nd rfl (by first | exact .inl rfl | exact .inr rfl))) (pdss_one (pds_if (pdt_cmp (op_notInA hi.room.units2) od_rL2 (pd_var (pv 6)) (pd_var (pv 5)) (by rfl)) (pdss_one (pds_asg (pd_bl) (pdg_sub (pd_var (pv 1)) (pd_var (pv 6)) (set_A hi.room.units) sd_rL3))) (pdss_nil))))) (pdss_nil))
      (pdss_cons (pds_set (i := 3) nd rfl (by first | exact .inl rfl | exact .inr rfl) (pd_ifExp (pdt_cmp (op_inA hi.room.units2) od_rL2 (pd_ixA hi.room.units (pd_var (pv 4)) (pd_int)) ((gc_OVER_WORDS.pd hi rfl)) (by rfl)) (pd_op op_addA od_add (pd_var (pv 5)) (pd_tup (pda_cons (pd_ixA hi.room.units (pd_var (pv 4)) (pd_int)) (pda_nil)))) (pd_var (pv 5))))
      (pdss_one (pds_expr (pd_bm PySem.F.plainAttrs_list PySem.F.slot_list_extend PySem.F.type_list_extend mt_extend md_extend (pd_var (pv 2)) (pda_cons (pd_lc rfl nd (pdi_seqA (pd_call f_parts_of hi (by rfl) (pda_cons (pd_var (pv 4)) (pda_nil)))) (blkOk_by (own := [("part", 7)]) (by first | (show blkC N_free_names (defScope s_free_names) _ _ = true; decide +kernel) | kernel_rfl)) (fun _ _ _ _ _ => pdg_name (pg_name (i := 7) nd rfl (by first | exact .inl rfl | exact .inr rfl))) (fun _ _ _ _ _ => pdts_nil) (fun _ _ _ _ _ => pd_tup (pda_cons (pd_var (pv 7)) (pda_cons (pd_var (pv 3)) (pda_nil)))) (by decide)) (pda_nil)))))))))
      (pdss_one (pds_ret (pd_callTy call_tuple_of cd_tuple (by rfl) nb.tuple_ (by decide +kernel) (pda_cons (pd_callB (cr_sortedA rfl hi.room.units) cd_sortedA (by rfl) nb.sorted (by decide +kernel) (pda_cons (pd_var (pv 1)) (pda_nil))) (pda_nil))))))
/-! ### is_constant -/
abbrev s_is_constant : Stmt := topS 14
abbrev N_is_constant : List Str := ["f"]
abbrev P_is_constant : List Str := ["f"]
theorem sc_is_constant : FnScope N_is_constant P_is_constant (defScope s_is_constant) := ⟨rfl, rfl, rfl, by decide +kernel, rfl, by decide +kernel, by decide +kernel⟩
theorem bd_is_constant {K : PySem.W.Frag} {f : Addr} {fd : FuncData} (F : FnP K "is_constant" "is_constant" s_is_constant f fd) : Binds K fd P_is_constant [] := FunD.bindsN F fun _ _ _ _ _ _ us hl => match us, hl with | [_], _ => rfl
noncomputable def r_is_constant  : DS := sRet (dOrV (dNotV (dVar 0)) (dAndV (dBin gEq (dCB gLen (aCons (dVar 0) (aNil))) (dC (.int 1))) (dBin gEq (dBin gIxA (dBin gIxA (dVar 0) (dC (.int 0))) (dC (.int 0))) (dTup (aCons (dC (.int 0)) (aCons (dC (.int 0)) (aCons (dC (.int 0)) (aNil))))))))
theorem body_is_constant {W : Wd} {k : Nat}  (nb : NB W) : Body W k N_is_constant "is_constant" (defScope s_is_constant) (defBody s_is_constant) (r_is_constant ) := fun f cdv A outer s H E hi =>
  have nd := sc_is_constant.nd
  pdss_one (pds_ret (pd_or (pd_not (pd_var (pv 0))) (pd_one (pd_and (pd_cmp (op_eqD hi.room.units) od_eq (pd_callB call_lenA cd_len (by rfl) nb.len (by decide +kernel) (pda_cons (pd_var (pv 0)) (pda_nil))) (pd_int) (nomark _)) (pd_one (pd_cmp (op_eqD hi.room.units) od_eq (pd_ixA hi.room.units (pd_ixA hi.room.units (pd_var (pv 0)) (pd_int)) (pd_int)) (pd_tup (pda_cons (pd_int) (pda_cons (pd_int) (pda_cons (pd_int) (pda_nil))))) (nomark _)))))))
/-! ### constant_of -/
abbrev s_constant_of : Stmt := topS 15
abbrev N_constant_of : List Str := ["f"]
abbrev P_constant_of : List Str := ["f"]
theorem sc_constant_of : FnScope N_constant_of P_constant_of (defScope s_constant_of) := ⟨rfl, rfl, rfl, by decide +kernel, rfl, by decide +kernel, by decide +kernel⟩
theorem bd_constant_of {K : PySem.W.Frag} {f : Addr} {fd : FuncData} (F : FnP K "constant_of" "constant_of" s_constant_of f fd) : Binds K fd P_constant_of [] := FunD.bindsN F fun _ _ _ _ _ _ us hl => match us, hl with | [_], _ => rfl
noncomputable def r_constant_of  : DS := sRet (dIf (dTru (dVar 0)) (dBin gIxA (dBin gIxA (dVar 0) (dC (.int 0))) (dC (.int 1))) (dC (.int 0)))
theorem body_constant_of {W : Wd} {k : Nat}   : Body W k N_constant_of "constant_of" (defScope s_constant_of) (defBody s_constant_of) (r_constant_of ) := fun f cdv A outer s H E hi =>
  have nd := sc_constant_of.nd
  pdss_one (pds_ret (pd_ifExp (pdt_tru (pd_var (pv 0))) (pd_ixA hi.room.units (pd_ixA hi.room.units (pd_var (pv 0)) (pd_int)) (pd_int)) (pd_int)))
/-! ### primitive_of -/
abbrev s_primitive_of : Stmt := topS 16
abbrev N_primitive_of : List Str := ["f", "number", "term", "powers", "one"]
abbrev P_primitive_of : List Str := ["f"]
theorem sc_primitive_of : FnScope N_primitive_of P_primitive_of (defScope s_primitive_of) := ⟨rfl, rfl, rfl, by decide +kernel, rfl, by decide +kernel, by decide +kernel⟩
theorem bd_primitive_of {K : PySem.W.Frag} {f : Addr} {fd : FuncData} (F : FnP K "primitive_of" "primitive_of" s_primitive_of f fd) : Binds K fd P_primitive_of [] := FunD.bindsN F fun _ _ _ _ _ _ us hl => match us, hl with | [_], _ => rfl
noncomputable def r_primitive_of (sp_common_divisor : DSp) : DS := sSeq (sAsg (dCall sp_common_divisor (aCons (dLc (iSeqA (dVar 0)) (gNm 2) (tYesD) (dBin gIxA (dVar 2) (dC (.int 1))) [2]) (aNil))) (gNm 1)) (sSeq (sAsg (dIf (dTest (dBin gLt (dBin gIxA (dBin gIxA (dVar 0) (dUn gNeg (dC (.int 1)))) (dC (.int 1))) (dC (.int 0)))) (dUn gNeg (dVar 1)) (dVar 1)) (gNm 1)) (sRet (dTup (aCons (dVar 1) (aCons (dCB gTuple (aCons (dLc (iSeqA (dVar 0)) (gUnp 2 (gsCons (gNm 3) (gsCons (gNm 4) (gsNil)))) (tYesD) (dTup (aCons (dVar 3) (aCons (dBin gDiv (dVar 4) (dVar 1)) (aNil)))) [3, 4]) (aNil))) (aNil))))))
theorem body_primitive_of {W : Wd} {k : Nat} {sp_common_divisor : DSp} (f_common_divisor : GFn W k "common_divisor" P_common_divisor sp_common_divisor) (nb : NB W) : Body W k N_primitive_of "primitive_of" (defScope s_primitive_of) (defBody s_primitive_of) (r_primitive_of sp_common_divisor) := fun f cdv A outer s H E hi =>
  have nd := sc_primitive_of.nd
  pdss_cons (pds_set (i := 1) nd rfl (by first | exact .inl rfl | exact .inr rfl) (pd_call f_common_divisor hi (by rfl) (pda_cons (pd_lc rfl nd (pdi_seqA (pd_var (pv 0))) (blkOk_by (own := [("term", 2)]) (by first | (show blkC N_primitive_of (defScope s_primitive_of) _ _ = true; decide +kernel) | kernel_rfl)) (fun _ _ _ _ _ => pdg_name (pg_name (i := 2) nd rfl (by first | exact .inl rfl | exact .inr rfl))) (fun _ _ _ _ _ => pdts_nil) (fun _ _ _ _ _ => pd_ixA hi.blk.room.units (pd_var (pv 2)) (pd_int)) (by decide)) (pda_nil))))
      (pdss_cons (pds_set (i := 1) nd rfl (by first | exact .inl rfl | exact .inr rfl) (pd_ifExp (pdt_cmp op_lt od_lt (pd_ixA hi.room.units (pd_ixA hi.room.units (pd_var (pv 0)) (pd_un un_neg ud_neg (pd_int))) (pd_int)) (pd_int) (nomark _)) (pd_un un_neg ud_neg (pd_var (pv 1))) (pd_var (pv 1))))
      (pdss_one (pds_ret (pd_tup (pda_cons (pd_var (pv 1)) (pda_cons (pd_callTy call_tuple_of cd_tuple (by rfl) nb.tuple_ (by decide +kernel) (pda_cons (pd_lc rfl nd (pdi_seqA (pd_var (pv 0))) (blkOk_by (own := [("powers", 3), ("one", 4)]) (by first | (show blkC N_primitive_of (defScope s_primitive_of) _ _ = true; decide +kernel) | kernel_rfl)) (fun _ _ _ _ _ => pdg_tup rfl (pdgs_cons (pdg_name (pg_name (i := 3) nd rfl (by first | exact .inl rfl | exact .inr rfl))) (pdgs_cons (pdg_name (pg_name (i := 4) nd rfl (by first | exact .inl rfl | exact .inr rfl))) (pdgs_nil)))) (fun _ _ _ _ _ => pdts_nil) (fun _ _ _ _ _ => pd_tup (pda_cons (pd_var (pv 3)) (pda_cons (pd_op op_fdivG od_div (pd_var (pv 4)) (pd_var (pv 1))) (pda_nil)))) (by decide)) (pda_nil))) (pda_nil)))))))
/-! ### polynomials_of -/
abbrev s_polynomials_of : Stmt := topS 17
abbrev N_polynomials_of : List Str := ["s", "found", "one"]
abbrev P_polynomials_of : List Str := ["s"]
theorem sc_polynomials_of : FnScope N_polynomials_of P_polynomials_of (defScope s_polynomials_of) := ⟨rfl, rfl, rfl, by decide +kernel, rfl, by decide +kernel, by decide +kernel⟩
theorem bd_polynomials_of {K : PySem.W.Frag} {f : Addr} {fd : FuncData} (F : FnP K "polynomials_of" "polynomials_of" s_polynomials_of f fd) : Binds K fd P_polynomials_of [] := FunD.bindsN F fun _ _ _ _ _ _ us hl => match us, hl with | [_], _ => rfl
noncomputable def r_polynomials_of (sp_atoms_of : DSp) (sp_is_constant : DSp) (sp_primitive_of : DSp) : DS := sSeq (sAsg (dDict0) (gNm 1)) (sSeq (sFor (iSeqA (dCall sp_atoms_of (aCons (dVar 0) (aNil)))) (gNm 2) (sIf (dNot (dTru (dCall sp_is_constant (aCons (dBin gIxA (dVar 2) (dC (.int 1))) (aNil))))) (sAsg (dC (.bl true)) (gSubD (dVar 1) (dBin gIxA (dCall sp_primitive_of (aCons (dBin gIxA (dVar 2) (dC (.int 1))) (aNil))) (dC (.int 1))) gSetA)) (sNext))) (sRet (dCB gTuple (aCons (dCB gSortedA (aCons (dVar 1) (aNil))) (aNil)))))
theorem body_polynomials_of {W : Wd} {k : Nat} {sp_atoms_of : DSp} {sp_is_constant : DSp} {sp_primitive_of : DSp} (f_atoms_of : GFn W k "atoms_of" P_atoms_of sp_atoms_of) (f_is_constant : GFn W k "is_constant" P_is_constant sp_is_constant) (f_primitive_of : GFn W k "primitive_of" P_primitive_of sp_primitive_of) (nb : NB W) : Body W k N_polynomials_of "polynomials_of" (defScope s_polynomials_of) (defBody s_polynomials_of) (r_polynomials_of sp_atoms_of sp_is_constant sp_primitive_of) := fun f cdv A outer s H E hi =>
  have nd := sc_polynomials_of.nd
  pdss_cons (pds_set (i := 1) nd rfl (by first | exact .inl rfl | exact .inr rfl) (pd_dict0))
      (pdss_cons (pds_for PassesOwn.never rfl (pdi_seqA (pd_call f_atoms_of hi (by rfl) (pda_cons (pd_var (pv 0)) (pda_nil)))) (pdg_name (pg_name (i := 2) nd rfl (by first | exact .inl rfl | exact .inr rfl))) (pdss_one (pds_if (pdt_not (pdt_tru (pd_call f_is_constant hi (by rfl) (pda_cons (pd_ixA hi.room.units (pd_var (pv 2)) (pd_int)) (pda_nil))))) (pdss_one (pds_asg (pd_bl) (pdg_sub (pd_var (pv 1)) (pd_ixA hi.room.units (pd_call f_primitive_of hi (by rfl) (pda_cons (pd_ixA hi.room.units (pd_var (pv 2)) (pd_int)) (pda_nil))) (pd_int)) (set_A hi.room.units) sd_rL3))) (pdss_nil))))
      (pdss_one (pds_ret (pd_callTy call_tuple_of cd_tuple (by rfl) nb.tuple_ (by decide +kernel) (pda_cons (pd_callB (cr_sortedA rfl hi.room.units) cd_sortedA (by rfl) nb.sorted (by decide +kernel) (pda_cons (pd_var (pv 1)) (pda_nil))) (pda_nil))))))
/-! ### holds_for -/
abbrev s_holds_for : Stmt := topS 18
abbrev N_holds_for : List Str := ["word", "sign"]
abbrev P_holds_for : List Str := ["word", "sign"]
theorem sc_holds_for : FnScope N_holds_for P_holds_for (defScope s_holds_for) := ⟨rfl, rfl, rfl, by decide +kernel, rfl, by decide +kernel, by decide +kernel⟩
theorem bd_holds_for {K : PySem.W.Frag} {f : Addr} {fd : FuncData} (F : FnP K "holds_for" "holds_for" s_holds_for f fd) : Binds K fd P_holds_for [] := FunD.bindsN F fun _ _ _ _ _ _ us hl => match us, hl with | [_, _], _ => rfl
noncomputable def r_holds_for  : DS := sSeq (sIf (dTest (dBin gEq (dVar 0) (dC (.str "less")))) (sRet (dBin gLt (dVar 1) (dC (.int 0)))) (sNext)) (sRet (dIf (dTest (dBin gEq (dVar 0) (dC (.str "is")))) (dBin gEq (dVar 1) (dC (.int 0))) (dBin gLe (dVar 1) (dC (.int 0)))))
theorem body_holds_for {W : Wd} {k : Nat}   : Body W k N_holds_for "holds_for" (defScope s_holds_for) (defBody s_holds_for) (r_holds_for ) := fun f cdv A outer s H E hi =>
  have nd := sc_holds_for.nd
  pdss_cons (pds_if (pdt_cmp (op_eqD hi.room.units) od_eq (pd_var (pv 0)) (pd_str) (nomark _)) (pdss_one (pds_ret (pd_cmp op_lt od_lt (pd_var (pv 1)) (pd_int) (nomark _)))) (pdss_nil))
      (pdss_one (pds_ret (pd_ifExp (pdt_cmp (op_eqD hi.room.units) od_eq (pd_var (pv 0)) (pd_str) (nomark _)) (pd_cmp (op_eqD hi.room.units) od_eq (pd_var (pv 1)) (pd_int) (nomark _)) (pd_cmp op_le od_le (pd_var (pv 1)) (pd_int) (nomark _)))))
/-! ### sign_by -/
abbrev s_sign_by : Stmt := topS 19
abbrev N_sign_by : List Str := ["f", "signs", "number", "one"]
abbrev P_sign_by : List Str := ["f", "signs"]
theorem sc_sign_by : FnScope N_sign_by P_sign_by (defScope s_sign_by) := ⟨rfl, rfl, rfl, by decide +kernel, rfl, by decide +kernel, by decide +kernel⟩
theorem bd_sign_by {K : PySem.W.Frag} {f : Addr} {fd : FuncData} (F : FnP K "sign_by" "sign_by" s_sign_by f fd) : Binds K fd P_sign_by [] := FunD.bindsN F fun _ _ _ _ _ _ us hl => match us, hl with | [_, _], _ => rfl
noncomputable def r_sign_by (sp_is_constant : DSp) (sp_sign_of : DSp) (sp_constant_of : DSp) (sp_primitive_of : DSp) : DS := sSeq (sIf (dTru (dCall sp_is_constant (aCons (dVar 0) (aNil)))) (sRet (dCall sp_sign_of (aCons (dCall sp_constant_of (aCons (dVar 0) (aNil))) (aNil)))) (sNext)) (sSeq (sAsg (dCall sp_primitive_of (aCons (dVar 0) (aNil))) (gUnp 2 (gsCons (gNm 2) (gsCons (gNm 3) (gsNil))))) (sRet (dBin gMulA (dCall sp_sign_of (aCons (dVar 2) (aNil))) (dBin gIxA (dVar 1) (dVar 3)))))
theorem body_sign_by {W : Wd} {k : Nat} {sp_is_constant : DSp} {sp_sign_of : DSp} {sp_constant_of : DSp} {sp_primitive_of : DSp} (f_is_constant : GFn W k "is_constant" P_is_constant sp_is_constant) (f_sign_of : GFn W k "sign_of" P_sign_of sp_sign_of) (f_constant_of : GFn W k "constant_of" P_constant_of sp_constant_of) (f_primitive_of : GFn W k "primitive_of" P_primitive_of sp_primitive_of) : Body W k N_sign_by "sign_by" (defScope s_sign_by) (defBody s_sign_by) (r_sign_by sp_is_constant sp_sign_of sp_constant_of sp_primitive_of) := fun f cdv A outer s H E hi =>
  have nd := sc_sign_by.nd
  pdss_cons (pds_if (pdt_tru (pd_call f_is_constant hi (by rfl) (pda_cons (pd_var (pv 0)) (pda_nil)))) (pdss_one (pds_ret (pd_call f_sign_of hi (by rfl) (pda_cons (pd_call f_constant_of hi (by rfl) (pda_cons (pd_var (pv 0)) (pda_nil))) (pda_nil))))) (pdss_nil))
      (pdss_cons (pds_asg (pd_call f_primitive_of hi (by rfl) (pda_cons (pd_var (pv 0)) (pda_nil))) (pdg_tup rfl (pdgs_cons (pdg_name (pg_name (i := 2) nd rfl (by first | exact .inl rfl | exact .inr rfl))) (pdgs_cons (pdg_name (pg_name (i := 3) nd rfl (by first | exact .inl rfl | exact .inr rfl))) (pdgs_nil)))))
      (pdss_one (pds_ret (pd_op op_mulA od_mulA (pd_call f_sign_of hi (by rfl) (pda_cons (pd_var (pv 2)) (pda_nil))) (pd_ixA hi.room.units (pd_var (pv 1)) (pd_var (pv 3)))))))
/-! ### joined_by -/
abbrev s_joined_by : Stmt := topS 20
abbrev N_joined_by : List Str := ["word", "truths"]
abbrev P_joined_by : List Str := ["word", "truths"]
theorem sc_joined_by : FnScope N_joined_by P_joined_by (defScope s_joined_by) := ⟨rfl, rfl, rfl, by decide +kernel, rfl, by decide +kernel, by decide +kernel⟩
theorem bd_joined_by {K : PySem.W.Frag} {f : Addr} {fd : FuncData} (F : FnP K "joined_by" "joined_by" s_joined_by f fd) : Binds K fd P_joined_by [] := FunD.bindsN F fun _ _ _ _ _ _ us hl => match us, hl with | [_, _], _ => rfl
noncomputable def r_joined_by  : DS := sSeq (sIf (dTest (dBin gEq (dVar 0) (dC (.str "and")))) (sRet (dCB gAllD (aCons (dVar 1) (aNil)))) (sNext)) (sRet (dIf (dTest (dBin gEq (dVar 0) (dC (.str "or")))) (dCB gAny (aCons (dVar 1) (aNil))) (dNotV (dBin gIxA (dVar 1) (dC (.int 0))))))
theorem body_joined_by {W : Wd} {k : Nat}  (nb : NB W) : Body W k N_joined_by "joined_by" (defScope s_joined_by) (defBody s_joined_by) (r_joined_by ) := fun f cdv A outer s H E hi =>
  have nd := sc_joined_by.nd
  pdss_cons (pds_if (pdt_cmp (op_eqD hi.room.units) od_eq (pd_var (pv 0)) (pd_str) (nomark _)) (pdss_one (pds_ret (pd_callB (cr_allD rfl) cd_allD (by rfl) nb.all (by decide +kernel) (pda_cons (pd_var (pv 1)) (pda_nil))))) (pdss_nil))
      (pdss_one (pds_ret (pd_ifExp (pdt_cmp (op_eqD hi.room.units) od_eq (pd_var (pv 0)) (pd_str) (nomark _)) (pd_callB (cr_anyD rfl) cd_any (by rfl) nb.any (by decide +kernel) (pda_cons (pd_var (pv 1)) (pda_nil))) (pd_not (pd_ixA hi.room.units (pd_var (pv 1)) (pd_int))))))
/-! ### holds_by -/
abbrev s_holds_by : Stmt := topS 21
abbrev N_holds_by : List Str := ["s", "signs", "one"]
abbrev P_holds_by : List Str := ["s", "signs"]
theorem sc_holds_by : FnScope N_holds_by P_holds_by (defScope s_holds_by) := ⟨rfl, rfl, rfl, by decide +kernel, rfl, by decide +kernel, by decide +kernel⟩
theorem bd_holds_by {K : PySem.W.Frag} {f : Addr} {fd : FuncData} (F : FnP K "holds_by" "holds_by" s_holds_by f fd) : Binds K fd P_holds_by [] := FunD.bindsN F fun _ _ _ _ _ _ us hl => match us, hl with | [_, _], _ => rfl
noncomputable def r_holds_by (sp_holds_for : DSp) (sp_sign_by : DSp) (sp_joined_by : DSp) (sp_parts_of : DSp) (sp_holds_by : DSp) : DS := sSeq (sIf (dTest (dBin (gInA false) (dBin gIxA (dVar 0) (dC (.int 0))) (dC c_ATOM_WORDS))) (sRet (dCall sp_holds_for (aCons (dBin gIxA (dVar 0) (dC (.int 0))) (aCons (dCall sp_sign_by (aCons (dBin gIxA (dVar 0) (dC (.int 1))) (aCons (dVar 1) (aNil)))) (aNil))))) (sNext)) (sSeq (sIf (dTest (dBin (gInA false) (dBin gIxA (dVar 0) (dC (.int 0))) (dTup (aCons (dC (.str "true")) (aCons (dC (.str "false")) (aNil)))))) (sRet (dBin gEq (dBin gIxA (dVar 0) (dC (.int 0))) (dC (.str "true")))) (sNext)) (sRet (dCall sp_joined_by (aCons (dBin gIxA (dVar 0) (dC (.int 0))) (aCons (dLc (iSeqA (dCall sp_parts_of (aCons (dVar 0) (aNil)))) (gNm 2) (tYesD) (dCall sp_holds_by (aCons (dVar 2) (aCons (dVar 1) (aNil)))) [2]) (aNil))))))
theorem body_holds_by {W : Wd} {k : Nat} {sp_holds_for : DSp} {sp_sign_by : DSp} {sp_joined_by : DSp} {sp_parts_of : DSp} {sp_holds_by : DSp} (f_holds_for : GFn W k "holds_for" P_holds_for sp_holds_for) (f_sign_by : GFn W k "sign_by" P_sign_by sp_sign_by) (f_joined_by : GFn W k "joined_by" P_joined_by sp_joined_by) (f_parts_of : GFn W k "parts_of" P_parts_of sp_parts_of) (f_holds_by : GFn W k "holds_by" P_holds_by sp_holds_by) (gc_ATOM_WORDS : GConst W "ATOM_WORDS" c_ATOM_WORDS) : Body W k N_holds_by "holds_by" (defScope s_holds_by) (defBody s_holds_by) (r_holds_by sp_holds_for sp_sign_by sp_joined_by sp_parts_of sp_holds_by) := fun f cdv A outer s H E hi =>
  have nd := sc_holds_by.nd
  pdss_cons (pds_if (pdt_cmp (op_inA hi.room.units2) od_rL2 (pd_ixA hi.room.units (pd_var (pv 0)) (pd_int)) ((gc_ATOM_WORDS.pd hi rfl)) (by rfl)) (pdss_one (pds_ret (pd_call f_holds_for hi (by rfl) (pda_cons (pd_ixA hi.room.units (pd_var (pv 0)) (pd_int)) (pda_cons (pd_call f_sign_by hi (by rfl) (pda_cons (pd_ixA hi.room.units (pd_var (pv 0)) (pd_int)) (pda_cons (pd_var (pv 1)) (pda_nil)))) (pda_nil)))))) (pdss_nil))
      (pdss_cons (pds_if (pdt_cmp (op_inA hi.room.units2) od_rL2 (pd_ixA hi.room.units (pd_var (pv 0)) (pd_int)) (pd_tup (pda_cons (pd_str) (pda_cons (pd_str) (pda_nil)))) (by rfl)) (pdss_one (pds_ret (pd_cmp (op_eqD hi.room.units) od_eq (pd_ixA hi.room.units (pd_var (pv 0)) (pd_int)) (pd_str) (nomark _)))) (pdss_nil))
      (pdss_one (pds_ret (pd_call f_joined_by hi (by rfl) (pda_cons (pd_ixA hi.room.units (pd_var (pv 0)) (pd_int)) (pda_cons (pd_lc rfl nd (pdi_seqA (pd_call f_parts_of hi (by rfl) (pda_cons (pd_var (pv 0)) (pda_nil)))) (blkOk_by (own := [("one", 2)]) (by first | (show blkC N_holds_by (defScope s_holds_by) _ _ = true; decide +kernel) | kernel_rfl)) (fun _ _ _ _ _ => pdg_name (pg_name (i := 2) nd rfl (by first | exact .inl rfl | exact .inr rfl))) (fun _ _ _ _ _ => pdts_nil) (fun _ _ _ _ _ => pd_call f_holds_by hi.blk (by rfl) (pda_cons (pd_var (pv 2)) (pda_cons (pd_var (pv 1)) (pda_nil)))) (by decide)) (pda_nil)))))))
/-! ### highest_powers -/
abbrev s_highest_powers : Stmt := topS 22
abbrev N_highest_powers : List Str := ["f", "place", "term"]
abbrev P_highest_powers : List Str := ["f"]
theorem sc_highest_powers : FnScope N_highest_powers P_highest_powers (defScope s_highest_powers) := ⟨rfl, rfl, rfl, by decide +kernel, rfl, by decide +kernel, by decide +kernel⟩
theorem bd_highest_powers {K : PySem.W.Frag} {f : Addr} {fd : FuncData} (F : FnP K "highest_powers" "highest_powers" s_highest_powers f fd) : Binds K fd P_highest_powers [] := FunD.bindsN F fun _ _ _ _ _ _ us hl => match us, hl with | [_], _ => rfl
noncomputable def r_highest_powers  : DS := sRet (dLc (iRange1 (aCons (dC (.int 3)) (aNil))) (gNm 1) (tYesD) (dCBK gMaxDef (aCons (dLc (iSeqA (dVar 0)) (gNm 2) (tYesD) (dBin gIxA (dBin gIxA (dVar 2) (dC (.int 0))) (dVar 1)) [2]) (aNil)) (aCons (dC (.int 0)) aNil)) [1])
theorem body_highest_powers {W : Wd} {k : Nat}  (nb : NB W) : Body W k N_highest_powers "highest_powers" (defScope s_highest_powers) (defBody s_highest_powers) (r_highest_powers ) := fun f cdv A outer s H E hi =>
  have nd := sc_highest_powers.nd
  pdss_one (pds_ret (pd_lc rfl nd (pdi_range1 (by rfl) nb.range (pda_cons (pd_int) (pda_nil))) (blkOk_by (own := [("place", 1)]) (by first | (show blkC N_highest_powers (defScope s_highest_powers) _ _ = true; decide +kernel) | kernel_rfl)) (fun _ _ _ _ _ => pdg_name (pg_name (i := 1) nd rfl (by first | exact .inl rfl | exact .inr rfl))) (fun _ _ _ _ _ => pdts_nil) (fun _ _ _ _ _ => pd_callBK (cr_maxDef rfl hi.blk.room.units) cd_maxDef (by rfl) nb.max (by rfl) (pda_cons (pd_lc rfl nd (pdi_seqA (pd_var (pv 0))) (blkOk_by (own := [("term", 2)]) (by first | (show blkC N_highest_powers (defScope s_highest_powers) _ _ = true; decide +kernel) | kernel_rfl)) (fun _ _ _ _ _ => pdg_name (pg_name (i := 2) nd rfl (by first | exact .inl rfl | exact .inr rfl))) (fun _ _ _ _ _ => pdts_nil) (fun _ _ _ _ _ => pd_ixA hi.blk.blk.room.units (pd_ixA hi.blk.blk.room.units (pd_var (pv 2)) (pd_int)) (pd_var (pv 1))) (by decide)) (pda_nil)) (pdk_cons (pd_int) pdk_nil)) (by decide)))
/-! ### powers_up_to -/
abbrev s_powers_up_to : Stmt := topS 23
abbrev N_powers_up_to : List Str := ["q", "many", "above", "below", "_", "power"]
abbrev P_powers_up_to : List Str := ["q", "many"]
theorem sc_powers_up_to : FnScope N_powers_up_to P_powers_up_to (defScope s_powers_up_to) := ⟨rfl, rfl, rfl, by decide +kernel, rfl, by decide +kernel, by decide +kernel⟩
theorem bd_powers_up_to {K : PySem.W.Frag} {f : Addr} {fd : FuncData} (F : FnP K "powers_up_to" "powers_up_to" s_powers_up_to f fd) : Binds K fd P_powers_up_to [] := FunD.bindsN F fun _ _ _ _ _ _ us hl => match us, hl with | [_, _], _ => rfl
noncomputable def r_powers_up_to  : DS := sSeq (sAsg (dTup (aCons (dLst (aCons (dC (.int 1)) (aNil))) (aCons (dLst (aCons (dC (.int 1)) (aNil))) (aNil)))) (gUnp 2 (gsCons (gNm 2) (gsCons (gNm 3) (gsNil))))) (sSeq (sFor (iRange1 (aCons (dVar 1) (aNil))) (gNm 4) (sSeq (sDrop (dBM isLst gAppend (dVar 2) (aCons (dBin gMulA (dBin gIxA (dVar 2) (dUn gNeg (dC (.int 1)))) (dBin gIxA (dVar 0) (dC (.int 0)))) (aNil)))) (sDrop (dBM isLst gAppend (dVar 3) (aCons (dBin gMulA (dBin gIxA (dVar 3) (dUn gNeg (dC (.int 1)))) (dBin gIxA (dVar 0) (dC (.int 1)))) (aNil)))))) (sRet (dLc (iRange1 (aCons (dBin gAdd (dVar 1) (dC (.int 1))) (aNil))) (gNm 5) (tYesD) (dBin gMulA (dBin gIxA (dVar 2) (dVar 5)) (dBin gIxA (dVar 3) (dBin gSubA (dVar 1) (dVar 5)))) [5])))
theorem body_powers_up_to {W : Wd} {k : Nat}  (nb : NB W) : Body W k N_powers_up_to "powers_up_to" (defScope s_powers_up_to) (defBody s_powers_up_to) (r_powers_up_to ) := fun f cdv A outer s H E hi =>
  have nd := sc_powers_up_to.nd
  pdss_cons (pds_asg (pd_tup (pda_cons (pd_lst (pda_cons (pd_int) (pda_nil))) (pda_cons (pd_lst (pda_cons (pd_int) (pda_nil))) (pda_nil)))) (pdg_tup rfl (pdgs_cons (pdg_name (pg_name (i := 2) nd rfl (by first | exact .inl rfl | exact .inr rfl))) (pdgs_cons (pdg_name (pg_name (i := 3) nd rfl (by first | exact .inl rfl | exact .inr rfl))) (pdgs_nil)))))
      (pdss_cons (pds_for PassesOwn.never rfl (pdi_range1 (by rfl) nb.range (pda_cons (pd_var (pv 1)) (pda_nil))) (pdg_name (pg_name (i := 4) nd rfl (by first | exact .inl rfl | exact .inr rfl))) (pdss_cons (pds_expr (pd_bm PySem.F.plainAttrs_list PySem.F.slot_list_append PySem.F.type_list_append mt_append md_append (pd_var (pv 2)) (pda_cons (pd_op op_mulA od_mulA (pd_ixA hi.room.units (pd_var (pv 2)) (pd_un un_neg ud_neg (pd_int))) (pd_ixA hi.room.units (pd_var (pv 0)) (pd_int))) (pda_nil))))
      (pdss_one (pds_expr (pd_bm PySem.F.plainAttrs_list PySem.F.slot_list_append PySem.F.type_list_append mt_append md_append (pd_var (pv 3)) (pda_cons (pd_op op_mulA od_mulA (pd_ixA hi.room.units (pd_var (pv 3)) (pd_un un_neg ud_neg (pd_int))) (pd_ixA hi.room.units (pd_var (pv 0)) (pd_int))) (pda_nil)))))))
      (pdss_one (pds_ret (pd_lc rfl nd (pdi_range1 (by rfl) nb.range (pda_cons (pd_op op_addA od_add (pd_var (pv 1)) (pd_int)) (pda_nil))) (blkOk_by (own := [("power", 5)]) (by first | (show blkC N_powers_up_to (defScope s_powers_up_to) _ _ = true; decide +kernel) | kernel_rfl)) (fun _ _ _ _ _ => pdg_name (pg_name (i := 5) nd rfl (by first | exact .inl rfl | exact .inr rfl))) (fun _ _ _ _ _ => pdts_nil) (fun _ _ _ _ _ => pd_op op_mulA od_mulA (pd_ixA hi.blk.room.units (pd_var (pv 2)) (pd_var (pv 5))) (pd_ixA hi.blk.room.units (pd_var (pv 3)) (pd_op op_subA od_subA (pd_var (pv 1)) (pd_var (pv 5))))) (by decide)))))
/-! ### sign_at_place -/
abbrev s_sign_at_place : Stmt := topS 24
abbrev N_sign_at_place : List Str := ["f", "place", "rows", "q", "many", "one", "i", "j", "k"]
abbrev P_sign_at_place : List Str := ["f", "place"]
theorem sc_sign_at_place : FnScope N_sign_at_place P_sign_at_place (defScope s_sign_at_place) := ⟨rfl, rfl, rfl, by decide +kernel, rfl, by decide +kernel, by decide +kernel⟩
theorem bd_sign_at_place {K : PySem.W.Frag} {f : Addr} {fd : FuncData} (F : FnP K "sign_at_place" "sign_at_place" s_sign_at_place f fd) : Binds K fd P_sign_at_place [] := FunD.bindsN F fun _ _ _ _ _ _ us hl => match us, hl with | [_, _], _ => rfl
noncomputable def r_sign_at_place (sp_highest_powers : DSp) (sp_powers_up_to : DSp) (sp_sign_of : DSp) : DS := sSeq (sAsg (dLc (iZipD (aCons (dVar 1) (aCons (dCall sp_highest_powers (aCons (dVar 0) (aNil))) (aNil)))) (gUnp 2 (gsCons (gNm 3) (gsCons (gNm 4) (gsNil)))) (tYesD) (dCall sp_powers_up_to (aCons (dVar 3) (aCons (dVar 4) (aNil)))) [3, 4]) (gNm 2)) (sRet (dCall sp_sign_of (aCons (dCB gSum (aCons (dLc (iSeqA (dVar 0)) (gUnp 2 (gsCons (gUnp 3 (gsCons (gNm 6) (gsCons (gNm 7) (gsCons (gNm 8) (gsNil))))) (gsCons (gNm 5) (gsNil)))) (tYesD) (dBin gMulA (dBin gMulA (dBin gMulA (dVar 5) (dBin gIxA (dBin gIxA (dVar 2) (dC (.int 0))) (dVar 6))) (dBin gIxA (dBin gIxA (dVar 2) (dC (.int 1))) (dVar 7))) (dBin gIxA (dBin gIxA (dVar 2) (dC (.int 2))) (dVar 8))) [5, 6, 7, 8]) (aNil))) (aNil))))
theorem body_sign_at_place {W : Wd} {k : Nat} {sp_highest_powers : DSp} {sp_powers_up_to : DSp} {sp_sign_of : DSp} (f_highest_powers : GFn W k "highest_powers" P_highest_powers sp_highest_powers) (f_powers_up_to : GFn W k "powers_up_to" P_powers_up_to sp_powers_up_to) (f_sign_of : GFn W k "sign_of" P_sign_of sp_sign_of) (nb : NB W) : Body W k N_sign_at_place "sign_at_place" (defScope s_sign_at_place) (defBody s_sign_at_place) (r_sign_at_place sp_highest_powers sp_powers_up_to sp_sign_of) := fun f cdv A outer s H E hi =>
  have nd := sc_sign_at_place.nd
  pdss_cons (pds_set (i := 2) nd rfl (by first | exact .inl rfl | exact .inr rfl) (pd_lc rfl nd (pdi_zip (by rfl) nb.zip (pda_cons (pd_var (pv 1)) (pda_cons (pd_call f_highest_powers hi (by rfl) (pda_cons (pd_var (pv 0)) (pda_nil))) (pda_nil)))) (blkOk_by (own := [("q", 3), ("many", 4)]) (by first | (show blkC N_sign_at_place (defScope s_sign_at_place) _ _ = true; decide +kernel) | kernel_rfl)) (fun _ _ _ _ _ => pdg_tup rfl (pdgs_cons (pdg_name (pg_name (i := 3) nd rfl (by first | exact .inl rfl | exact .inr rfl))) (pdgs_cons (pdg_name (pg_name (i := 4) nd rfl (by first | exact .inl rfl | exact .inr rfl))) (pdgs_nil)))) (fun _ _ _ _ _ => pdts_nil) (fun _ _ _ _ _ => pd_call f_powers_up_to hi.blk (by rfl) (pda_cons (pd_var (pv 3)) (pda_cons (pd_var (pv 4)) (pda_nil)))) (by decide)))
      (pdss_one (pds_ret (pd_call f_sign_of hi (by rfl) (pda_cons (pd_callB (cr_sum rfl) cd_sum (by rfl) nb.sum (by decide +kernel) (pda_cons (pd_lc rfl nd (pdi_seqA (pd_var (pv 0))) (blkOk_by (own := [("one", 5), ("i", 6), ("j", 7), ("k", 8)]) (by first | (show blkC N_sign_at_place (defScope s_sign_at_place) _ _ = true; decide +kernel) | kernel_rfl)) (fun _ _ _ _ _ => pdg_tup rfl (pdgs_cons (pdg_tup rfl (pdgs_cons (pdg_name (pg_name (i := 6) nd rfl (by first | exact .inl rfl | exact .inr rfl))) (pdgs_cons (pdg_name (pg_name (i := 7) nd rfl (by first | exact .inl rfl | exact .inr rfl))) (pdgs_cons (pdg_name (pg_name (i := 8) nd rfl (by first | exact .inl rfl | exact .inr rfl))) (pdgs_nil))))) (pdgs_cons (pdg_name (pg_name (i := 5) nd rfl (by first | exact .inl rfl | exact .inr rfl))) (pdgs_nil)))) (fun _ _ _ _ _ => pdts_nil) (fun _ _ _ _ _ => pd_op op_mulA od_mulA (pd_op op_mulA od_mulA (pd_op op_mulA od_mulA (pd_var (pv 5)) (pd_ixA hi.blk.room.units (pd_ixA hi.blk.room.units (pd_var (pv 2)) (pd_int)) (pd_var (pv 6)))) (pd_ixA hi.blk.room.units (pd_ixA hi.blk.room.units (pd_var (pv 2)) (pd_int)) (pd_var (pv 7)))) (pd_ixA hi.blk.room.units (pd_ixA hi.blk.room.units (pd_var (pv 2)) (pd_int)) (pd_var (pv 8)))) (by decide)) (pda_nil))) (pda_nil)))))
/-! ### holds_at -/
abbrev s_holds_at : Stmt := topS 25
abbrev N_holds_at : List Str := ["s", "place", "f"]
abbrev P_holds_at : List Str := ["s", "place"]
theorem sc_holds_at : FnScope N_holds_at P_holds_at (defScope s_holds_at) := ⟨rfl, rfl, rfl, by decide +kernel, rfl, by decide +kernel, by decide +kernel⟩
theorem bd_holds_at {K : PySem.W.Frag} {f : Addr} {fd : FuncData} (F : FnP K "holds_at" "holds_at" s_holds_at f fd) : Binds K fd P_holds_at [] := FunD.bindsN F fun _ _ _ _ _ _ us hl => match us, hl with | [_, _], _ => rfl
noncomputable def r_holds_at (sp_holds_by : DSp) (sp_polynomials_of : DSp) (sp_sign_at_place : DSp) : DS := sRet (dCall sp_holds_by (aCons (dVar 0) (aCons (dDc (iSeqA (dCall sp_polynomials_of (aCons (dVar 0) (aNil)))) (gNm 2) (tYesD) (dVar 2) (dCall sp_sign_at_place (aCons (dVar 2) (aCons (dVar 1) (aNil)))) [2]) (aNil))))
theorem body_holds_at {W : Wd} {k : Nat} {sp_holds_by : DSp} {sp_polynomials_of : DSp} {sp_sign_at_place : DSp} (f_holds_by : GFn W k "holds_by" P_holds_by sp_holds_by) (f_polynomials_of : GFn W k "polynomials_of" P_polynomials_of sp_polynomials_of) (f_sign_at_place : GFn W k "sign_at_place" P_sign_at_place sp_sign_at_place) : Body W k N_holds_at "holds_at" (defScope s_holds_at) (defBody s_holds_at) (r_holds_at sp_holds_by sp_polynomials_of sp_sign_at_place) := fun f cdv A outer s H E hi =>
  have nd := sc_holds_at.nd
  pdss_one (pds_ret (pd_call f_holds_by hi (by rfl) (pda_cons (pd_var (pv 0)) (pda_cons (pd_dc hi.room.units rfl nd (pdi_seqA (pd_call f_polynomials_of hi (by rfl) (pda_cons (pd_var (pv 0)) (pda_nil)))) (blkOk_by (own := [("f", 2)]) (by first | (show blkC N_holds_at (defScope s_holds_at) _ _ = true; decide +kernel) | kernel_rfl)) (fun _ _ _ _ _ => pdg_name (pg_name (i := 2) nd rfl (by first | exact .inl rfl | exact .inr rfl))) (fun _ _ _ _ _ => pdts_nil) (fun _ _ _ _ _ => pd_var (pv 2)) (fun _ _ _ _ _ => pd_call f_sign_at_place hi.blk (by rfl) (pda_cons (pd_var (pv 2)) (pda_cons (pd_var (pv 1)) (pda_nil)))) (by decide)) (pda_nil)))))
/-! ### _law_bag -/
abbrev s_l_bag : Stmt := topS 27
abbrev N_l_bag : List Str := ["script", "cells", "cell", "great"]
abbrev P_l_bag : List Str := ["script"]
theorem sc_l_bag : FnScope N_l_bag P_l_bag (defScope s_l_bag) := ⟨rfl, rfl, rfl, by decide +kernel, rfl, by decide +kernel, by decide +kernel⟩
theorem bd_l_bag {K : PySem.W.Frag} {f : Addr} {fd : FuncData} (F : FnP K "_law_bag" "_law_bag" s_l_bag f fd) : Binds K fd P_l_bag [] := FunD.bindsN F fun _ _ _ _ _ _ us hl => match us, hl with | [_], _ => rfl
noncomputable def r_l_bag  : DS := sSeq (sAsg (dBin gAdd (dLc (iSeq (dVar 0)) (gNm 2) (tYesD) (dCB gAbs (aCons (dCB gInt (aCons (dVar 2) (aNil))) (aNil))) [2]) (dLst (aCons (dC (.int 7)) (aNil)))) (gNm 1)) (sSeq (sAsg (dLst (aNil)) (gNm 3)) (sSeq (sIf (dTest (dBin gEq (dBin gMod (dCB gInt (aCons (dBin gIx (dVar 1) (dC (.int 0))) (aNil))) (dC (.int 2))) (dC (.int 0)))) (sSeq (sAsg (dLc (iSeq (dVar 1)) (gNm 2) (dTest (dBin gGe (dVar 2) (dBin gPow (dC (.int 10)) (dC (.int 18))))) (dBin gDiv (dVar 2) (dC (.int 2))) [2]) (gNm 3)) (sDrop (dBM0 isLst gReverse (dVar 3)))) (sNext)) (sRet (dLst (aCons (dC (.int 0)) (aCons (dC (.int 0)) (aCons (dVar 3) (aCons (dLc (iSeq (dVar 1)) (gNm 2) (tYesD) (dBin gMod (dCB gInt (aCons (dVar 2) (aNil))) (dC (.int 2147483647))) [2]) (aNil)))))))))
theorem body_l_bag {W : Wd} {k : Nat}  (nb : NB W) : Body W k N_l_bag "_law_bag" (defScope s_l_bag) (defBody s_l_bag) (r_l_bag ) := fun f cdv A outer s H E hi =>
  have nd := sc_l_bag.nd
  pdss_cons (pds_set (i := 1) nd rfl (by first | exact .inl rfl | exact .inr rfl) (pd_op op_addA od_add (pd_lc rfl nd (pdi_seq (pd_var (pv 0))) (blkOk_by (own := [("cell", 2)]) (by first | (show blkC N_l_bag (defScope s_l_bag) _ _ = true; decide +kernel) | kernel_rfl)) (fun _ _ _ _ _ => pdg_name (pg_name (i := 2) nd rfl (by first | exact .inl rfl | exact .inr rfl))) (fun _ _ _ _ _ => pdts_nil) (fun _ _ _ _ _ => pd_callB call_abs cd_abs (by rfl) nb.abs (by decide +kernel) (pda_cons (pd_callTy call_int1 cd_int (by rfl) nb.int_ (by decide +kernel) (pda_cons (pd_var (pv 2)) (pda_nil))) (pda_nil))) (by decide)) (pd_lst (pda_cons (pd_int) (pda_nil)))))
      (pdss_cons (pds_set (i := 3) nd rfl (by first | exact .inl rfl | exact .inr rfl) (pd_lst (pda_nil)))
      (pdss_cons (pds_if (pdt_cmp (op_eqD hi.room.units) od_eq (pd_op op_modN od_mod (pd_callTy call_int1 cd_int (by rfl) nb.int_ (by decide +kernel) (pda_cons (pd_ix (pd_var (pv 1)) (pd_int)) (pda_nil))) (pd_int)) (pd_int) (nomark _)) (pdss_cons (pds_setLc (i := 3) rfl nd rfl rfl (sw_true rfl rfl rfl (by decide +kernel)) (pdi_seq (pd_var (pv 1))) (blkOk_by (own := [("cell", 2)]) (by first | (show blkC N_l_bag (defScope s_l_bag) _ _ = true; decide +kernel) | kernel_rfl)) (fun _ _ _ _ _ => pdg_name (pg_name (i := 2) nd rfl (by first | exact .inl rfl | exact .inr rfl))) (fun _ _ _ _ _ => pdts_one (pdt_cmp op_ge od_ge (pd_var (pv 2)) (pd_op op_pow od_pow (pd_int) (pd_int)) (nomark _))) (fun _ _ _ _ _ => pd_op op_fdivG od_div (pd_var (pv 2)) (pd_int)) (by decide))
      (pdss_one (pds_expr (pd_bm0 PySem.F.plainAttrs_list PySem.F.slot_list_reverse PySem.F.type_list_reverse mt_reverse md_reverse (pd_var (pv 3)))))) (pdss_nil))
      (pdss_one (pds_ret (pd_lst (pda_cons (pd_int) (pda_cons (pd_int) (pda_cons (pd_var (pv 3)) (pda_cons (pd_lc rfl nd (pdi_seq (pd_var (pv 1))) (blkOk_by (own := [("cell", 2)]) (by first | (show blkC N_l_bag (defScope s_l_bag) _ _ = true; decide +kernel) | kernel_rfl)) (fun _ _ _ _ _ => pdg_name (pg_name (i := 2) nd rfl (by first | exact .inl rfl | exact .inr rfl))) (fun _ _ _ _ _ => pdts_nil) (fun _ _ _ _ _ => pd_op op_modN od_mod (pd_callTy call_int1 cd_int (by rfl) nb.int_ (by decide +kernel) (pda_cons (pd_var (pv 2)) (pda_nil))) (pd_int)) (by decide)) (pda_nil))))))))))
/-! ### _law_draw -/
abbrev s_l_draw : Stmt := topS 28
abbrev N_l_draw : List Str := ["bag", "many", "digit", "cell", "mixed"]
abbrev P_l_draw : List Str := ["bag", "many"]
theorem sc_l_draw : FnScope N_l_draw P_l_draw (defScope s_l_draw) := ⟨rfl, rfl, rfl, by decide +kernel, rfl, by decide +kernel, by decide +kernel⟩
theorem bd_l_draw {K : PySem.W.Frag} {f : Addr} {fd : FuncData} (F : FnP K "_law_draw" "_law_draw" s_l_draw f fd) : Binds K fd P_l_draw [] := FunD.bindsN F fun _ _ _ _ _ _ us hl => match us, hl with | [_, _], _ => rfl
noncomputable def r_l_draw  : DS := sSeq (sAsg (dBin gAdd (dBin gIx (dVar 0) (dC (.int 1))) (dC (.int 1))) (gSubD (dVar 0) (dC (.int 1)) gSetL)) (sSeq (sIf (dAnd (dTest (dBin gEq (dBin gIx (dVar 0) (dC (.int 0))) (dC (.int 0)))) (dTest (dBin gGt (dCB gLen (aCons (dBin gIx (dVar 0) (dC (.int 2))) (aNil))) (dC (.int 0))))) (sAsg (dBM0 isLst gPop (dBin gIx (dVar 0) (dC (.int 2)))) (gSubD (dVar 0) (dC (.int 0)) gSetL)) (sNext)) (sSeq (sIf (dTest (dBin gGt (dBin gIx (dVar 0) (dC (.int 0))) (dC (.int 0)))) (sSeq (sAsg (dBin gMod (dCB gInt (aCons (dBin gIx (dVar 0) (dC (.int 0))) (aNil))) (dVar 1)) (gNm 2)) (sSeq (sAsg (dBin gDiv (dBin gIx (dVar 0) (dC (.int 0))) (dVar 1)) (gSubD (dVar 0) (dC (.int 0)) gSetL)) (sRet (dVar 2)))) (sNext)) (sSeq (sAsg (dBin gIx (dBin gIx (dVar 0) (dC (.int 3))) (dBin gMod (dCB gInt (aCons (dBin gIx (dVar 0) (dC (.int 1))) (aNil))) (dCB gLen (aCons (dBin gIx (dVar 0) (dC (.int 3))) (aNil))))) (gNm 3)) (sSeq (sAsg (dBin gMod (dCB gInt (aCons (dBin gAdd (dBin gAdd (dBin gMul (dVar 3) (dC (.int 48271))) (dBin gMul (dBin gIx (dVar 0) (dC (.int 1))) (dC (.int 69621)))) (dC (.int 1))) (aNil))) (dC (.int 2147483647))) (gNm 4)) (sRet (dBin gMod (dBin gDiv (dBin gMod (dCB gInt (aCons (dBin gAdd (dBin gAdd (dBin gMul (dVar 4) (dVar 4)) (dBin gMul (dVar 4) (dC (.int 16807)))) (dBin gMul (dBin gIx (dVar 0) (dC (.int 1))) (dC (.int 40014)))) (aNil))) (dC (.int 2147483629))) (dC (.int 32))) (dVar 1)))))))
theorem body_l_draw {W : Wd} {k : Nat}  (nb : NB W) : Body W k N_l_draw "_law_draw" (defScope s_l_draw) (defBody s_l_draw) (r_l_draw ) := fun f cdv A outer s H E hi =>
  have nd := sc_l_draw.nd
  pdss_cons (pds_asg (pd_op op_addA od_add (pd_ix (pd_var (pv 0)) (pd_int)) (pd_int)) (pdg_sub (pd_var (pv 0)) (pd_int) set_list sd_lst))
      (pdss_cons (pds_if ((pdw_and (pdt_cmp (op_eqD hi.room.units) od_eq (pd_ix (pd_var (pv 0)) (pd_int)) (pd_int) (nomark _)) (pdw_and1 (pdt_cmp op_gt od_gt (pd_callB call_lenA cd_len (by rfl) nb.len (by decide +kernel) (pda_cons (pd_ix (pd_var (pv 0)) (pd_int)) (pda_nil))) (pd_int) (nomark _)))).pt) (pdss_one (pds_asg (pd_bm0 PySem.F.plainAttrs_list PySem.F.slot_list_pop PySem.F.type_list_pop mt_pop md_pop (pd_ix (pd_var (pv 0)) (pd_int))) (pdg_sub (pd_var (pv 0)) (pd_int) set_list sd_lst))) (pdss_nil))
      (pdss_cons (pds_if (pdt_cmp op_gt od_gt (pd_ix (pd_var (pv 0)) (pd_int)) (pd_int) (nomark _)) (pdss_cons (pds_set (i := 2) nd rfl (by first | exact .inl rfl | exact .inr rfl) (pd_op op_modN od_mod (pd_callTy call_int1 cd_int (by rfl) nb.int_ (by decide +kernel) (pda_cons (pd_ix (pd_var (pv 0)) (pd_int)) (pda_nil))) (pd_var (pv 1))))
      (pdss_cons (pds_asg (pd_op op_fdivG od_div (pd_ix (pd_var (pv 0)) (pd_int)) (pd_var (pv 1))) (pdg_sub (pd_var (pv 0)) (pd_int) set_list sd_lst))
      (pdss_one (pds_ret (pd_var (pv 2)))))) (pdss_nil))
      (pdss_cons (pds_set (i := 3) nd rfl (by first | exact .inl rfl | exact .inr rfl) (pd_ix (pd_ix (pd_var (pv 0)) (pd_int)) (pd_op op_modN od_mod (pd_callTy call_int1 cd_int (by rfl) nb.int_ (by decide +kernel) (pda_cons (pd_ix (pd_var (pv 0)) (pd_int)) (pda_nil))) (pd_callB call_lenA cd_len (by rfl) nb.len (by decide +kernel) (pda_cons (pd_ix (pd_var (pv 0)) (pd_int)) (pda_nil))))))
      (pdss_cons (pds_set (i := 4) nd rfl (by first | exact .inl rfl | exact .inr rfl) (pd_op op_modN od_mod (pd_callTy call_int1 cd_int (by rfl) nb.int_ (by decide +kernel) (pda_cons (pd_op op_addA od_add (pd_op op_addA od_add (pd_op op_mulG od_mul (pd_var (pv 3)) (pd_int)) (pd_op op_mulG od_mul (pd_ix (pd_var (pv 0)) (pd_int)) (pd_int))) (pd_int)) (pda_nil))) (pd_int)))
      (pdss_one (pds_ret (pd_op op_modN od_mod (pd_op op_fdivG od_div (pd_op op_modN od_mod (pd_callTy call_int1 cd_int (by rfl) nb.int_ (by decide +kernel) (pda_cons (pd_op op_addA od_add (pd_op op_addA od_add (pd_op op_mulG od_mul (pd_var (pv 4)) (pd_var (pv 4))) (pd_op op_mulG od_mul (pd_var (pv 4)) (pd_int))) (pd_op op_mulG od_mul (pd_ix (pd_var (pv 0)) (pd_int)) (pd_int))) (pda_nil))) (pd_int)) (pd_int)) (pd_var (pv 1)))))))))
/-! ### _law_pick -/
abbrev s_l_pick : Stmt := topS 29
abbrev N_l_pick : List Str := ["bag", "some"]
abbrev P_l_pick : List Str := ["bag", "some"]
theorem sc_l_pick : FnScope N_l_pick P_l_pick (defScope s_l_pick) := ⟨rfl, rfl, rfl, by decide +kernel, rfl, by decide +kernel, by decide +kernel⟩
theorem bd_l_pick {K : PySem.W.Frag} {f : Addr} {fd : FuncData} (F : FnP K "_law_pick" "_law_pick" s_l_pick f fd) : Binds K fd P_l_pick [] := FunD.bindsN F fun _ _ _ _ _ _ us hl => match us, hl with | [_, _], _ => rfl
noncomputable def r_l_pick (sp_l_draw : DSp) : DS := sRet (dBin gIx (dVar 1) (dCall sp_l_draw (aCons (dVar 0) (aCons (dCB gLen (aCons (dVar 1) (aNil))) (aNil)))))
theorem body_l_pick {W : Wd} {k : Nat} {sp_l_draw : DSp} (f_l_draw : GFn W k "_law_draw" P_l_draw sp_l_draw) (nb : NB W) : Body W k N_l_pick "_law_pick" (defScope s_l_pick) (defBody s_l_pick) (r_l_pick sp_l_draw) := fun f cdv A outer s H E hi =>
  have nd := sc_l_pick.nd
  pdss_one (pds_ret (pd_ix (pd_var (pv 1)) (pd_call f_l_draw hi (by rfl) (pda_cons (pd_var (pv 0)) (pda_cons (pd_callB call_lenA cd_len (by rfl) nb.len (by decide +kernel) (pda_cons (pd_var (pv 1)) (pda_nil))) (pda_nil))))))
/-! ### _law_some -/
abbrev s_l_some : Stmt := topS 30
abbrev N_l_some : List Str := ["bag", "things", "many", "left", "made", "k"]
abbrev P_l_some : List Str := ["bag", "things", "many"]
theorem sc_l_some : FnScope N_l_some P_l_some (defScope s_l_some) := ⟨rfl, rfl, rfl, by decide +kernel, rfl, by decide +kernel, by decide +kernel⟩
theorem bd_l_some {K : PySem.W.Frag} {f : Addr} {fd : FuncData} (F : FnP K "_law_some" "_law_some" s_l_some f fd) : Binds K fd P_l_some [] := FunD.bindsN F fun _ _ _ _ _ _ us hl => match us, hl with | [_, _, _], _ => rfl
noncomputable def r_l_some (sp_l_draw : DSp) : DS := sSeq (sAsg (dCB gListA (aCons (dVar 1) (aNil))) (gNm 3)) (sSeq (sAsg (dLst (aNil)) (gNm 4)) (sSeq (sFor (iRange1 (aCons (dVar 2) (aNil))) (gNm 5) (sDrop (dBM isLst gAppend (dVar 4) (aCons (dBM isLst gPopAt (dVar 3) (aCons (dCall sp_l_draw (aCons (dVar 0) (aCons (dCB gLen (aCons (dVar 3) (aNil))) (aNil)))) (aNil))) (aNil))))) (sRet (dVar 4))))
theorem body_l_some {W : Wd} {k : Nat} {sp_l_draw : DSp} (f_l_draw : GFn W k "_law_draw" P_l_draw sp_l_draw) (nb : NB W) : Body W k N_l_some "_law_some" (defScope s_l_some) (defBody s_l_some) (r_l_some sp_l_draw) := fun f cdv A outer s H E hi =>
  have nd := sc_l_some.nd
  pdss_cons (pds_set (i := 3) nd rfl (by first | exact .inl rfl | exact .inr rfl) (pd_callTy (cr_listA rfl) cd_listA (by rfl) nb.list_ (by decide +kernel) (pda_cons (pd_var (pv 1)) (pda_nil))))
      (pdss_cons (pds_set (i := 4) nd rfl (by first | exact .inl rfl | exact .inr rfl) (pd_lst (pda_nil)))
      (pdss_cons (pds_for PassesOwn.never rfl (pdi_range1 (by rfl) nb.range (pda_cons (pd_var (pv 2)) (pda_nil))) (pdg_name (pg_name (i := 5) nd rfl (by first | exact .inl rfl | exact .inr rfl))) (pdss_one (pds_expr (pd_bm PySem.F.plainAttrs_list PySem.F.slot_list_append PySem.F.type_list_append mt_append md_append (pd_var (pv 4)) (pda_cons (pd_bm PySem.F.plainAttrs_list PySem.F.slot_list_pop PySem.F.type_list_pop mt_popAt md_popAt (pd_var (pv 3)) (pda_cons (pd_call f_l_draw hi (by rfl) (pda_cons (pd_var (pv 0)) (pda_cons (pd_callB call_lenA cd_len (by rfl) nb.len (by decide +kernel) (pda_cons (pd_var (pv 3)) (pda_nil))) (pda_nil)))) (pda_nil))) (pda_nil))))))
      (pdss_one (pds_ret (pd_var (pv 4))))))
/-! ### _law_same -/
abbrev s_l_same : Stmt := topS 31
abbrev N_l_same : List Str := ["found", "due", "k"]
abbrev P_l_same : List Str := ["found", "due"]
theorem sc_l_same : FnScope N_l_same P_l_same (defScope s_l_same) := ⟨rfl, rfl, rfl, by decide +kernel, rfl, by decide +kernel, by decide +kernel⟩
theorem bd_l_same {K : PySem.W.Frag} {f : Addr} {fd : FuncData} (F : FnP K "_law_same" "_law_same" s_l_same f fd) : Binds K fd P_l_same [] := FunD.bindsN F fun _ _ _ _ _ _ us hl => match us, hl with | [_, _], _ => rfl
noncomputable def r_l_same (sp_l_same : DSp) : DS := sSeq (sIf (dTest (dBin gIsN (dVar 1) (dC .non))) (sRet (dBin gIsN (dVar 0) (dC .non))) (sNext)) (sSeq (sIf (dOr (dTru (dCB gIsi (aCons (dVar 1) (aCons (dC (.ty "bool")) (aNil))))) (dTru (dCB gIsi (aCons (dVar 0) (aCons (dC (.ty "bool")) (aNil)))))) (sRet (dAndV (dCB gIsi (aCons (dVar 1) (aCons (dC (.ty "bool")) (aNil)))) (dAndV (dCB gIsi (aCons (dVar 0) (aCons (dC (.ty "bool")) (aNil)))) (dBin gEq (dVar 0) (dVar 1))))) (sNext)) (sSeq (sIf (dTru (dCB gIsi (aCons (dVar 1) (aCons (dC (.ty "int")) (aNil))))) (sRet (dAndV (dCB gIsi (aCons (dVar 0) (aCons (dC (.ty "int")) (aNil)))) (dBin gEq (dVar 0) (dVar 1)))) (sNext)) (sSeq (sIf (dTru (dCB gIsi (aCons (dVar 1) (aCons (dC (.ty "str")) (aNil))))) (sRet (dAndV (dCB gIsi (aCons (dVar 0) (aCons (dC (.ty "str")) (aNil)))) (dBin gEq (dVar 0) (dVar 1)))) (sNext)) (sSeq (sIf (dOr (dNot (dTru (dCB gIsi (aCons (dVar 1) (aCons (dC (.ty "tuple")) (aNil)))))) (dOr (dNot (dTru (dCB gIsi (aCons (dVar 0) (aCons (dC (.ty "tuple")) (aNil)))))) (dTest (dBin gNe (dCB gLen (aCons (dVar 0) (aNil))) (dCB gLen (aCons (dVar 1) (aNil))))))) (sRet (dC (.bl false))) (sNext)) (sSeq (sFor (iRange1 (aCons (dCB gLen (aCons (dVar 1) (aNil))) (aNil))) (gNm 2) (sIf (dNot (dTru (dCall sp_l_same (aCons (dBin gIx (dVar 0) (dVar 2)) (aCons (dBin gIx (dVar 1) (dVar 2)) (aNil)))))) (sRet (dC (.bl false))) (sNext))) (sRet (dC (.bl true))))))))
theorem body_l_same {W : Wd} {k : Nat} {sp_l_same : DSp} (f_l_same : GFn W k "_law_same" P_l_same sp_l_same) (nb : NB W) : Body W k N_l_same "_law_same" (defScope s_l_same) (defBody s_l_same) (r_l_same sp_l_same) := fun f cdv A outer s H E hi =>
  have nd := sc_l_same.nd
  pdss_cons (pds_if (pdt_cmp op_isN od_isN (pd_var (pv 1)) (pd_non) (nomark _)) (pdss_one (pds_ret (pd_cmp op_isN od_isN (pd_var (pv 0)) (pd_non) (nomark _)))) (pdss_nil))
      (pdss_cons (pds_if ((pdw_or (pdt_tru (pd_callB call_isi cd_isi (by rfl) nb.isinstance (by decide +kernel) (pda_cons (pd_var (pv 1)) (pda_cons (pd_ty (by rfl) nb.bool_ (by decide +kernel)) (pda_nil))))) (pdw_or1 (pdt_tru (pd_callB call_isi cd_isi (by rfl) nb.isinstance (by decide +kernel) (pda_cons (pd_var (pv 0)) (pda_cons (pd_ty (by rfl) nb.bool_ (by decide +kernel)) (pda_nil))))))).pt) (pdss_one (pds_ret (pd_and (pd_callB call_isi cd_isi (by rfl) nb.isinstance (by decide +kernel) (pda_cons (pd_var (pv 1)) (pda_cons (pd_ty (by rfl) nb.bool_ (by decide +kernel)) (pda_nil)))) (pd_and (pd_callB call_isi cd_isi (by rfl) nb.isinstance (by decide +kernel) (pda_cons (pd_var (pv 0)) (pda_cons (pd_ty (by rfl) nb.bool_ (by decide +kernel)) (pda_nil)))) (pd_one (pd_cmp (op_eqD hi.room.units) od_eq (pd_var (pv 0)) (pd_var (pv 1)) (nomark _))))))) (pdss_nil))
      (pdss_cons (pds_if (pdt_tru (pd_callB call_isi cd_isi (by rfl) nb.isinstance (by decide +kernel) (pda_cons (pd_var (pv 1)) (pda_cons (pd_ty (by rfl) nb.int_ (by decide +kernel)) (pda_nil))))) (pdss_one (pds_ret (pd_and (pd_callB call_isi cd_isi (by rfl) nb.isinstance (by decide +kernel) (pda_cons (pd_var (pv 0)) (pda_cons (pd_ty (by rfl) nb.int_ (by decide +kernel)) (pda_nil)))) (pd_one (pd_cmp (op_eqD hi.room.units) od_eq (pd_var (pv 0)) (pd_var (pv 1)) (nomark _)))))) (pdss_nil))
      (pdss_cons (pds_if (pdt_tru (pd_callB call_isi cd_isi (by rfl) nb.isinstance (by decide +kernel) (pda_cons (pd_var (pv 1)) (pda_cons (pd_ty (by rfl) nb.str_ (by decide +kernel)) (pda_nil))))) (pdss_one (pds_ret (pd_and (pd_callB call_isi cd_isi (by rfl) nb.isinstance (by decide +kernel) (pda_cons (pd_var (pv 0)) (pda_cons (pd_ty (by rfl) nb.str_ (by decide +kernel)) (pda_nil)))) (pd_one (pd_cmp (op_eqD hi.room.units) od_eq (pd_var (pv 0)) (pd_var (pv 1)) (nomark _)))))) (pdss_nil))
      (pdss_cons (pds_if ((pdw_or (pdt_not (pdt_tru (pd_callB call_isi cd_isi (by rfl) nb.isinstance (by decide +kernel) (pda_cons (pd_var (pv 1)) (pda_cons (pd_ty (by rfl) nb.tuple_ (by decide +kernel)) (pda_nil)))))) (pdw_or (pdt_not (pdt_tru (pd_callB call_isi cd_isi (by rfl) nb.isinstance (by decide +kernel) (pda_cons (pd_var (pv 0)) (pda_cons (pd_ty (by rfl) nb.tuple_ (by decide +kernel)) (pda_nil)))))) (pdw_or1 (pdt_cmp (op_neD hi.room.units) od_ne (pd_callB call_lenA cd_len (by rfl) nb.len (by decide +kernel) (pda_cons (pd_var (pv 0)) (pda_nil))) (pd_callB call_lenA cd_len (by rfl) nb.len (by decide +kernel) (pda_cons (pd_var (pv 1)) (pda_nil))) (nomark _))))).pt) (pdss_one (pds_ret (pd_bl))) (pdss_nil))
      (pdss_cons (pds_for PassesOwn.never rfl (pdi_range1 (by rfl) nb.range (pda_cons (pd_callB call_lenA cd_len (by rfl) nb.len (by decide +kernel) (pda_cons (pd_var (pv 1)) (pda_nil))) (pda_nil))) (pdg_name (pg_name (i := 2) nd rfl (by first | exact .inl rfl | exact .inr rfl))) (pdss_one (pds_if (pdt_not (pdt_tru (pd_call f_l_same hi (by rfl) (pda_cons (pd_ix (pd_var (pv 0)) (pd_var (pv 2))) (pda_cons (pd_ix (pd_var (pv 1)) (pd_var (pv 2))) (pda_nil)))))) (pdss_one (pds_ret (pd_bl))) (pdss_nil))))
      (pdss_one (pds_ret (pd_bl))))))))
/-! ### _law_gcd -/
abbrev s_l_gcd : Stmt := topS 32
abbrev N_l_gcd : List Str := ["a", "b", "k"]
abbrev P_l_gcd : List Str := ["a", "b"]
theorem sc_l_gcd : FnScope N_l_gcd P_l_gcd (defScope s_l_gcd) := ⟨rfl, rfl, rfl, by decide +kernel, rfl, by decide +kernel, by decide +kernel⟩
theorem bd_l_gcd {K : PySem.W.Frag} {f : Addr} {fd : FuncData} (F : FnP K "_law_gcd" "_law_gcd" s_l_gcd f fd) : Binds K fd P_l_gcd [] := FunD.bindsN F fun _ _ _ _ _ _ us hl => match us, hl with | [_, _], _ => rfl
noncomputable def r_l_gcd  : DS := sSeq (sPar 0 1 (aCons (dCB gAbs (aCons (dVar 0) (aNil))) (aCons (dCB gAbs (aCons (dVar 1) (aNil))) (aNil)))) (sSeq (sFor (iRange1 (aCons (dC (.int 6000)) (aNil))) (gNm 2) (sSeq (sIf (dTest (dBin gEq (dVar 1) (dC (.int 0)))) (sRet (dVar 0)) (sNext)) (sPar 0 1 (aCons (dVar 1) (aCons (dBin gMod (dCB gInt (aCons (dVar 0) (aNil))) (dVar 1)) (aNil)))))) (sRet (dVar 0)))
theorem body_l_gcd {W : Wd} {k : Nat}  (nb : NB W) : Body W k N_l_gcd "_law_gcd" (defScope s_l_gcd) (defBody s_l_gcd) (r_l_gcd ) := fun f cdv A outer s H E hi =>
  have nd := sc_l_gcd.nd
  pdss_cons (pds_par (i := 0) (j := 1) rfl nd rfl rfl (by decide) rfl rfl (pda_cons (pd_callB call_abs cd_abs (by rfl) nb.abs (by decide +kernel) (pda_cons (pd_var (pv 0)) (pda_nil))) (pda_cons (pd_callB call_abs cd_abs (by rfl) nb.abs (by decide +kernel) (pda_cons (pd_var (pv 1)) (pda_nil))) (pda_nil))))
      (pdss_cons (pds_for PassesOwn.never rfl (pdi_range1 (by rfl) nb.range (pda_cons (pd_int) (pda_nil))) (pdg_name (pg_name (i := 2) nd rfl (by first | exact .inl rfl | exact .inr rfl))) (pdss_cons (pds_if (pdt_cmp (op_eqD hi.room.units) od_eq (pd_var (pv 1)) (pd_int) (nomark _)) (pdss_one (pds_ret (pd_var (pv 0)))) (pdss_nil))
      (pdss_one (pds_par (i := 0) (j := 1) rfl nd rfl rfl (by decide) rfl rfl (pda_cons (pd_var (pv 1)) (pda_cons (pd_op op_modN od_mod (pd_callTy call_int1 cd_int (by rfl) nb.int_ (by decide +kernel) (pda_cons (pd_var (pv 0)) (pda_nil))) (pd_var (pv 1))) (pda_nil)))))))
      (pdss_one (pds_ret (pd_var (pv 0)))))
/-! ### _law_fr -/
abbrev s_l_fr : Stmt := topS 33
abbrev N_l_fr : List Str := ["a", "b", "by"]
abbrev P_l_fr : List Str := ["a", "b"]
theorem sc_l_fr : FnScope N_l_fr P_l_fr (defScope s_l_fr) := ⟨rfl, rfl, rfl, by decide +kernel, rfl, by decide +kernel, by decide +kernel⟩
theorem bd_l_fr {K : PySem.W.Frag} {f : Addr} {fd : FuncData} (F : FnP K "_law_fr" "_law_fr" s_l_fr f fd) : Binds K fd P_l_fr [] := FunD.bindsN F fun _ _ _ _ _ _ us hl => match us, hl with | [_, _], _ => rfl
noncomputable def r_l_fr (sp_l_gcd : DSp) : DS := sSeq (sAsg (dCall sp_l_gcd (aCons (dVar 0) (aCons (dVar 1) (aNil)))) (gNm 2)) (sSeq (sIf (dTest (dBin gLt (dVar 1) (dC (.int 0)))) (sAsg (dBin gSubA (dC (.int 0)) (dVar 2)) (gNm 2)) (sNext)) (sRet (dIf (dTest (dBin gNe (dVar 2) (dC (.int 0)))) (dTup (aCons (dBin gDiv (dVar 0) (dVar 2)) (aCons (dBin gDiv (dVar 1) (dVar 2)) (aNil)))) (dTup (aCons (dC (.int 0)) (aCons (dC (.int 1)) (aNil)))))))
theorem body_l_fr {W : Wd} {k : Nat} {sp_l_gcd : DSp} (f_l_gcd : GFn W k "_law_gcd" P_l_gcd sp_l_gcd) : Body W k N_l_fr "_law_fr" (defScope s_l_fr) (defBody s_l_fr) (r_l_fr sp_l_gcd) := fun f cdv A outer s H E hi =>
  have nd := sc_l_fr.nd
  pdss_cons (pds_set (i := 2) nd rfl (by first | exact .inl rfl | exact .inr rfl) (pd_call f_l_gcd hi (by rfl) (pda_cons (pd_var (pv 0)) (pda_cons (pd_var (pv 1)) (pda_nil)))))
      (pdss_cons (pds_if (pdt_cmp op_lt od_lt (pd_var (pv 1)) (pd_int) (nomark _)) (pdss_one (pds_set (i := 2) nd rfl (by first | exact .inl rfl | exact .inr rfl) (pd_op op_subA od_subA (pd_int) (pd_var (pv 2))))) (pdss_nil))
      (pdss_one (pds_ret (pd_ifExp (pdt_cmp (op_neD hi.room.units) od_ne (pd_var (pv 2)) (pd_int) (nomark _)) (pd_tup (pda_cons (pd_op op_fdivG od_div (pd_var (pv 0)) (pd_var (pv 2))) (pda_cons (pd_op op_fdivG od_div (pd_var (pv 1)) (pd_var (pv 2))) (pda_nil)))) (pd_tup (pda_cons (pd_int) (pda_cons (pd_int) (pda_nil))))))))
/-! ### _law_add -/
abbrev s_l_add : Stmt := topS 34
abbrev N_l_add : List Str := ["a", "b"]
abbrev P_l_add : List Str := ["a", "b"]
theorem sc_l_add : FnScope N_l_add P_l_add (defScope s_l_add) := ⟨rfl, rfl, rfl, by decide +kernel, rfl, by decide +kernel, by decide +kernel⟩
theorem bd_l_add {K : PySem.W.Frag} {f : Addr} {fd : FuncData} (F : FnP K "_law_add" "_law_add" s_l_add f fd) : Binds K fd P_l_add [] := FunD.bindsN F fun _ _ _ _ _ _ us hl => match us, hl with | [_, _], _ => rfl
noncomputable def r_l_add (sp_l_fr : DSp) : DS := sRet (dCall sp_l_fr (aCons (dBin gAdd (dBin gMulA (dBin gIxA (dVar 0) (dC (.int 0))) (dBin gIxA (dVar 1) (dC (.int 1)))) (dBin gMulA (dBin gIxA (dVar 1) (dC (.int 0))) (dBin gIxA (dVar 0) (dC (.int 1))))) (aCons (dBin gMulA (dBin gIxA (dVar 0) (dC (.int 1))) (dBin gIxA (dVar 1) (dC (.int 1)))) (aNil))))
theorem body_l_add {W : Wd} {k : Nat} {sp_l_fr : DSp} (f_l_fr : GFn W k "_law_fr" P_l_fr sp_l_fr) : Body W k N_l_add "_law_add" (defScope s_l_add) (defBody s_l_add) (r_l_add sp_l_fr) := fun f cdv A outer s H E hi =>
  have nd := sc_l_add.nd
  pdss_one (pds_ret (pd_call f_l_fr hi (by rfl) (pda_cons (pd_op op_addA od_add (pd_op op_mulA od_mulA (pd_ixA hi.room.units (pd_var (pv 0)) (pd_int)) (pd_ixA hi.room.units (pd_var (pv 1)) (pd_int))) (pd_op op_mulA od_mulA (pd_ixA hi.room.units (pd_var (pv 1)) (pd_int)) (pd_ixA hi.room.units (pd_var (pv 0)) (pd_int)))) (pda_cons (pd_op op_mulA od_mulA (pd_ixA hi.room.units (pd_var (pv 0)) (pd_int)) (pd_ixA hi.room.units (pd_var (pv 1)) (pd_int))) (pda_nil)))))
/-! ### _law_mul -/
abbrev s_l_mul : Stmt := topS 35
abbrev N_l_mul : List Str := ["a", "b"]
abbrev P_l_mul : List Str := ["a", "b"]
theorem sc_l_mul : FnScope N_l_mul P_l_mul (defScope s_l_mul) := ⟨rfl, rfl, rfl, by decide +kernel, rfl, by decide +kernel, by decide +kernel⟩
theorem bd_l_mul {K : PySem.W.Frag} {f : Addr} {fd : FuncData} (F : FnP K "_law_mul" "_law_mul" s_l_mul f fd) : Binds K fd P_l_mul [] := FunD.bindsN F fun _ _ _ _ _ _ us hl => match us, hl with | [_, _], _ => rfl
noncomputable def r_l_mul (sp_l_fr : DSp) : DS := sRet (dCall sp_l_fr (aCons (dBin gMulA (dBin gIxA (dVar 0) (dC (.int 0))) (dBin gIxA (dVar 1) (dC (.int 0)))) (aCons (dBin gMulA (dBin gIxA (dVar 0) (dC (.int 1))) (dBin gIxA (dVar 1) (dC (.int 1)))) (aNil))))
theorem body_l_mul {W : Wd} {k : Nat} {sp_l_fr : DSp} (f_l_fr : GFn W k "_law_fr" P_l_fr sp_l_fr) : Body W k N_l_mul "_law_mul" (defScope s_l_mul) (defBody s_l_mul) (r_l_mul sp_l_fr) := fun f cdv A outer s H E hi =>
  have nd := sc_l_mul.nd
  pdss_one (pds_ret (pd_call f_l_fr hi (by rfl) (pda_cons (pd_op op_mulA od_mulA (pd_ixA hi.room.units (pd_var (pv 0)) (pd_int)) (pd_ixA hi.room.units (pd_var (pv 1)) (pd_int))) (pda_cons (pd_op op_mulA od_mulA (pd_ixA hi.room.units (pd_var (pv 0)) (pd_int)) (pd_ixA hi.room.units (pd_var (pv 1)) (pd_int))) (pda_nil)))))
/-! ### _law_content -/
abbrev s_l_content : Stmt := topS 36
abbrev N_l_content : List Str := ["p", "by", "c"]
abbrev P_l_content : List Str := ["p"]
theorem sc_l_content : FnScope N_l_content P_l_content (defScope s_l_content) := ⟨rfl, rfl, rfl, by decide +kernel, rfl, by decide +kernel, by decide +kernel⟩
theorem bd_l_content {K : PySem.W.Frag} {f : Addr} {fd : FuncData} (F : FnP K "_law_content" "_law_content" s_l_content f fd) : Binds K fd P_l_content [] := FunD.bindsN F fun _ _ _ _ _ _ us hl => match us, hl with | [_], _ => rfl
noncomputable def r_l_content (sp_l_gcd : DSp) : DS := sSeq (sAsg (dC (.int 0)) (gNm 1)) (sSeq (sFor (iSeqA (dVar 0)) (gNm 2) (sAsg (dCall sp_l_gcd (aCons (dVar 1) (aCons (dVar 2) (aNil)))) (gNm 1))) (sRet (dVar 1)))
theorem body_l_content {W : Wd} {k : Nat} {sp_l_gcd : DSp} (f_l_gcd : GFn W k "_law_gcd" P_l_gcd sp_l_gcd) : Body W k N_l_content "_law_content" (defScope s_l_content) (defBody s_l_content) (r_l_content sp_l_gcd) := fun f cdv A outer s H E hi =>
  have nd := sc_l_content.nd
  pdss_cons (pds_set (i := 1) nd rfl (by first | exact .inl rfl | exact .inr rfl) (pd_int))
      (pdss_cons (pds_for PassesOwn.never rfl (pdi_seqA (pd_var (pv 0))) (pdg_name (pg_name (i := 2) nd rfl (by first | exact .inl rfl | exact .inr rfl))) (pdss_one (pds_set (i := 1) nd rfl (by first | exact .inl rfl | exact .inr rfl) (pd_call f_l_gcd hi (by rfl) (pda_cons (pd_var (pv 1)) (pda_cons (pd_var (pv 2)) (pda_nil)))))))
      (pdss_one (pds_ret (pd_var (pv 1)))))
/-! ### _law_polynomial -/
abbrev s_l_polynomial : Stmt := topS 37
abbrev N_l_polynomial : List Str := ["bag", "names", "wide", "found", "k", "powers", "name"]
abbrev P_l_polynomial : List Str := ["bag", "names", "wide"]
theorem sc_l_polynomial : FnScope N_l_polynomial P_l_polynomial (defScope s_l_polynomial) := ⟨rfl, rfl, rfl, by decide +kernel, rfl, by decide +kernel, by decide +kernel⟩
theorem bd_l_polynomial {K : PySem.W.Frag} {f : Addr} {fd : FuncData} (F : FnP K "_law_polynomial" "_law_polynomial" s_l_polynomial f fd) : Binds K fd P_l_polynomial [] := FunD.bindsN F fun _ _ _ _ _ _ us hl => match us, hl with | [_, _, _], _ => rfl
noncomputable def r_l_polynomial (sp_l_pick : DSp) (sp_l_draw : DSp) : DS := sSeq (sAsg (dDict0) (gNm 3)) (sSeq (sFor (iRange1 (aCons (dCall sp_l_pick (aCons (dVar 0) (aCons (dLst (aCons (dC (.int 0)) (aCons (dC (.int 1)) (aCons (dC (.int 2)) (aCons (dC (.int 2)) (aCons (dC (.int 3)) (aCons (dC (.int 4)) (aNil)))))))) (aNil)))) (aNil))) (gNm 4) (sSeq (sAsg (dCB gTuple (aCons (dLc (iSeqA (dTup (aCons (dC (.str "x")) (aCons (dC (.str "y")) (aCons (dC (.str "z")) (aNil)))))) (gNm 6) (tYesD) (dIf (dTest (dBin (gInA false) (dVar 6) (dVar 1))) (dCall sp_l_pick (aCons (dVar 0) (aCons (dLst (aCons (dC (.int 0)) (aCons (dC (.int 0)) (aCons (dC (.int 1)) (aCons (dC (.int 1)) (aCons (dC (.int 2)) (aCons (dC (.int 3)) (aNil)))))))) (aNil)))) (dC (.int 0))) [6]) (aNil))) (gNm 5)) (sAsg (dCall sp_l_pick (aCons (dVar 0) (aCons (dLst (aCons (dC (.int 1)) (aCons (dUn gNeg (dC (.int 1))) (aCons (dC (.int 2)) (aCons (dUn gNeg (dC (.int 3))) (aCons (dBin gSubA (dCall sp_l_draw (aCons (dVar 0) (aCons (dBin gAdd (dBin gMulA (dC (.int 2)) (dVar 2)) (dC (.int 1))) (aNil)))) (dVar 2)) (aNil))))))) (aNil)))) (gSubD (dVar 3) (dVar 5) gSetA)))) (sRet (dCB gTupP (aCons (dCB gSortedA (aCons (dLock (dLc (iSeqA (dVar 3)) (gNm 5) (dTest (dBin gNe (dBin gIxA (dVar 3) (dVar 5)) (dC (.int 0)))) (dTup (aCons (dVar 5) (aCons (dBin gIxA (dVar 3) (dVar 5)) (aNil)))) [5])) (aNil))) (aNil)))))
theorem body_l_polynomial {W : Wd} {k : Nat} {sp_l_pick : DSp} {sp_l_draw : DSp} (f_l_pick : GFn W k "_law_pick" P_l_pick sp_l_pick) (f_l_draw : GFn W k "_law_draw" P_l_draw sp_l_draw) (nb : NB W) : Body W k N_l_polynomial "_law_polynomial" (defScope s_l_polynomial) (defBody s_l_polynomial) (r_l_polynomial sp_l_pick sp_l_draw) := fun f cdv A outer s H E hi =>
  have nd := sc_l_polynomial.nd
  pdss_cons (pds_set (i := 3) nd rfl (by first | exact .inl rfl | exact .inr rfl) (pd_dict0))
      (pdss_cons (pds_for PassesOwn.never rfl (pdi_range1 (by rfl) nb.range (pda_cons (pd_call f_l_pick hi (by rfl) (pda_cons (pd_var (pv 0)) (pda_cons (pd_lst (pda_cons (pd_int) (pda_cons (pd_int) (pda_cons (pd_int) (pda_cons (pd_int) (pda_cons (pd_int) (pda_cons (pd_int) (pda_nil)))))))) (pda_nil)))) (pda_nil))) (pdg_name (pg_name (i := 4) nd rfl (by first | exact .inl rfl | exact .inr rfl))) (pdss_cons (pds_set (i := 5) nd rfl (by first | exact .inl rfl | exact .inr rfl) (pd_callTy call_tuple_of cd_tuple (by rfl) nb.tuple_ (by decide +kernel) (pda_cons (pd_lc rfl nd (pdi_seqA (pd_tup (pda_cons (pd_str) (pda_cons (pd_str) (pda_cons (pd_str) (pda_nil)))))) (blkOk_by (own := [("name", 6)]) (by first | (show blkC N_l_polynomial (defScope s_l_polynomial) _ _ = true; decide +kernel) | kernel_rfl)) (fun _ _ _ _ _ => pdg_name (pg_name (i := 6) nd rfl (by first | exact .inl rfl | exact .inr rfl))) (fun _ _ _ _ _ => pdts_nil) (fun _ _ _ _ _ => pd_ifExp (pdt_cmp (op_inA hi.blk.room.units2) od_rL2 (pd_var (pv 6)) (pd_var (pv 1)) (by rfl)) (pd_call f_l_pick hi.blk (by rfl) (pda_cons (pd_var (pv 0)) (pda_cons (pd_lst (pda_cons (pd_int) (pda_cons (pd_int) (pda_cons (pd_int) (pda_cons (pd_int) (pda_cons (pd_int) (pda_cons (pd_int) (pda_nil)))))))) (pda_nil)))) (pd_int)) (by decide)) (pda_nil))))
      (pdss_one (pds_asg (pd_call f_l_pick hi (by rfl) (pda_cons (pd_var (pv 0)) (pda_cons (pd_lst (pda_cons (pd_int) (pda_cons (pd_un un_neg ud_neg (pd_int)) (pda_cons (pd_int) (pda_cons (pd_un un_neg ud_neg (pd_int)) (pda_cons (pd_op op_subA od_subA (pd_call f_l_draw hi (by rfl) (pda_cons (pd_var (pv 0)) (pda_cons (pd_op op_addA od_add (pd_op op_mulA od_mulA (pd_int) (pd_var (pv 2))) (pd_int)) (pda_nil)))) (pd_var (pv 2))) (pda_nil))))))) (pda_nil)))) (pdg_sub (pd_var (pv 3)) (pd_var (pv 5)) (set_A hi.room.units) sd_rL3)))))
      (pdss_one (pds_ret (pd_callTy cr_tupP cd_tupP (by rfl) nb.tuple_ (by decide +kernel) (pda_cons (pd_callB (cr_sortedA rfl hi.room.units) cd_sortedA (by rfl) nb.sorted (by decide +kernel) (pda_cons (pd_lock (pd_lc rfl nd (pdi_seqA (pd_var (pv 3))) (blkOk_by (own := [("powers", 5)]) (by first | (show blkC N_l_polynomial (defScope s_l_polynomial) _ _ = true; decide +kernel) | kernel_rfl)) (fun _ _ _ _ _ => pdg_name (pg_name (i := 5) nd rfl (by first | exact .inl rfl | exact .inr rfl))) (fun _ _ _ _ _ => pdts_one (pdt_cmp (op_neD hi.blk.room.units) od_ne (pd_ixA hi.blk.room.units (pd_var (pv 3)) (pd_var (pv 5))) (pd_int) (nomark _))) (fun _ _ _ _ _ => pd_tup (pda_cons (pd_var (pv 5)) (pda_cons (pd_ixA hi.blk.room.units (pd_var (pv 3)) (pd_var (pv 5))) (pda_nil)))) (by decide))) (pda_nil))) (pda_nil))))))
/-! ### _law_sentence -/
abbrev s_l_sentence : Stmt := topS 38
abbrev N_l_sentence : List Str := ["bag", "open_names", "bound", "levels", "wide", "kind", "k", "many", "parts"]
abbrev P_l_sentence : List Str := ["bag", "open_names", "bound", "levels", "wide"]
theorem sc_l_sentence : FnScope N_l_sentence P_l_sentence (defScope s_l_sentence) := ⟨rfl, rfl, rfl, by decide +kernel, rfl, by decide +kernel, by decide +kernel⟩
theorem bd_l_sentence {K : PySem.W.Frag} {f : Addr} {fd : FuncData} (F : FnP K "_law_sentence" "_law_sentence" s_l_sentence f fd) : Binds K fd P_l_sentence [] := FunD.bindsN F fun _ _ _ _ _ _ us hl => match us, hl with | [_, _, _, _, _], _ => rfl
noncomputable def r_l_sentence (sp_l_draw : DSp) (sp_l_pick : DSp) (sp_l_sentence : DSp) (sp_l_polynomial : DSp) : DS := sSeq (sAsg (dIf (dTest (dBin gGt (dVar 3) (dC (.int 1)))) (dCall sp_l_draw (aCons (dVar 0) (aCons (dC (.int 9)) (aNil)))) (dCall sp_l_draw (aCons (dVar 0) (aCons (dC (.int 4)) (aNil))))) (gNm 5)) (sSeq (sIf (dAnd (dTest (dBin gEq (dVar 5) (dC (.int 8)))) (dTest (dBin gNe (dVar 2) (dLst (aNil))))) (sRet (dTup (aCons (dCall sp_l_pick (aCons (dVar 0) (aCons (dLst (aCons (dC (.str "some")) (aCons (dC (.str "all")) (aNil)))) (aNil)))) (aCons (dBin gIxA (dVar 2) (dC (.int 0))) (aCons (dCall sp_l_sentence (aCons (dVar 0) (aCons (dBin gAdd (dVar 1) (dSl (dVar 2) (oNone) (oSome (dC (.int 1))))) (aCons (dSl (dVar 2) (oSome (dC (.int 1))) (oNone)) (aCons (dBin gSubA (dVar 3) (dC (.int 1))) (aCons (dVar 4) (aNil))))))) (aNil)))))) (sNext)) (sSeq (sIf (dOr (dTest (dBin gEq (dVar 5) (dC (.int 7)))) (dTest (dBin gEq (dVar 5) (dC (.int 8))))) (sRet (dTup (aCons (dC (.str "not")) (aCons (dCall sp_l_sentence (aCons (dVar 0) (aCons (dVar 1) (aCons (dVar 2) (aCons (dBin gSubA (dVar 3) (dC (.int 1))) (aCons (dVar 4) (aNil))))))) (aNil))))) (sNext)) (sSeq (sIf (dTest (dBin gGt (dVar 5) (dC (.int 3)))) (sSeq (sPar 7 8 (aCons (dCall sp_l_pick (aCons (dVar 0) (aCons (dLst (aCons (dC (.int 2)) (aCons (dC (.int 2)) (aCons (dC (.int 3)) (aCons (dC (.int 4)) (aNil)))))) (aNil)))) (aCons (dLst (aNil)) (aNil)))) (sSeq (sFor (iRange1 (aCons (dVar 7) (aNil))) (gNm 6) (sDrop (dBM isLst gAppend (dVar 8) (aCons (dCall sp_l_sentence (aCons (dVar 0) (aCons (dVar 1) (aCons (dIf (dTest (dBin gEq (dVar 6) (dC (.int 0)))) (dVar 2) (dLst (aNil))) (aCons (dBin gSubA (dVar 3) (dC (.int 1))) (aCons (dVar 4) (aNil))))))) (aNil))))) (sRet (dBin gAdd (dTup (aCons (dCall sp_l_pick (aCons (dVar 0) (aCons (dLst (aCons (dC (.str "and")) (aCons (dC (.str "or")) (aNil)))) (aNil)))) (aNil))) (dCB gTuple (aCons (dVar 8) (aNil))))))) (sNext)) (sSeq (sIf (dAnd (dTest (dBin gEq (dVar 5) (dC (.int 3)))) (dTest (dBin gEq (dCall sp_l_draw (aCons (dVar 0) (aCons (dC (.int 3)) (aNil)))) (dC (.int 0))))) (sRet (dTup (aCons (dCall sp_l_pick (aCons (dVar 0) (aCons (dLst (aCons (dC (.str "true")) (aCons (dC (.str "false")) (aNil)))) (aNil)))) (aNil)))) (sNext)) (sRet (dTup (aCons (dCall sp_l_pick (aCons (dVar 0) (aCons (dLst (aCons (dC (.str "less")) (aCons (dC (.str "most")) (aCons (dC (.str "is")) (aNil))))) (aNil)))) (aCons (dCall sp_l_polynomial (aCons (dVar 0) (aCons (dVar 1) (aCons (dVar 4) (aNil))))) (aNil)))))))))
theorem body_l_sentence {W : Wd} {k : Nat} {sp_l_draw : DSp} {sp_l_pick : DSp} {sp_l_sentence : DSp} {sp_l_polynomial : DSp} (f_l_draw : GFn W k "_law_draw" P_l_draw sp_l_draw) (f_l_pick : GFn W k "_law_pick" P_l_pick sp_l_pick) (f_l_sentence : GFn W k "_law_sentence" P_l_sentence sp_l_sentence) (f_l_polynomial : GFn W k "_law_polynomial" P_l_polynomial sp_l_polynomial) (nb : NB W) : Body W k N_l_sentence "_law_sentence" (defScope s_l_sentence) (defBody s_l_sentence) (r_l_sentence sp_l_draw sp_l_pick sp_l_sentence sp_l_polynomial) := fun f cdv A outer s H E hi =>
  have nd := sc_l_sentence.nd
  pdss_cons (pds_set (i := 5) nd rfl (by first | exact .inl rfl | exact .inr rfl) (pd_ifExp (pdt_cmp op_gt od_gt (pd_var (pv 3)) (pd_int) (nomark _)) (pd_call f_l_draw hi (by rfl) (pda_cons (pd_var (pv 0)) (pda_cons (pd_int) (pda_nil)))) (pd_call f_l_draw hi (by rfl) (pda_cons (pd_var (pv 0)) (pda_cons (pd_int) (pda_nil))))))
      (pdss_cons (pds_if ((pdw_and (pdt_cmp (op_eqD hi.room.units) od_eq (pd_var (pv 5)) (pd_int) (nomark _)) (pdw_and1 (pdt_cmp (op_neD hi.room.units) od_ne (pd_var (pv 2)) (pd_lst (pda_nil)) (nomark _)))).pt) (pdss_one (pds_ret (pd_tup (pda_cons (pd_call f_l_pick hi (by rfl) (pda_cons (pd_var (pv 0)) (pda_cons (pd_lst (pda_cons (pd_str) (pda_cons (pd_str) (pda_nil)))) (pda_nil)))) (pda_cons (pd_ixA hi.room.units (pd_var (pv 2)) (pd_int)) (pda_cons (pd_call f_l_sentence hi (by rfl) (pda_cons (pd_var (pv 0)) (pda_cons (pd_op op_addA od_add (pd_var (pv 1)) (pd_slice (pd_var (pv 2)) (pdo_none) (pdo_some (pd_int)))) (pda_cons (pd_slice (pd_var (pv 2)) (pdo_some (pd_int)) (pdo_none)) (pda_cons (pd_op op_subA od_subA (pd_var (pv 3)) (pd_int)) (pda_cons (pd_var (pv 4)) (pda_nil))))))) (pda_nil))))))) (pdss_nil))
      (pdss_cons (pds_if ((pdw_or (pdt_cmp (op_eqD hi.room.units) od_eq (pd_var (pv 5)) (pd_int) (nomark _)) (pdw_or1 (pdt_cmp (op_eqD hi.room.units) od_eq (pd_var (pv 5)) (pd_int) (nomark _)))).pt) (pdss_one (pds_ret (pd_tup (pda_cons (pd_str) (pda_cons (pd_call f_l_sentence hi (by rfl) (pda_cons (pd_var (pv 0)) (pda_cons (pd_var (pv 1)) (pda_cons (pd_var (pv 2)) (pda_cons (pd_op op_subA od_subA (pd_var (pv 3)) (pd_int)) (pda_cons (pd_var (pv 4)) (pda_nil))))))) (pda_nil)))))) (pdss_nil))
      (pdss_cons (pds_if (pdt_cmp op_gt od_gt (pd_var (pv 5)) (pd_int) (nomark _)) (pdss_cons (pds_par (i := 7) (j := 8) rfl nd rfl rfl (by decide) rfl rfl (pda_cons (pd_call f_l_pick hi (by rfl) (pda_cons (pd_var (pv 0)) (pda_cons (pd_lst (pda_cons (pd_int) (pda_cons (pd_int) (pda_cons (pd_int) (pda_cons (pd_int) (pda_nil)))))) (pda_nil)))) (pda_cons (pd_lst (pda_nil)) (pda_nil))))
      (pdss_cons (pds_for PassesOwn.never rfl (pdi_range1 (by rfl) nb.range (pda_cons (pd_var (pv 7)) (pda_nil))) (pdg_name (pg_name (i := 6) nd rfl (by first | exact .inl rfl | exact .inr rfl))) (pdss_one (pds_expr (pd_bm PySem.F.plainAttrs_list PySem.F.slot_list_append PySem.F.type_list_append mt_append md_append (pd_var (pv 8)) (pda_cons (pd_call f_l_sentence hi (by rfl) (pda_cons (pd_var (pv 0)) (pda_cons (pd_var (pv 1)) (pda_cons (pd_ifExp (pdt_cmp (op_eqD hi.room.units) od_eq (pd_var (pv 6)) (pd_int) (nomark _)) (pd_var (pv 2)) (pd_lst (pda_nil))) (pda_cons (pd_op op_subA od_subA (pd_var (pv 3)) (pd_int)) (pda_cons (pd_var (pv 4)) (pda_nil))))))) (pda_nil))))))
      (pdss_one (pds_ret (pd_op op_addA od_add (pd_tup (pda_cons (pd_call f_l_pick hi (by rfl) (pda_cons (pd_var (pv 0)) (pda_cons (pd_lst (pda_cons (pd_str) (pda_cons (pd_str) (pda_nil)))) (pda_nil)))) (pda_nil))) (pd_callTy call_tuple_of cd_tuple (by rfl) nb.tuple_ (by decide +kernel) (pda_cons (pd_var (pv 8)) (pda_nil)))))))) (pdss_nil))
      (pdss_cons (pds_if ((pdw_and (pdt_cmp (op_eqD hi.room.units) od_eq (pd_var (pv 5)) (pd_int) (nomark _)) (pdw_and1 (pdt_cmp (op_eqD hi.room.units) od_eq (pd_call f_l_draw hi (by rfl) (pda_cons (pd_var (pv 0)) (pda_cons (pd_int) (pda_nil)))) (pd_int) (nomark _)))).pt) (pdss_one (pds_ret (pd_tup (pda_cons (pd_call f_l_pick hi (by rfl) (pda_cons (pd_var (pv 0)) (pda_cons (pd_lst (pda_cons (pd_str) (pda_cons (pd_str) (pda_nil)))) (pda_nil)))) (pda_nil))))) (pdss_nil))
      (pdss_one (pds_ret (pd_tup (pda_cons (pd_call f_l_pick hi (by rfl) (pda_cons (pd_var (pv 0)) (pda_cons (pd_lst (pda_cons (pd_str) (pda_cons (pd_str) (pda_cons (pd_str) (pda_nil))))) (pda_nil)))) (pda_cons (pd_call f_l_polynomial hi (by rfl) (pda_cons (pd_var (pv 0)) (pda_cons (pd_var (pv 1)) (pda_cons (pd_var (pv 4)) (pda_nil))))) (pda_nil))))))))))
/-! ### _law_many -/
abbrev s_l_many : Stmt := topS 39
abbrev N_l_many : List Str := ["s", "part"]
abbrev P_l_many : List Str := ["s"]
theorem sc_l_many : FnScope N_l_many P_l_many (defScope s_l_many) := ⟨rfl, rfl, rfl, by decide +kernel, rfl, by decide +kernel, by decide +kernel⟩
theorem bd_l_many {K : PySem.W.Frag} {f : Addr} {fd : FuncData} (F : FnP K "_law_many" "_law_many" s_l_many f fd) : Binds K fd P_l_many [] := FunD.bindsN F fun _ _ _ _ _ _ us hl => match us, hl with | [_], _ => rfl
noncomputable def r_l_many (sp_l_many : DSp) : DS := sSeq (sIf (dTest (dBin (gInA false) (dBin gIxA (dVar 0) (dC (.int 0))) (dTup (aCons (dC (.str "less")) (aCons (dC (.str "most")) (aCons (dC (.str "is")) (aCons (dC (.str "true")) (aCons (dC (.str "false")) (aNil))))))))) (sRet (dC (.int 1))) (sNext)) (sRet (dCB gSum (aCons (dLc (iSeqA (dSl (dVar 0) (oSome (dC (.int 1))) (oNone))) (gNm 1) (dTru (dCB gIsi (aCons (dVar 1) (aCons (dC (.ty "tuple")) (aNil))))) (dCall sp_l_many (aCons (dVar 1) (aNil))) [1]) (aNil))))
theorem body_l_many {W : Wd} {k : Nat} {sp_l_many : DSp} (f_l_many : GFn W k "_law_many" P_l_many sp_l_many) (nb : NB W) : Body W k N_l_many "_law_many" (defScope s_l_many) (defBody s_l_many) (r_l_many sp_l_many) := fun f cdv A outer s H E hi =>
  have nd := sc_l_many.nd
  pdss_cons (pds_if (pdt_cmp (op_inA hi.room.units2) od_rL2 (pd_ixA hi.room.units (pd_var (pv 0)) (pd_int)) (pd_tup (pda_cons (pd_str) (pda_cons (pd_str) (pda_cons (pd_str) (pda_cons (pd_str) (pda_cons (pd_str) (pda_nil))))))) (by rfl)) (pdss_one (pds_ret (pd_int))) (pdss_nil))
      (pdss_one (pds_ret (pd_callB (cr_sum rfl) cd_sum (by rfl) nb.sum (by decide +kernel) (pda_cons (pd_lc rfl nd (pdi_seqA (pd_slice (pd_var (pv 0)) (pdo_some (pd_int)) (pdo_none))) (blkOk_by (own := [("part", 1)]) (by first | (show blkC N_l_many (defScope s_l_many) _ _ = true; decide +kernel) | kernel_rfl)) (fun _ _ _ _ _ => pdg_name (pg_name (i := 1) nd rfl (by first | exact .inl rfl | exact .inr rfl))) (fun _ _ _ _ _ => pdts_one (pdt_tru (pd_callB call_isi cd_isi (by rfl) nb.isinstance (by decide +kernel) (pda_cons (pd_var (pv 1)) (pda_cons (pd_ty (by rfl) nb.tuple_ (by decide +kernel)) (pda_nil)))))) (fun _ _ _ _ _ => pd_call f_l_many hi.blk (by rfl) (pda_cons (pd_var (pv 1)) (pda_nil))) (by decide)) (pda_nil)))))
/-! ### _law_atoms -/
abbrev s_l_atoms : Stmt := topS 40
abbrev N_l_atoms : List Str := ["s", "out", "part"]
abbrev P_l_atoms : List Str := ["s"]
theorem sc_l_atoms : FnScope N_l_atoms P_l_atoms (defScope s_l_atoms) := ⟨rfl, rfl, rfl, by decide +kernel, rfl, by decide +kernel, by decide +kernel⟩
theorem bd_l_atoms {K : PySem.W.Frag} {f : Addr} {fd : FuncData} (F : FnP K "_law_atoms" "_law_atoms" s_l_atoms f fd) : Binds K fd P_l_atoms [] := FunD.bindsN F fun _ _ _ _ _ _ us hl => match us, hl with | [_], _ => rfl
noncomputable def r_l_atoms (sp_l_atoms : DSp) : DS := sSeq (sIf (dTest (dBin (gInA false) (dBin gIxA (dVar 0) (dC (.int 0))) (dTup (aCons (dC (.str "true")) (aCons (dC (.str "false")) (aNil)))))) (sRet (dLst (aNil))) (sNext)) (sSeq (sIf (dTest (dBin (gInA false) (dBin gIxA (dVar 0) (dC (.int 0))) (dTup (aCons (dC (.str "less")) (aCons (dC (.str "most")) (aCons (dC (.str "is")) (aNil))))))) (sRet (dLst (aCons (dBin gIxA (dVar 0) (dC (.int 1))) (aNil)))) (sNext)) (sSeq (sAsg (dLst (aNil)) (gNm 1)) (sSeq (sFor (iSeqA (dSl (dVar 0) (oSome (dC (.int 1))) (oNone))) (gNm 2) (sIf (dTru (dCB gIsi (aCons (dVar 2) (aCons (dC (.ty "tuple")) (aNil))))) (sAsg (dBin gAdd (dVar 1) (dCall sp_l_atoms (aCons (dVar 2) (aNil)))) (gNm 1)) (sNext))) (sRet (dVar 1)))))
theorem body_l_atoms {W : Wd} {k : Nat} {sp_l_atoms : DSp} (f_l_atoms : GFn W k "_law_atoms" P_l_atoms sp_l_atoms) (nb : NB W) : Body W k N_l_atoms "_law_atoms" (defScope s_l_atoms) (defBody s_l_atoms) (r_l_atoms sp_l_atoms) := fun f cdv A outer s H E hi =>
  have nd := sc_l_atoms.nd
  pdss_cons (pds_if (pdt_cmp (op_inA hi.room.units2) od_rL2 (pd_ixA hi.room.units (pd_var (pv 0)) (pd_int)) (pd_tup (pda_cons (pd_str) (pda_cons (pd_str) (pda_nil)))) (by rfl)) (pdss_one (pds_ret (pd_lst (pda_nil)))) (pdss_nil))
      (pdss_cons (pds_if (pdt_cmp (op_inA hi.room.units2) od_rL2 (pd_ixA hi.room.units (pd_var (pv 0)) (pd_int)) (pd_tup (pda_cons (pd_str) (pda_cons (pd_str) (pda_cons (pd_str) (pda_nil))))) (by rfl)) (pdss_one (pds_ret (pd_lst (pda_cons (pd_ixA hi.room.units (pd_var (pv 0)) (pd_int)) (pda_nil))))) (pdss_nil))
      (pdss_cons (pds_set (i := 1) nd rfl (by first | exact .inl rfl | exact .inr rfl) (pd_lst (pda_nil)))
      (pdss_cons (pds_for PassesOwn.never rfl (pdi_seqA (pd_slice (pd_var (pv 0)) (pdo_some (pd_int)) (pdo_none))) (pdg_name (pg_name (i := 2) nd rfl (by first | exact .inl rfl | exact .inr rfl))) (pdss_one (pds_if (pdt_tru (pd_callB call_isi cd_isi (by rfl) nb.isinstance (by decide +kernel) (pda_cons (pd_var (pv 2)) (pda_cons (pd_ty (by rfl) nb.tuple_ (by decide +kernel)) (pda_nil))))) (pdss_one (pds_set (i := 1) nd rfl (by first | exact .inl rfl | exact .inr rfl) (pd_op op_addA od_add (pd_var (pv 1)) (pd_call f_l_atoms hi (by rfl) (pda_cons (pd_var (pv 2)) (pda_nil)))))) (pdss_nil))))
      (pdss_one (pds_ret (pd_var (pv 1)))))))
/-! ### _law_bound -/
abbrev s_l_bound : Stmt := topS 41
abbrev N_l_bound : List Str := ["s", "out", "part"]
abbrev P_l_bound : List Str := ["s"]
theorem sc_l_bound : FnScope N_l_bound P_l_bound (defScope s_l_bound) := ⟨rfl, rfl, rfl, by decide +kernel, rfl, by decide +kernel, by decide +kernel⟩
theorem bd_l_bound {K : PySem.W.Frag} {f : Addr} {fd : FuncData} (F : FnP K "_law_bound" "_law_bound" s_l_bound f fd) : Binds K fd P_l_bound [] := FunD.bindsN F fun _ _ _ _ _ _ us hl => match us, hl with | [_], _ => rfl
noncomputable def r_l_bound (sp_l_bound : DSp) : DS := sSeq (sIf (dTest (dBin (gInA false) (dBin gIxA (dVar 0) (dC (.int 0))) (dTup (aCons (dC (.str "less")) (aCons (dC (.str "most")) (aCons (dC (.str "is")) (aCons (dC (.str "true")) (aCons (dC (.str "false")) (aNil))))))))) (sRet (dLst (aNil))) (sNext)) (sSeq (sAsg (dIf (dTest (dBin (gInA false) (dBin gIxA (dVar 0) (dC (.int 0))) (dTup (aCons (dC (.str "some")) (aCons (dC (.str "all")) (aNil)))))) (dLst (aCons (dBin gIxA (dVar 0) (dC (.int 1))) (aNil))) (dLst (aNil))) (gNm 1)) (sSeq (sFor (iSeqA (dSl (dVar 0) (oSome (dC (.int 1))) (oNone))) (gNm 2) (sIf (dTru (dCB gIsi (aCons (dVar 2) (aCons (dC (.ty "tuple")) (aNil))))) (sAsg (dBin gAdd (dVar 1) (dCall sp_l_bound (aCons (dVar 2) (aNil)))) (gNm 1)) (sNext))) (sRet (dVar 1))))
theorem body_l_bound {W : Wd} {k : Nat} {sp_l_bound : DSp} (f_l_bound : GFn W k "_law_bound" P_l_bound sp_l_bound) (nb : NB W) : Body W k N_l_bound "_law_bound" (defScope s_l_bound) (defBody s_l_bound) (r_l_bound sp_l_bound) := fun f cdv A outer s H E hi =>
  have nd := sc_l_bound.nd
  pdss_cons (pds_if (pdt_cmp (op_inA hi.room.units2) od_rL2 (pd_ixA hi.room.units (pd_var (pv 0)) (pd_int)) (pd_tup (pda_cons (pd_str) (pda_cons (pd_str) (pda_cons (pd_str) (pda_cons (pd_str) (pda_cons (pd_str) (pda_nil))))))) (by rfl)) (pdss_one (pds_ret (pd_lst (pda_nil)))) (pdss_nil))
      (pdss_cons (pds_set (i := 1) nd rfl (by first | exact .inl rfl | exact .inr rfl) (pd_ifExp (pdt_cmp (op_inA hi.room.units2) od_rL2 (pd_ixA hi.room.units (pd_var (pv 0)) (pd_int)) (pd_tup (pda_cons (pd_str) (pda_cons (pd_str) (pda_nil)))) (by rfl)) (pd_lst (pda_cons (pd_ixA hi.room.units (pd_var (pv 0)) (pd_int)) (pda_nil))) (pd_lst (pda_nil))))
      (pdss_cons (pds_for PassesOwn.never rfl (pdi_seqA (pd_slice (pd_var (pv 0)) (pdo_some (pd_int)) (pdo_none))) (pdg_name (pg_name (i := 2) nd rfl (by first | exact .inl rfl | exact .inr rfl))) (pdss_one (pds_if (pdt_tru (pd_callB call_isi cd_isi (by rfl) nb.isinstance (by decide +kernel) (pda_cons (pd_var (pv 2)) (pda_cons (pd_ty (by rfl) nb.tuple_ (by decide +kernel)) (pda_nil))))) (pdss_one (pds_set (i := 1) nd rfl (by first | exact .inl rfl | exact .inr rfl) (pd_op op_addA od_add (pd_var (pv 1)) (pd_call f_l_bound hi (by rfl) (pda_cons (pd_var (pv 2)) (pda_nil)))))) (pdss_nil))))
      (pdss_one (pds_ret (pd_var (pv 1))))))
/-! ### _law_free -/
abbrev s_l_free : Stmt := topS 42
abbrev N_l_free : List Str := ["s", "bound", "out", "k", "name", "f", "powers", "c"]
abbrev P_l_free : List Str := ["s"]
theorem sc_l_free : FnScope N_l_free P_l_free (defScope s_l_free) := ⟨rfl, rfl, rfl, by decide +kernel, rfl, by decide +kernel, by decide +kernel⟩
theorem bd_l_free {K : PySem.W.Frag} {f : Addr} {fd : FuncData} (F : FnP K "_law_free" "_law_free" s_l_free f fd) : Binds K fd P_l_free [] := FunD.bindsN F fun _ _ _ _ _ _ us hl => match us, hl with | [_], _ => rfl
noncomputable def r_l_free (sp_l_bound : DSp) (sp_l_atoms : DSp) : DS := sSeq (sPar 1 2 (aCons (dCall sp_l_bound (aCons (dVar 0) (aNil))) (aCons (dLst (aNil)) (aNil)))) (sSeq (sFor (iRange1 (aCons (dC (.int 3)) (aNil))) (gNm 3) (sSeq (sAsg (dBin gIxA (dC (.str "xyz")) (dVar 3)) (gNm 4)) (sIf (dAnd (dTest (dBin (gInA true) (dVar 4) (dVar 1))) (dTest (dBin gNe (dLc (iSeqA (dCall sp_l_atoms (aCons (dVar 0) (aNil)))) (gNm 5) (dTest (dBin gNe (dLc (iSeqA (dVar 5)) (gUnp 2 (gsCons (gNm 6) (gsCons (gNm 7) (gsNil)))) (dTest (dBin gGt (dBin gIxA (dVar 6) (dVar 3)) (dC (.int 0)))) (dVar 6) [6, 7]) (dLst (aNil)))) (dVar 5) [5]) (dLst (aNil))))) (sDrop (dBM isLst gAppend (dVar 2) (aCons (dVar 4) (aNil)))) (sNext)))) (sRet (dCB gTuple (aCons (dVar 2) (aNil)))))
theorem body_l_free {W : Wd} {k : Nat} {sp_l_bound : DSp} {sp_l_atoms : DSp} (f_l_bound : GFn W k "_law_bound" P_l_bound sp_l_bound) (f_l_atoms : GFn W k "_law_atoms" P_l_atoms sp_l_atoms) (nb : NB W) : Body W k N_l_free "_law_free" (defScope s_l_free) (defBody s_l_free) (r_l_free sp_l_bound sp_l_atoms) := fun f cdv A outer s H E hi =>
  have nd := sc_l_free.nd
  pdss_cons (pds_par (i := 1) (j := 2) rfl nd rfl rfl (by decide) rfl rfl (pda_cons (pd_call f_l_bound hi (by rfl) (pda_cons (pd_var (pv 0)) (pda_nil))) (pda_cons (pd_lst (pda_nil)) (pda_nil))))
      (pdss_cons (pds_for PassesOwn.never rfl (pdi_range1 (by rfl) nb.range (pda_cons (pd_int) (pda_nil))) (pdg_name (pg_name (i := 3) nd rfl (by first | exact .inl rfl | exact .inr rfl))) (pdss_cons (pds_set (i := 4) nd rfl (by first | exact .inl rfl | exact .inr rfl) (pd_ixA hi.room.units (pd_str) (pd_var (pv 3))))
      (pdss_one (pds_if ((pdw_and (pdt_cmp (op_notInA hi.room.units2) od_rL2 (pd_var (pv 4)) (pd_var (pv 1)) (by rfl)) (pdw_and1 (pdt_cmp (op_neD hi.room.units) od_ne (pd_lc rfl nd (pdi_seqA (pd_call f_l_atoms hi (by rfl) (pda_cons (pd_var (pv 0)) (pda_nil)))) (blkOk_by (own := [("f", 5)]) (by first | (show blkC N_l_free (defScope s_l_free) _ _ = true; decide +kernel) | kernel_rfl)) (fun _ _ _ _ _ => pdg_name (pg_name (i := 5) nd rfl (by first | exact .inl rfl | exact .inr rfl))) (fun _ _ _ _ _ => pdts_one (pdt_cmp (op_neD hi.blk.room.units) od_ne (pd_lc rfl nd (pdi_seqA (pd_var (pv 5))) (blkOk_by (own := [("powers", 6), ("c", 7)]) (by first | (show blkC N_l_free (defScope s_l_free) _ _ = true; decide +kernel) | kernel_rfl)) (fun _ _ _ _ _ => pdg_tup rfl (pdgs_cons (pdg_name (pg_name (i := 6) nd rfl (by first | exact .inl rfl | exact .inr rfl))) (pdgs_cons (pdg_name (pg_name (i := 7) nd rfl (by first | exact .inl rfl | exact .inr rfl))) (pdgs_nil)))) (fun _ _ _ _ _ => pdts_one (pdt_cmp op_gt od_gt (pd_ixA hi.blk.blk.room.units (pd_var (pv 6)) (pd_var (pv 3))) (pd_int) (nomark _))) (fun _ _ _ _ _ => pd_var (pv 6)) (by decide)) (pd_lst (pda_nil)) (nomark _))) (fun _ _ _ _ _ => pd_var (pv 5)) (by decide)) (pd_lst (pda_nil)) (nomark _)))).pt) (pdss_one (pds_expr (pd_bm PySem.F.plainAttrs_list PySem.F.slot_list_append PySem.F.type_list_append mt_append md_append (pd_var (pv 2)) (pda_cons (pd_var (pv 4)) (pda_nil))))) (pdss_nil)))))
      (pdss_one (pds_ret (pd_callTy call_tuple_of cd_tuple (by rfl) nb.tuple_ (by decide +kernel) (pda_cons (pd_var (pv 2)) (pda_nil))))))
/-! ### _law_polys -/
abbrev s_l_polys : Stmt := topS 43
abbrev N_l_polys : List Str := ["s", "out", "f", "by", "one", "powers", "c"]
abbrev P_l_polys : List Str := ["s"]
theorem sc_l_polys : FnScope N_l_polys P_l_polys (defScope s_l_polys) := ⟨rfl, rfl, rfl, by decide +kernel, rfl, by decide +kernel, by decide +kernel⟩
theorem bd_l_polys {K : PySem.W.Frag} {f : Addr} {fd : FuncData} (F : FnP K "_law_polys" "_law_polys" s_l_polys f fd) : Binds K fd P_l_polys [] := FunD.bindsN F fun _ _ _ _ _ _ us hl => match us, hl with | [_], _ => rfl
noncomputable def r_l_polys (sp_l_atoms : DSp) (sp_l_content : DSp) : DS := sSeq (sAsg (dLst (aNil)) (gNm 1)) (sSeq (sFor (iSeqA (dCall sp_l_atoms (aCons (dVar 0) (aNil)))) (gNm 2) (sIf (dTest (dBin gNe (dLc (iSeqA (dVar 2)) (gUnp 2 (gsCons (gNm 5) (gsCons (gNm 6) (gsNil)))) (dTest (dBin gNe (dVar 5) (dTup (aCons (dC (.int 0)) (aCons (dC (.int 0)) (aCons (dC (.int 0)) (aNil))))))) (dVar 5) [5, 6]) (dLst (aNil)))) (sSeq (sAsg (dCall sp_l_content (aCons (dLc (iSeqA (dVar 2)) (gUnp 2 (gsCons (gNm 5) (gsCons (gNm 6) (gsNil)))) (tYesD) (dVar 6) [5, 6]) (aNil))) (gNm 3)) (sSeq (sAsg (dIf (dTest (dBin gGt (dBin gIxA (dBin gIxA (dVar 2) (dUn gNeg (dC (.int 1)))) (dC (.int 1))) (dC (.int 0)))) (dVar 3) (dBin gSubA (dC (.int 0)) (dVar 3))) (gNm 3)) (sSeq (sAsg (dCB gTuple (aCons (dLc (iSeqA (dVar 2)) (gUnp 2 (gsCons (gNm 5) (gsCons (gNm 6) (gsNil)))) (tYesD) (dTup (aCons (dVar 5) (aCons (dBin gDiv (dVar 6) (dVar 3)) (aNil)))) [5, 6]) (aNil))) (gNm 4)) (sIf (dTest (dBin (gInA true) (dVar 4) (dVar 1))) (sDrop (dBM isLst gAppend (dVar 1) (aCons (dVar 4) (aNil)))) (sNext))))) (sNext))) (sRet (dCB gTuple (aCons (dCB gSortedA (aCons (dVar 1) (aNil))) (aNil)))))
theorem body_l_polys {W : Wd} {k : Nat} {sp_l_atoms : DSp} {sp_l_content : DSp} (f_l_atoms : GFn W k "_law_atoms" P_l_atoms sp_l_atoms) (f_l_content : GFn W k "_law_content" P_l_content sp_l_content) (nb : NB W) : Body W k N_l_polys "_law_polys" (defScope s_l_polys) (defBody s_l_polys) (r_l_polys sp_l_atoms sp_l_content) := fun f cdv A outer s H E hi =>
  have nd := sc_l_polys.nd
  pdss_cons (pds_set (i := 1) nd rfl (by first | exact .inl rfl | exact .inr rfl) (pd_lst (pda_nil)))
      (pdss_cons (pds_for PassesOwn.never rfl (pdi_seqA (pd_call f_l_atoms hi (by rfl) (pda_cons (pd_var (pv 0)) (pda_nil)))) (pdg_name (pg_name (i := 2) nd rfl (by first | exact .inl rfl | exact .inr rfl))) (pdss_one (pds_if (pdt_cmp (op_neD hi.room.units) od_ne (pd_lc rfl nd (pdi_seqA (pd_var (pv 2))) (blkOk_by (own := [("powers", 5), ("c", 6)]) (by first | (show blkC N_l_polys (defScope s_l_polys) _ _ = true; decide +kernel) | kernel_rfl)) (fun _ _ _ _ _ => pdg_tup rfl (pdgs_cons (pdg_name (pg_name (i := 5) nd rfl (by first | exact .inl rfl | exact .inr rfl))) (pdgs_cons (pdg_name (pg_name (i := 6) nd rfl (by first | exact .inl rfl | exact .inr rfl))) (pdgs_nil)))) (fun _ _ _ _ _ => pdts_one (pdt_cmp (op_neD hi.blk.room.units) od_ne (pd_var (pv 5)) (pd_tup (pda_cons (pd_int) (pda_cons (pd_int) (pda_cons (pd_int) (pda_nil))))) (nomark _))) (fun _ _ _ _ _ => pd_var (pv 5)) (by decide)) (pd_lst (pda_nil)) (nomark _)) (pdss_cons (pds_set (i := 3) nd rfl (by first | exact .inl rfl | exact .inr rfl) (pd_call f_l_content hi (by rfl) (pda_cons (pd_lc rfl nd (pdi_seqA (pd_var (pv 2))) (blkOk_by (own := [("powers", 5), ("c", 6)]) (by first | (show blkC N_l_polys (defScope s_l_polys) _ _ = true; decide +kernel) | kernel_rfl)) (fun _ _ _ _ _ => pdg_tup rfl (pdgs_cons (pdg_name (pg_name (i := 5) nd rfl (by first | exact .inl rfl | exact .inr rfl))) (pdgs_cons (pdg_name (pg_name (i := 6) nd rfl (by first | exact .inl rfl | exact .inr rfl))) (pdgs_nil)))) (fun _ _ _ _ _ => pdts_nil) (fun _ _ _ _ _ => pd_var (pv 6)) (by decide)) (pda_nil))))
      (pdss_cons (pds_set (i := 3) nd rfl (by first | exact .inl rfl | exact .inr rfl) (pd_ifExp (pdt_cmp op_gt od_gt (pd_ixA hi.room.units (pd_ixA hi.room.units (pd_var (pv 2)) (pd_un un_neg ud_neg (pd_int))) (pd_int)) (pd_int) (nomark _)) (pd_var (pv 3)) (pd_op op_subA od_subA (pd_int) (pd_var (pv 3)))))
      (pdss_cons (pds_set (i := 4) nd rfl (by first | exact .inl rfl | exact .inr rfl) (pd_callTy call_tuple_of cd_tuple (by rfl) nb.tuple_ (by decide +kernel) (pda_cons (pd_lc rfl nd (pdi_seqA (pd_var (pv 2))) (blkOk_by (own := [("powers", 5), ("c", 6)]) (by first | (show blkC N_l_polys (defScope s_l_polys) _ _ = true; decide +kernel) | kernel_rfl)) (fun _ _ _ _ _ => pdg_tup rfl (pdgs_cons (pdg_name (pg_name (i := 5) nd rfl (by first | exact .inl rfl | exact .inr rfl))) (pdgs_cons (pdg_name (pg_name (i := 6) nd rfl (by first | exact .inl rfl | exact .inr rfl))) (pdgs_nil)))) (fun _ _ _ _ _ => pdts_nil) (fun _ _ _ _ _ => pd_tup (pda_cons (pd_var (pv 5)) (pda_cons (pd_op op_fdivG od_div (pd_var (pv 6)) (pd_var (pv 3))) (pda_nil)))) (by decide)) (pda_nil))))
      (pdss_one (pds_if (pdt_cmp (op_notInA hi.room.units2) od_rL2 (pd_var (pv 4)) (pd_var (pv 1)) (by rfl)) (pdss_one (pds_expr (pd_bm PySem.F.plainAttrs_list PySem.F.slot_list_append PySem.F.type_list_append mt_append md_append (pd_var (pv 1)) (pda_cons (pd_var (pv 4)) (pda_nil))))) (pdss_nil)))))) (pdss_nil))))
      (pdss_one (pds_ret (pd_callTy call_tuple_of cd_tuple (by rfl) nb.tuple_ (by decide +kernel) (pda_cons (pd_callB (cr_sortedA rfl hi.room.units) cd_sortedA (by rfl) nb.sorted (by decide +kernel) (pda_cons (pd_var (pv 1)) (pda_nil))) (pda_nil))))))
/-! ### _law_worth -/
abbrev s_l_worth : Stmt := topS 44
abbrev N_l_worth : List Str := ["f", "place", "out", "powers", "c", "term", "k", "turn"]
abbrev P_l_worth : List Str := ["f", "place"]
theorem sc_l_worth : FnScope N_l_worth P_l_worth (defScope s_l_worth) := ⟨rfl, rfl, rfl, by decide +kernel, rfl, by decide +kernel, by decide +kernel⟩
theorem bd_l_worth {K : PySem.W.Frag} {f : Addr} {fd : FuncData} (F : FnP K "_law_worth" "_law_worth" s_l_worth f fd) : Binds K fd P_l_worth [] := FunD.bindsN F fun _ _ _ _ _ _ us hl => match us, hl with | [_, _], _ => rfl
noncomputable def r_l_worth (sp_l_mul : DSp) (sp_l_add : DSp) : DS := sSeq (sAsg (dTup (aCons (dC (.int 0)) (aCons (dC (.int 1)) (aNil)))) (gNm 2)) (sSeq (sFor (iSeqA (dVar 0)) (gUnp 2 (gsCons (gNm 3) (gsCons (gNm 4) (gsNil)))) (sSeq (sAsg (dTup (aCons (dVar 4) (aCons (dC (.int 1)) (aNil)))) (gNm 5)) (sSeq (sFor (iRange1 (aCons (dC (.int 3)) (aNil))) (gNm 6) (sFor (iRange1 (aCons (dBin gIxA (dVar 3) (dVar 6)) (aNil))) (gNm 7) (sAsg (dCall sp_l_mul (aCons (dVar 5) (aCons (dBin gIxA (dVar 1) (dVar 6)) (aNil)))) (gNm 5)))) (sAsg (dCall sp_l_add (aCons (dVar 2) (aCons (dVar 5) (aNil)))) (gNm 2))))) (sRet (dBin gIxA (dVar 2) (dC (.int 0)))))
theorem body_l_worth {W : Wd} {k : Nat} {sp_l_mul : DSp} {sp_l_add : DSp} (f_l_mul : GFn W k "_law_mul" P_l_mul sp_l_mul) (f_l_add : GFn W k "_law_add" P_l_add sp_l_add) (nb : NB W) : Body W k N_l_worth "_law_worth" (defScope s_l_worth) (defBody s_l_worth) (r_l_worth sp_l_mul sp_l_add) := fun f cdv A outer s H E hi =>
  have nd := sc_l_worth.nd
  pdss_cons (pds_set (i := 2) nd rfl (by first | exact .inl rfl | exact .inr rfl) (pd_tup (pda_cons (pd_int) (pda_cons (pd_int) (pda_nil)))))
      (pdss_cons (pds_for PassesOwn.never rfl (pdi_seqA (pd_var (pv 0))) (pdg_tup rfl (pdgs_cons (pdg_name (pg_name (i := 3) nd rfl (by first | exact .inl rfl | exact .inr rfl))) (pdgs_cons (pdg_name (pg_name (i := 4) nd rfl (by first | exact .inl rfl | exact .inr rfl))) (pdgs_nil)))) (pdss_cons (pds_set (i := 5) nd rfl (by first | exact .inl rfl | exact .inr rfl) (pd_tup (pda_cons (pd_var (pv 4)) (pda_cons (pd_int) (pda_nil)))))
      (pdss_cons (pds_for PassesOwn.never rfl (pdi_range1 (by rfl) nb.range (pda_cons (pd_int) (pda_nil))) (pdg_name (pg_name (i := 6) nd rfl (by first | exact .inl rfl | exact .inr rfl))) (pdss_one (pds_for PassesOwn.never rfl (pdi_range1 (by rfl) nb.range (pda_cons (pd_ixA hi.room.units (pd_var (pv 3)) (pd_var (pv 6))) (pda_nil))) (pdg_name (pg_name (i := 7) nd rfl (by first | exact .inl rfl | exact .inr rfl))) (pdss_one (pds_set (i := 5) nd rfl (by first | exact .inl rfl | exact .inr rfl) (pd_call f_l_mul hi (by rfl) (pda_cons (pd_var (pv 5)) (pda_cons (pd_ixA hi.room.units (pd_var (pv 1)) (pd_var (pv 6))) (pda_nil)))))))))
      (pdss_one (pds_set (i := 2) nd rfl (by first | exact .inl rfl | exact .inr rfl) (pd_call f_l_add hi (by rfl) (pda_cons (pd_var (pv 2)) (pda_cons (pd_var (pv 5)) (pda_nil)))))))))
      (pdss_one (pds_ret (pd_ixA hi.room.units (pd_var (pv 2)) (pd_int)))))
/-! ### _law_holds -/
abbrev s_l_holds : Stmt := topS 45
abbrev N_l_holds : List Str := ["s", "place", "found", "part", "worth"]
abbrev P_l_holds : List Str := ["s", "place"]
theorem sc_l_holds : FnScope N_l_holds P_l_holds (defScope s_l_holds) := ⟨rfl, rfl, rfl, by decide +kernel, rfl, by decide +kernel, by decide +kernel⟩
theorem bd_l_holds {K : PySem.W.Frag} {f : Addr} {fd : FuncData} (F : FnP K "_law_holds" "_law_holds" s_l_holds f fd) : Binds K fd P_l_holds [] := FunD.bindsN F fun _ _ _ _ _ _ us hl => match us, hl with | [_, _], _ => rfl
noncomputable def r_l_holds (sp_l_holds : DSp) (sp_l_worth : DSp) : DS := sSeq (sIf (dTest (dBin (gInA false) (dBin gIxA (dVar 0) (dC (.int 0))) (dTup (aCons (dC (.str "true")) (aCons (dC (.str "false")) (aNil)))))) (sRet (dBin gEq (dBin gIxA (dVar 0) (dC (.int 0))) (dC (.str "true")))) (sNext)) (sSeq (sIf (dTest (dBin gEq (dBin gIxA (dVar 0) (dC (.int 0))) (dC (.str "not")))) (sRet (dNotV (dCall sp_l_holds (aCons (dBin gIxA (dVar 0) (dC (.int 1))) (aCons (dVar 1) (aNil)))))) (sNext)) (sSeq (sIf (dTest (dBin (gInA false) (dBin gIxA (dVar 0) (dC (.int 0))) (dTup (aCons (dC (.str "and")) (aCons (dC (.str "or")) (aNil)))))) (sSeq (sAsg (dLc (iSeqA (dSl (dVar 0) (oSome (dC (.int 1))) (oNone))) (gNm 3) (tYesD) (dCall sp_l_holds (aCons (dVar 3) (aCons (dVar 1) (aNil)))) [3]) (gNm 2)) (sRet (dIf (dTest (dBin gEq (dBin gIxA (dVar 0) (dC (.int 0))) (dC (.str "and")))) (dBin (gInA true) (dC (.bl false)) (dVar 2)) (dBin (gInA false) (dC (.bl true)) (dVar 2))))) (sNext)) (sSeq (sAsg (dCall sp_l_worth (aCons (dBin gIxA (dVar 0) (dC (.int 1))) (aCons (dVar 1) (aNil)))) (gNm 4)) (sRet (dIf (dTest (dBin gEq (dBin gIxA (dVar 0) (dC (.int 0))) (dC (.str "less")))) (dBin gLt (dVar 4) (dC (.int 0))) (dIf (dTest (dBin gEq (dBin gIxA (dVar 0) (dC (.int 0))) (dC (.str "most")))) (dBin gLe (dVar 4) (dC (.int 0))) (dBin gEq (dVar 4) (dC (.int 0)))))))))
theorem body_l_holds {W : Wd} {k : Nat} {sp_l_holds : DSp} {sp_l_worth : DSp} (f_l_holds : GFn W k "_law_holds" P_l_holds sp_l_holds) (f_l_worth : GFn W k "_law_worth" P_l_worth sp_l_worth) : Body W k N_l_holds "_law_holds" (defScope s_l_holds) (defBody s_l_holds) (r_l_holds sp_l_holds sp_l_worth) := fun f cdv A outer s H E hi =>
  have nd := sc_l_holds.nd
  pdss_cons (pds_if (pdt_cmp (op_inA hi.room.units2) od_rL2 (pd_ixA hi.room.units (pd_var (pv 0)) (pd_int)) (pd_tup (pda_cons (pd_str) (pda_cons (pd_str) (pda_nil)))) (by rfl)) (pdss_one (pds_ret (pd_cmp (op_eqD hi.room.units) od_eq (pd_ixA hi.room.units (pd_var (pv 0)) (pd_int)) (pd_str) (nomark _)))) (pdss_nil))
      (pdss_cons (pds_if (pdt_cmp (op_eqD hi.room.units) od_eq (pd_ixA hi.room.units (pd_var (pv 0)) (pd_int)) (pd_str) (nomark _)) (pdss_one (pds_ret (pd_not (pd_call f_l_holds hi (by rfl) (pda_cons (pd_ixA hi.room.units (pd_var (pv 0)) (pd_int)) (pda_cons (pd_var (pv 1)) (pda_nil))))))) (pdss_nil))
      (pdss_cons (pds_if (pdt_cmp (op_inA hi.room.units2) od_rL2 (pd_ixA hi.room.units (pd_var (pv 0)) (pd_int)) (pd_tup (pda_cons (pd_str) (pda_cons (pd_str) (pda_nil)))) (by rfl)) (pdss_cons (pds_setLc (i := 2) rfl nd rfl rfl (sw_true rfl rfl rfl (by decide +kernel)) (pdi_seqA (pd_slice (pd_var (pv 0)) (pdo_some (pd_int)) (pdo_none))) (blkOk_by (own := [("part", 3)]) (by first | (show blkC N_l_holds (defScope s_l_holds) _ _ = true; decide +kernel) | kernel_rfl)) (fun _ _ _ _ _ => pdg_name (pg_name (i := 3) nd rfl (by first | exact .inl rfl | exact .inr rfl))) (fun _ _ _ _ _ => pdts_nil) (fun _ _ _ _ _ => pd_call f_l_holds hi.blk (by rfl) (pda_cons (pd_var (pv 3)) (pda_cons (pd_var (pv 1)) (pda_nil)))) (by decide))
      (pdss_one (pds_ret (pd_ifExp (pdt_cmp (op_eqD hi.room.units) od_eq (pd_ixA hi.room.units (pd_var (pv 0)) (pd_int)) (pd_str) (nomark _)) (pd_cmp (op_notInA hi.room.units2) od_rL2 (pd_bl) (pd_var (pv 2)) (by rfl)) (pd_cmp (op_inA hi.room.units2) od_rL2 (pd_bl) (pd_var (pv 2)) (by rfl)))))) (pdss_nil))
      (pdss_cons (pds_set (i := 4) nd rfl (by first | exact .inl rfl | exact .inr rfl) (pd_call f_l_worth hi (by rfl) (pda_cons (pd_ixA hi.room.units (pd_var (pv 0)) (pd_int)) (pda_cons (pd_var (pv 1)) (pda_nil)))))
      (pdss_one (pds_ret (pd_ifExp (pdt_cmp (op_eqD hi.room.units) od_eq (pd_ixA hi.room.units (pd_var (pv 0)) (pd_int)) (pd_str) (nomark _)) (pd_cmp op_lt od_lt (pd_var (pv 4)) (pd_int) (nomark _)) (pd_ifExp (pdt_cmp (op_eqD hi.room.units) od_eq (pd_ixA hi.room.units (pd_var (pv 0)) (pd_int)) (pd_str) (nomark _)) (pd_cmp op_le od_le (pd_var (pv 4)) (pd_int) (nomark _)) (pd_cmp (op_eqD hi.room.units) od_eq (pd_var (pv 4)) (pd_int) (nomark _)))))))))
/-! ### _law_places -/
abbrev s_l_places : Stmt := topS 46
abbrev N_l_places : List Str := ["bag", "s", "out", "k", "j", "f", "unit", "at", "x"]
abbrev P_l_places : List Str := ["bag", "s"]
theorem sc_l_places : FnScope N_l_places P_l_places (defScope s_l_places) := ⟨rfl, rfl, rfl, by decide +kernel, rfl, by decide +kernel, by decide +kernel⟩
theorem bd_l_places {K : PySem.W.Frag} {f : Addr} {fd : FuncData} (F : FnP K "_law_places" "_law_places" s_l_places f fd) : Binds K fd P_l_places [] := FunD.bindsN F fun _ _ _ _ _ _ us hl => match us, hl with | [_, _], _ => rfl
noncomputable def r_l_places (sp_l_fr : DSp) (sp_l_draw : DSp) (sp_l_atoms : DSp) : DS := sSeq (sAsg (dLst (aCons (dTup (aCons (dTup (aCons (dC (.int 0)) (aCons (dC (.int 1)) (aNil)))) (aCons (dTup (aCons (dC (.int 0)) (aCons (dC (.int 1)) (aNil)))) (aCons (dTup (aCons (dC (.int 0)) (aCons (dC (.int 1)) (aNil)))) (aNil))))) (aNil))) (gNm 2)) (sSeq (sFor (iRange1 (aCons (dC (.int 5)) (aNil))) (gNm 3) (sDrop (dBM isLst gAppend (dVar 2) (aCons (dCB gTuple (aCons (dLc (iRange1 (aCons (dC (.int 3)) (aNil))) (gNm 4) (tYesD) (dCall sp_l_fr (aCons (dBin gSubA (dCall sp_l_draw (aCons (dVar 0) (aCons (dC (.int 13)) (aNil)))) (dC (.int 6))) (aCons (dBin gAdd (dC (.int 1)) (dCall sp_l_draw (aCons (dVar 0) (aCons (dC (.int 3)) (aNil))))) (aNil)))) [4]) (aNil))) (aNil))))) (sSeq (sFor (iSeqA (dSl (dCall sp_l_atoms (aCons (dVar 1) (aNil))) (oNone) (oSome (dC (.int 3))))) (gNm 5) (sFor (iRange1 (aCons (dC (.int 3)) (aNil))) (gNm 3) (sSeq (sAsg (dCB gTuple (aCons (dLc (iRange1 (aCons (dC (.int 3)) (aNil))) (gNm 4) (tYesD) (dIf (dTest (dBin gEq (dVar 4) (dVar 3))) (dC (.int 1)) (dC (.int 0))) [4]) (aNil))) (gNm 6)) (sSeq (sAsg (dCB gDictQ (aCons (dVar 5) (aNil))) (gNm 7)) (sIf (dTest (dBin gNe (dGet2 (dVar 7) (dVar 6) (dC (.int 0))) (dC (.int 0)))) (sSeq (sAsg (dCall sp_l_fr (aCons (dBin gSubA (dC (.int 0)) (dGet2 (dVar 7) (dTup (aCons (dC (.int 0)) (aCons (dC (.int 0)) (aCons (dC (.int 0)) (aNil))))) (dC (.int 0)))) (aCons (dBin gIxA (dVar 7) (dVar 6)) (aNil)))) (gNm 8)) (sDrop (dBM isLst gAppend (dVar 2) (aCons (dCB gTuple (aCons (dLc (iRange1 (aCons (dC (.int 3)) (aNil))) (gNm 4) (tYesD) (dIf (dTest (dBin gEq (dVar 4) (dVar 3))) (dVar 8) (dTup (aCons (dC (.int 0)) (aCons (dC (.int 1)) (aNil))))) [4]) (aNil))) (aNil))))) (sNext)))))) (sRet (dVar 2))))
theorem body_l_places {W : Wd} {k : Nat} {sp_l_fr : DSp} {sp_l_draw : DSp} {sp_l_atoms : DSp} (f_l_fr : GFn W k "_law_fr" P_l_fr sp_l_fr) (f_l_draw : GFn W k "_law_draw" P_l_draw sp_l_draw) (f_l_atoms : GFn W k "_law_atoms" P_l_atoms sp_l_atoms) (nb : NB W) : Body W k N_l_places "_law_places" (defScope s_l_places) (defBody s_l_places) (r_l_places sp_l_fr sp_l_draw sp_l_atoms) := fun f cdv A outer s H E hi =>
  have nd := sc_l_places.nd
  pdss_cons (pds_set (i := 2) nd rfl (by first | exact .inl rfl | exact .inr rfl) (pd_lst (pda_cons (pd_tup (pda_cons (pd_tup (pda_cons (pd_int) (pda_cons (pd_int) (pda_nil)))) (pda_cons (pd_tup (pda_cons (pd_int) (pda_cons (pd_int) (pda_nil)))) (pda_cons (pd_tup (pda_cons (pd_int) (pda_cons (pd_int) (pda_nil)))) (pda_nil))))) (pda_nil))))
      (pdss_cons (pds_for PassesOwn.never rfl (pdi_range1 (by rfl) nb.range (pda_cons (pd_int) (pda_nil))) (pdg_name (pg_name (i := 3) nd rfl (by first | exact .inl rfl | exact .inr rfl))) (pdss_one (pds_expr (pd_bm PySem.F.plainAttrs_list PySem.F.slot_list_append PySem.F.type_list_append mt_append md_append (pd_var (pv 2)) (pda_cons (pd_callTy call_tuple_of cd_tuple (by rfl) nb.tuple_ (by decide +kernel) (pda_cons (pd_lc rfl nd (pdi_range1 (by rfl) nb.range (pda_cons (pd_int) (pda_nil))) (blkOk_by (own := [("j", 4)]) (by first | (show blkC N_l_places (defScope s_l_places) _ _ = true; decide +kernel) | kernel_rfl)) (fun _ _ _ _ _ => pdg_name (pg_name (i := 4) nd rfl (by first | exact .inl rfl | exact .inr rfl))) (fun _ _ _ _ _ => pdts_nil) (fun _ _ _ _ _ => pd_call f_l_fr hi.blk (by rfl) (pda_cons (pd_op op_subA od_subA (pd_call f_l_draw hi.blk (by rfl) (pda_cons (pd_var (pv 0)) (pda_cons (pd_int) (pda_nil)))) (pd_int)) (pda_cons (pd_op op_addA od_add (pd_int) (pd_call f_l_draw hi.blk (by rfl) (pda_cons (pd_var (pv 0)) (pda_cons (pd_int) (pda_nil))))) (pda_nil)))) (by decide)) (pda_nil))) (pda_nil))))))
      (pdss_cons (pds_for PassesOwn.never rfl (pdi_seqA (pd_slice (pd_call f_l_atoms hi (by rfl) (pda_cons (pd_var (pv 1)) (pda_nil))) (pdo_none) (pdo_some (pd_int)))) (pdg_name (pg_name (i := 5) nd rfl (by first | exact .inl rfl | exact .inr rfl))) (pdss_one (pds_for PassesOwn.never rfl (pdi_range1 (by rfl) nb.range (pda_cons (pd_int) (pda_nil))) (pdg_name (pg_name (i := 3) nd rfl (by first | exact .inl rfl | exact .inr rfl))) (pdss_cons (pds_set (i := 6) nd rfl (by first | exact .inl rfl | exact .inr rfl) (pd_callTy call_tuple_of cd_tuple (by rfl) nb.tuple_ (by decide +kernel) (pda_cons (pd_lc rfl nd (pdi_range1 (by rfl) nb.range (pda_cons (pd_int) (pda_nil))) (blkOk_by (own := [("j", 4)]) (by first | (show blkC N_l_places (defScope s_l_places) _ _ = true; decide +kernel) | kernel_rfl)) (fun _ _ _ _ _ => pdg_name (pg_name (i := 4) nd rfl (by first | exact .inl rfl | exact .inr rfl))) (fun _ _ _ _ _ => pdts_nil) (fun _ _ _ _ _ => pd_ifExp (pdt_cmp (op_eqD hi.blk.room.units) od_eq (pd_var (pv 4)) (pd_var (pv 3)) (nomark _)) (pd_int) (pd_int)) (by decide)) (pda_nil))))
      (pdss_cons (pds_set (i := 7) nd rfl (by first | exact .inl rfl | exact .inr rfl) (pd_callTy (cr_dictQ rfl hi.room.units) cd_dictQ (by rfl) nb.dict_ (by decide +kernel) (pda_cons (pd_var (pv 5)) (pda_nil))))
      (pdss_one (pds_if (pdt_cmp (op_neD hi.room.units) od_ne (pd_get2 hi.room.units (pd_var (pv 7)) (pd_var (pv 6)) (pd_int)) (pd_int) (nomark _)) (pdss_cons (pds_set (i := 8) nd rfl (by first | exact .inl rfl | exact .inr rfl) (pd_call f_l_fr hi (by rfl) (pda_cons (pd_op op_subA od_subA (pd_int) (pd_get2 hi.room.units (pd_var (pv 7)) (pd_tup (pda_cons (pd_int) (pda_cons (pd_int) (pda_cons (pd_int) (pda_nil))))) (pd_int))) (pda_cons (pd_ixA hi.room.units (pd_var (pv 7)) (pd_var (pv 6))) (pda_nil)))))
      (pdss_one (pds_expr (pd_bm PySem.F.plainAttrs_list PySem.F.slot_list_append PySem.F.type_list_append mt_append md_append (pd_var (pv 2)) (pda_cons (pd_callTy call_tuple_of cd_tuple (by rfl) nb.tuple_ (by decide +kernel) (pda_cons (pd_lc rfl nd (pdi_range1 (by rfl) nb.range (pda_cons (pd_int) (pda_nil))) (blkOk_by (own := [("j", 4)]) (by first | (show blkC N_l_places (defScope s_l_places) _ _ = true; decide +kernel) | kernel_rfl)) (fun _ _ _ _ _ => pdg_name (pg_name (i := 4) nd rfl (by first | exact .inl rfl | exact .inr rfl))) (fun _ _ _ _ _ => pdts_nil) (fun _ _ _ _ _ => pd_ifExp (pdt_cmp (op_eqD hi.blk.room.units) od_eq (pd_var (pv 4)) (pd_var (pv 3)) (nomark _)) (pd_var (pv 8)) (pd_tup (pda_cons (pd_int) (pda_cons (pd_int) (pda_nil))))) (by decide)) (pda_nil))) (pda_nil)))))) (pdss_nil))))))))
      (pdss_one (pds_ret (pd_var (pv 2))))))
/-! ### _law_is_told -/
abbrev s_l_is_told : Stmt := topS 47
abbrev N_l_is_told : List Str := ["bag", "by_name", "names", "many", "s", "plain", "doubled", "place", "seen", "due"]
abbrev P_l_is_told : List Str := ["bag", "by_name"]
theorem sc_l_is_told : FnScope N_l_is_told P_l_is_told (defScope s_l_is_told) := ⟨rfl, rfl, rfl, by decide +kernel, rfl, by decide +kernel, by decide +kernel⟩
theorem bd_l_is_told {K : PySem.W.Frag} {f : Addr} {fd : FuncData} (F : FnP K "_law_is_told" "_law_is_told" s_l_is_told f fd) : Binds K fd P_l_is_told [] := FunD.bindsN F fun _ _ _ _ _ _ us hl => match us, hl with | [_, _], _ => rfl
noncomputable def r_l_is_told (sp_l_some : DSp) (sp_l_draw : DSp) (sp_l_sentence : DSp) (sp_l_many : DSp) (sp_l_same : DSp) (sp_free_names : DSp) (sp_polynomials_of : DSp) (sp_l_free : DSp) (sp_l_polys : DSp) (sp_l_places : DSp) (sp_holds_at : DSp) (sp_l_holds : DSp) : DS := sSeq (sAsg (dCall sp_l_some (aCons (dVar 0) (aCons (dLst (aCons (dC (.str "x")) (aCons (dC (.str "y")) (aCons (dC (.str "z")) (aNil))))) (aCons (dC (.int 3)) (aNil))))) (gNm 2)) (sSeq (sAsg (dCall sp_l_draw (aCons (dVar 0) (aCons (dC (.int 4)) (aNil)))) (gNm 3)) (sSeq (sAsg (dCall sp_l_sentence (aCons (dVar 0) (aCons (dSl (dVar 2) (oNone) (oSome (dVar 3))) (aCons (dSl (dVar 2) (oSome (dVar 3)) (oNone)) (aCons (dBin gAdd (dC (.int 1)) (dCall sp_l_draw (aCons (dVar 0) (aCons (dC (.int 5)) (aNil))))) (aCons (dC (.int 9)) (aNil))))))) (gNm 4)) (sSeq (sIf (dTest (dBin gGt (dCall sp_l_many (aCons (dWk (dVar 4)) (aNil))) (dC (.int 40)))) (sRet (dC (.bl true))) (sNext)) (sSeq (sIf (dAnd (dTru (dVar 1)) (dNot (dTru (dCall sp_l_same (aCons (dTup (aCons (dCallK sp_free_names [0] 1 (aCons (dWk (dVar 4)) (aNil))) (aCons (dCallK sp_polynomials_of [0] 1 (aCons (dWk (dVar 4)) (aNil))) (aNil)))) (aCons (dTup (aCons (dCall sp_l_free (aCons (dWk (dVar 4)) (aNil))) (aCons (dCall sp_l_polys (aCons (dWk (dVar 4)) (aNil))) (aNil)))) (aNil))))))) (sRet (dC (.bl false))) (sNext)) (sSeq (sIf (dNot (dTru (dCall sp_l_same (aCons (dTup (aCons (dCall sp_free_names (aCons (dWk (dVar 4)) (aNil))) (aCons (dCall sp_polynomials_of (aCons (dWk (dVar 4)) (aNil))) (aNil)))) (aCons (dTup (aCons (dCall sp_l_free (aCons (dWk (dVar 4)) (aNil))) (aCons (dCall sp_l_polys (aCons (dWk (dVar 4)) (aNil))) (aNil)))) (aNil)))))) (sRet (dC (.bl false))) (sNext)) (sSeq (sAsg (dCall sp_l_sentence (aCons (dVar 0) (aCons (dSl (dVar 2) (oNone) (oSome (dVar 3))) (aCons (dLst (aNil)) (aCons (dBin gAdd (dC (.int 1)) (dCall sp_l_draw (aCons (dVar 0) (aCons (dC (.int 4)) (aNil))))) (aCons (dC (.int 9)) (aNil))))))) (gNm 5)) (sSeq (sIf (dTest (dBin gGt (dCall sp_l_many (aCons (dWk (dVar 5)) (aNil))) (dC (.int 40)))) (sRet (dC (.bl true))) (sNext)) (sSeq (sAsg (dTup (aCons (dC (.str "or")) (aCons (dWk (dVar 5)) (aCons (dTup (aCons (dC (.str "not")) (aCons (dWk (dVar 5)) (aNil)))) (aNil))))) (gNm 6)) (sSeq (sIf (dAnd (dTest (dBin gLt (dCall sp_l_many (aCons (dWk (dVar 5)) (aNil))) (dC (.int 21)))) (dNot (dTru (dCall sp_l_same (aCons (dTup (aCons (dCall sp_polynomials_of (aCons (dVar 6) (aNil))) (aCons (dCall sp_free_names (aCons (dVar 6) (aNil))) (aNil)))) (aCons (dTup (aCons (dCall sp_l_polys (aCons (dWk (dVar 5)) (aNil))) (aCons (dCall sp_l_free (aCons (dWk (dVar 5)) (aNil))) (aNil)))) (aNil))))))) (sRet (dC (.bl false))) (sNext)) (sSeq (sFor (iSeqA (dCall sp_l_places (aCons (dVar 0) (aCons (dWk (dVar 5)) (aNil))))) (gNm 7) (sSeq (sAsg (dIf (dTru (dVar 1)) (dCallK sp_holds_at [1, 0] 2 (aCons (dVar 7) (aCons (dWk (dVar 5)) (aNil)))) (dCall sp_holds_at (aCons (dWk (dVar 5)) (aCons (dVar 7) (aNil))))) (gNm 8)) (sSeq (sAsg (dCall sp_l_holds (aCons (dWk (dVar 5)) (aCons (dVar 7) (aNil)))) (gNm 9)) (sSeq (sIf (dAnd (dTest (dBin (gInA false) (dBin gIxA (dWk (dVar 5)) (dC (.int 0))) (dTup (aCons (dC (.str "and")) (aCons (dC (.str "or")) (aNil)))))) (dNot (dTru (dCall sp_l_same (aCons (dCall sp_holds_at (aCons (dBin gAdd (dSl (dWk (dVar 5)) (oNone) (oSome (dC (.int 1)))) (dRevA (dSl (dWk (dVar 5)) (oSome (dC (.int 1))) (oNone)))) (aCons (dVar 7) (aNil)))) (aCons (dVar 9) (aNil))))))) (sRet (dC (.bl false))) (sNext)) (sIf (dOr (dNot (dTru (dCall sp_l_same (aCons (dVar 8) (aCons (dVar 9) (aNil)))))) (dNot (dTru (dCall sp_l_same (aCons (dCall sp_holds_at (aCons (dTup (aCons (dC (.str "not")) (aCons (dWk (dVar 5)) (aNil)))) (aCons (dVar 7) (aNil)))) (aCons (dNotV (dVar 9)) (aNil))))))) (sRet (dC (.bl false))) (sNext)))))) (sRet (dC (.bl true)))))))))))))
theorem body_l_is_told {W : Wd} {k : Nat} {sp_l_some : DSp} {sp_l_draw : DSp} {sp_l_sentence : DSp} {sp_l_many : DSp} {sp_l_same : DSp} {sp_free_names : DSp} {sp_polynomials_of : DSp} {sp_l_free : DSp} {sp_l_polys : DSp} {sp_l_places : DSp} {sp_holds_at : DSp} {sp_l_holds : DSp} (f_l_some : GFn W k "_law_some" P_l_some sp_l_some) (f_l_draw : GFn W k "_law_draw" P_l_draw sp_l_draw) (f_l_sentence : GFn W k "_law_sentence" P_l_sentence sp_l_sentence) (f_l_many : GFn W k "_law_many" P_l_many sp_l_many) (f_l_same : GFn W k "_law_same" P_l_same sp_l_same) (f_free_names : GFn W k "free_names" P_free_names sp_free_names) (k_free_names_0 : GFnK W k "free_names" P_free_names sp_free_names ["s"] [0]) (f_polynomials_of : GFn W k "polynomials_of" P_polynomials_of sp_polynomials_of) (k_polynomials_of_0 : GFnK W k "polynomials_of" P_polynomials_of sp_polynomials_of ["s"] [0]) (f_l_free : GFn W k "_law_free" P_l_free sp_l_free) (f_l_polys : GFn W k "_law_polys" P_l_polys sp_l_polys) (f_l_places : GFn W k "_law_places" P_l_places sp_l_places) (f_holds_at : GFn W k "holds_at" P_holds_at sp_holds_at) (k_holds_at_10 : GFnK W k "holds_at" P_holds_at sp_holds_at ["place", "s"] [1, 0]) (f_l_holds : GFn W k "_law_holds" P_l_holds sp_l_holds) : Body W k N_l_is_told "_law_is_told" (defScope s_l_is_told) (defBody s_l_is_told) (r_l_is_told sp_l_some sp_l_draw sp_l_sentence sp_l_many sp_l_same sp_free_names sp_polynomials_of sp_l_free sp_l_polys sp_l_places sp_holds_at sp_l_holds) := fun f cdv A outer s H E hi =>
  have nd := sc_l_is_told.nd
  pdss_cons (pds_set (i := 2) nd rfl (by first | exact .inl rfl | exact .inr rfl) (pd_call f_l_some hi (by rfl) (pda_cons (pd_var (pv 0)) (pda_cons (pd_lst (pda_cons (pd_str) (pda_cons (pd_str) (pda_cons (pd_str) (pda_nil))))) (pda_cons (pd_int) (pda_nil))))))
      (pdss_cons (pds_set (i := 3) nd rfl (by first | exact .inl rfl | exact .inr rfl) (pd_call f_l_draw hi (by rfl) (pda_cons (pd_var (pv 0)) (pda_cons (pd_int) (pda_nil)))))
      (pdss_cons (pds_set (i := 4) nd rfl (by first | exact .inl rfl | exact .inr rfl) (pd_call f_l_sentence hi (by rfl) (pda_cons (pd_var (pv 0)) (pda_cons (pd_slice (pd_var (pv 2)) (pdo_none) (pdo_some (pd_var (pv 3)))) (pda_cons (pd_slice (pd_var (pv 2)) (pdo_some (pd_var (pv 3))) (pdo_none)) (pda_cons (pd_op op_addA od_add (pd_int) (pd_call f_l_draw hi (by rfl) (pda_cons (pd_var (pv 0)) (pda_cons (pd_int) (pda_nil))))) (pda_cons (pd_int) (pda_nil))))))))
      (pdss_cons (pds_if (pdt_cmp op_gt od_gt (pd_call f_l_many hi (by rfl) (pda_cons (pd_wk (pd_var (pv 4))) (pda_nil))) (pd_int) (nomark _)) (pdss_one (pds_ret (pd_bl))) (pdss_nil))
      (pdss_cons (pds_if ((pdw_and (pdt_tru (pd_var (pv 1))) (pdw_and1 (pdt_not (pdt_tru (pd_call f_l_same hi (by rfl) (pda_cons (pd_tup (pda_cons (pd_callK k_free_names_0 hi (by rfl) (pdk_cons (pd_wk (pd_var (pv 4))) (pdk_nil))) (pda_cons (pd_callK k_polynomials_of_0 hi (by rfl) (pdk_cons (pd_wk (pd_var (pv 4))) (pdk_nil))) (pda_nil)))) (pda_cons (pd_tup (pda_cons (pd_call f_l_free hi (by rfl) (pda_cons (pd_wk (pd_var (pv 4))) (pda_nil))) (pda_cons (pd_call f_l_polys hi (by rfl) (pda_cons (pd_wk (pd_var (pv 4))) (pda_nil))) (pda_nil)))) (pda_nil)))))))).pt) (pdss_one (pds_ret (pd_bl))) (pdss_nil))
      (pdss_cons (pds_if (pdt_not (pdt_tru (pd_call f_l_same hi (by rfl) (pda_cons (pd_tup (pda_cons (pd_call f_free_names hi (by rfl) (pda_cons (pd_wk (pd_var (pv 4))) (pda_nil))) (pda_cons (pd_call f_polynomials_of hi (by rfl) (pda_cons (pd_wk (pd_var (pv 4))) (pda_nil))) (pda_nil)))) (pda_cons (pd_tup (pda_cons (pd_call f_l_free hi (by rfl) (pda_cons (pd_wk (pd_var (pv 4))) (pda_nil))) (pda_cons (pd_call f_l_polys hi (by rfl) (pda_cons (pd_wk (pd_var (pv 4))) (pda_nil))) (pda_nil)))) (pda_nil)))))) (pdss_one (pds_ret (pd_bl))) (pdss_nil))
      (pdss_cons (pds_set (i := 5) nd rfl (by first | exact .inl rfl | exact .inr rfl) (pd_call f_l_sentence hi (by rfl) (pda_cons (pd_var (pv 0)) (pda_cons (pd_slice (pd_var (pv 2)) (pdo_none) (pdo_some (pd_var (pv 3)))) (pda_cons (pd_lst (pda_nil)) (pda_cons (pd_op op_addA od_add (pd_int) (pd_call f_l_draw hi (by rfl) (pda_cons (pd_var (pv 0)) (pda_cons (pd_int) (pda_nil))))) (pda_cons (pd_int) (pda_nil))))))))
      (pdss_cons (pds_if (pdt_cmp op_gt od_gt (pd_call f_l_many hi (by rfl) (pda_cons (pd_wk (pd_var (pv 5))) (pda_nil))) (pd_int) (nomark _)) (pdss_one (pds_ret (pd_bl))) (pdss_nil))
      (pdss_cons (pds_set (i := 6) nd rfl (by first | exact .inl rfl | exact .inr rfl) (pd_tup (pda_cons (pd_str) (pda_cons (pd_wk (pd_var (pv 5))) (pda_cons (pd_tup (pda_cons (pd_str) (pda_cons (pd_wk (pd_var (pv 5))) (pda_nil)))) (pda_nil))))))
      (pdss_cons (pds_if ((pdw_and (pdt_cmp op_lt od_lt (pd_call f_l_many hi (by rfl) (pda_cons (pd_wk (pd_var (pv 5))) (pda_nil))) (pd_int) (nomark _)) (pdw_and1 (pdt_not (pdt_tru (pd_call f_l_same hi (by rfl) (pda_cons (pd_tup (pda_cons (pd_call f_polynomials_of hi (by rfl) (pda_cons (pd_var (pv 6)) (pda_nil))) (pda_cons (pd_call f_free_names hi (by rfl) (pda_cons (pd_var (pv 6)) (pda_nil))) (pda_nil)))) (pda_cons (pd_tup (pda_cons (pd_call f_l_polys hi (by rfl) (pda_cons (pd_wk (pd_var (pv 5))) (pda_nil))) (pda_cons (pd_call f_l_free hi (by rfl) (pda_cons (pd_wk (pd_var (pv 5))) (pda_nil))) (pda_nil)))) (pda_nil)))))))).pt) (pdss_one (pds_ret (pd_bl))) (pdss_nil))
      (pdss_cons (pds_for PassesOwn.never rfl (pdi_seqA (pd_call f_l_places hi (by rfl) (pda_cons (pd_var (pv 0)) (pda_cons (pd_wk (pd_var (pv 5))) (pda_nil))))) (pdg_name (pg_name (i := 7) nd rfl (by first | exact .inl rfl | exact .inr rfl))) (pdss_cons (pds_set (i := 8) nd rfl (by first | exact .inl rfl | exact .inr rfl) (pd_ifExp (pdt_tru (pd_var (pv 1))) (pd_callK k_holds_at_10 hi (by rfl) (pdk_cons (pd_var (pv 7)) (pdk_cons (pd_wk (pd_var (pv 5))) (pdk_nil)))) (pd_call f_holds_at hi (by rfl) (pda_cons (pd_wk (pd_var (pv 5))) (pda_cons (pd_var (pv 7)) (pda_nil))))))
      (pdss_cons (pds_set (i := 9) nd rfl (by first | exact .inl rfl | exact .inr rfl) (pd_call f_l_holds hi (by rfl) (pda_cons (pd_wk (pd_var (pv 5))) (pda_cons (pd_var (pv 7)) (pda_nil)))))
      (pdss_cons (pds_if ((pdw_and (pdt_cmp (op_inA hi.room.units2) od_rL2 (pd_ixA hi.room.units (pd_wk (pd_var (pv 5))) (pd_int)) (pd_tup (pda_cons (pd_str) (pda_cons (pd_str) (pda_nil)))) (by rfl)) (pdw_and1 (pdt_not (pdt_tru (pd_call f_l_same hi (by rfl) (pda_cons (pd_call f_holds_at hi (by rfl) (pda_cons (pd_op op_addA od_add (pd_slice (pd_wk (pd_var (pv 5))) (pdo_none) (pdo_some (pd_int))) (pd_revA (pd_slice (pd_wk (pd_var (pv 5))) (pdo_some (pd_int)) (pdo_none)))) (pda_cons (pd_var (pv 7)) (pda_nil)))) (pda_cons (pd_var (pv 9)) (pda_nil)))))))).pt) (pdss_one (pds_ret (pd_bl))) (pdss_nil))
      (pdss_one (pds_if ((pdw_or (pdt_not (pdt_tru (pd_call f_l_same hi (by rfl) (pda_cons (pd_var (pv 8)) (pda_cons (pd_var (pv 9)) (pda_nil)))))) (pdw_or1 (pdt_not (pdt_tru (pd_call f_l_same hi (by rfl) (pda_cons (pd_call f_holds_at hi (by rfl) (pda_cons (pd_tup (pda_cons (pd_str) (pda_cons (pd_wk (pd_var (pv 5))) (pda_nil)))) (pda_cons (pd_var (pv 7)) (pda_nil)))) (pda_cons (pd_not (pd_var (pv 9))) (pda_nil)))))))).pt) (pdss_one (pds_ret (pd_bl))) (pdss_nil)))))))
      (pdss_one (pds_ret (pd_bl)))))))))))))
/-! ### law -/
abbrev s_law : Stmt := topS 48
abbrev N_law : List Str := ["script", "bag", "turn"]
abbrev P_law : List Str := ["script"]
theorem sc_law : FnScope N_law P_law (defScope s_law) := ⟨rfl, rfl, rfl, by decide +kernel, rfl, by decide +kernel, by decide +kernel⟩
theorem bd_law {K : PySem.W.Frag} {f : Addr} {fd : FuncData} (F : FnP K "law" "law" s_law f fd) : Binds K fd P_law [] := FunD.bindsN F fun _ _ _ _ _ _ us hl => match us, hl with | [_], _ => rfl
noncomputable def r_law (sp_l_bag : DSp) (sp_l_is_told : DSp) : DS := sSeq (sAsg (dCall sp_l_bag (aCons (dVar 0) (aNil))) (gNm 1)) (sSeq (sFor (iRange1 (aCons (dC (.int 8)) (aNil))) (gNm 2) (sIf (dNot (dTru (dCall sp_l_is_told (aCons (dVar 1) (aCons (dBin gEq (dVar 2) (dC (.int 3))) (aNil)))))) (sRet (dC (.bl false))) (sNext))) (sRet (dC (.bl true))))
theorem body_law {W : Wd} {k : Nat} {sp_l_bag : DSp} {sp_l_is_told : DSp} (f_l_bag : GFn W k "_law_bag" P_l_bag sp_l_bag) (f_l_is_told : GFn W k "_law_is_told" P_l_is_told sp_l_is_told) (nb : NB W) : Body W k N_law "law" (defScope s_law) (defBody s_law) (r_law sp_l_bag sp_l_is_told) := fun f cdv A outer s H E hi =>
  have nd := sc_law.nd
  pdss_cons (pds_set (i := 1) nd rfl (by first | exact .inl rfl | exact .inr rfl) (pd_call f_l_bag hi (by rfl) (pda_cons (pd_var (pv 0)) (pda_nil))))
      (pdss_cons (pds_for PassesOwn.never rfl (pdi_range1 (by rfl) nb.range (pda_cons (pd_int) (pda_nil))) (pdg_name (pg_name (i := 2) nd rfl (by first | exact .inl rfl | exact .inr rfl))) (pdss_one (pds_if (pdt_not (pdt_tru (pd_call f_l_is_told hi (by rfl) (pda_cons (pd_var (pv 1)) (pda_cons (pd_cmp (op_eqD hi.room.units) od_eq (pd_var (pv 2)) (pd_int) (nomark _)) (pda_nil)))))) (pdss_one (pds_ret (pd_bl))) (pdss_nil))))
      (pdss_one (pds_ret (pd_bl))))
end DD
end
section
namespace DD
open PySem PySem.Spec PyProof.Rows L2
theorem updM_swap {M : Mem} {p q : Addr} {a b : MO} (h : p ≠ q) : updM (updM M q a) p b = updM (updM M p b) q a := by
  funext x
  unfold updM
  by_cases h1 : x = p
  · by_cases h2 : x = q
    · exact absurd (h1.symm.trans h2) h
    · simp [h1, h2, h]
  · simp [h1]
/-- a comprehension that walks through states -/
theorem lc_seq {g : DG} {te : DE} {vs : List Nat} {δ : DSt} {R : DK} {ds : List D} {ok : Mem → Prop} {M1 : Mem} (F : Nat → Mem) (f : Nat → D) (F0 : F 0 = M1) (hl : ds.length ≤ sizeLine) (hok : ∀ i p acc, M1 p = none → ok (updM (F i) p (.lst acc)))
    (step : ∀ (i : Nat) (x : D) (p : Addr) (acc : List D) (RY : D → Mem → Prop), ds[i]? = some x → M1 p = none → (∀ M4, M4 = updM (F (i + 1)) p (.lst acc) → RY (f i) M4) → g x (wipeD δ vs) (updM (F i) p (.lst acc)) fun δ2 M2 => te δ2 M2 RY)
    (hR : ∀ p, M1 p = none → R (.ref p) (updM (F ds.length) p (.lst ((List.range ds.length).map f)))) : LcIn g tYesD te vs δ R ds ok M1 := by
  intro p hp
  refine ⟨fun i acc M => M = F i ∧ acc = (List.range i).map f, ⟨F0.symm, by simp⟩, ?_, ?_, ?_⟩
  · rintro i acc M ⟨rfl, rfl⟩
    exact hok i p _ hp
  · rintro i x acc M hx ⟨rfl, rfl⟩
    have hi : i < ds.length := (List.getElem?_eq_some_iff.mp hx).1
    refine ⟨by simp; omega, ?_⟩
    simp only [eq_tYesD, if_true]
    refine step i x p _ _ hx hp fun M4 e => ⟨_, e, rfl, ?_⟩
    rw [List.range_succ]; simp
  · rintro acc M ⟨rfl, rfl⟩
    exact hR p hp
@[simp] theorem tru_int {M : Mem} {i : Int} : truD M (.int i) = some (i != 0) := rfl
theorem updM_none {M : Mem} {p q : Addr} {o : MO} (h : updM M q o p = none) : p ≠ q ∧ M p = none := by
  by_cases e : p = q
  · rw [e, updM_same] at h; cases h
  · rw [updM_ne e] at h; exact ⟨e, h⟩
@[simp] theorem eq_gSum {M : Mem} {R : DK} {a : Addr} : gSum [.ref a] M R = (match M a with
    | some (.lst ys) => (match intsD ys with
      | some ns => ∃ M0, Sub M0 M ∧ R (.int ns.sum) M0
      | none => False)
    | _ => False) := propext Iff.rfl
theorem gsum_ints {M : Mem} {R : DK} {p : Addr} {ns : List Int} (h : M p = some (.lst (ns.map D.int))) : gSum [.ref p] M R = ∃ M0, Sub M0 M ∧ R (.int ns.sum) M0 := by
  rw [eq_gSum, h]
  show (match intsD (ns.map D.int) with
      | some ns => ∃ M0, Sub M0 M ∧ R (.int ns.sum) M0
      | none => False) = _
  rw [intsD_map]
@[simp] theorem eq_oNone {δ : DSt} {M : Mem} {R : Option Int → Mem → Prop} : oNone δ M R = R none M := propext Iff.rfl
@[simp] theorem eq_oSome {t : DE} {δ : DSt} {M : Mem} {R : Option Int → Mem → Prop} : oSome t δ M R = t δ M fun d M1 => (match d with
  | .int i => R (some i) M1
  | _ => False) := propext Iff.rfl
@[simp] theorem eq_dSl {te : DE} {tl th : DO} {δ : DSt} {M : Mem} {R : DK} : dSl te tl th δ M R = te δ M fun x M1 => tl δ M1 fun lo M2 => th δ M2 fun hi M3 => gSl x lo hi M3 R := propext Iff.rfl
@[simp] theorem eq_gSll {a : Addr} {lo hi : Option Int} {M : Mem} {R : DK} : gSl (.ref a) lo hi M R = (match M a with
    | some (.lst xs) => ∀ p, M p = none → R (.ref p) (updM M p (.lst (cutD xs lo hi)))
    | _ => False) := propext Iff.rfl
@[simp] theorem eq_gSlt {xs : List D} {lo hi : Option Int} {M : Mem} {R : DK} : gSl (.tup xs) lo hi M R = R (.tup (cutD xs lo hi)) M := propext Iff.rfl
theorem cut_to {xs : List D} {k : Int} (h0 : 0 ≤ k) (h1 : k ≤ xs.length) : cutD xs none (some k) = xs.take k.toNat := by
  unfold cutD HT.sIx
  simp only [List.drop_zero, Nat.sub_zero]
  rw [if_neg (by omega), Nat.min_eq_left (by omega)]
/-- the memory but for p -/
def hideM (M : Mem) (p : Addr) : Mem := fun a => if a = p then none else M a
theorem hide_put {M : Mem} {p : Addr} {o : MO} (h : M p = some o) : M = updM (hideM M p) p o := by
  funext a
  unfold updM hideM
  by_cases e : a = p
  · simp [e, h]
  · simp [e]
theorem hide_none {M : Mem} {p : Addr} : hideM M p p = none := by unfold hideM; simp
theorem hide_ne {M : Mem} {p a : Addr} (h : a ≠ p) : hideM M p a = M a := by unfold hideM; simp [h]
theorem ok_pair (n : Nat) (a b : D) (h1 : okD n a) (h2 : okD n b) : okD (n + 1) (.tup [a, b]) := ⟨by simp, fun x hx => by
  simp at hx
  rcases hx with rfl | rfl
  · exact h1
  · exact h2⟩
theorem ok_three (n : Nat) (a b c : D) (h1 : okD n a) (h2 : okD n b) (h3 : okD n c) : okD (n + 1) (.tup [a, b, c]) := ⟨by simp, fun x hx => by
  simp at hx
  rcases hx with rfl | rfl | rfl
  · exact h1
  · exact h2
  · exact h3⟩
theorem ok_int (n : Nat) (i : Int) : okD n (.int i) := by cases n <;> trivial
theorem Bag.hide {b g c p : Addr} {M : Mem} {N : Nat} (h : Bag M b g c N) (h1 : b ≠ p) (h2 : g ≠ p) (h3 : c ≠ p) : Bag (hideM M p) b g c N := h.frame (hide_ne h1) (hide_ne h2) (hide_ne h3)
theorem Bag.draw {b g c : Addr} {M : Mem} {N : Nat} {many : Int} {R : DK} (h : Bag M b g c N) (hN : N ≤ 2 ^ 40) (h0 : 0 < many) (h1 : many < 2 ^ 200) (k : ∀ x M', 0 ≤ x → x < many → Bag M' b g c (N + 1) → SameBut b g M M' → R (.int x) M') : spDraw [.ref b, .int many] M R :=
  ⟨b, g, c, N, many, rfl, h, hN, h0, h1, k⟩
theorem Bag.pick {b g c p : Addr} {M : Mem} {N : Nat} {xs : List D} {R : DK} (h : Bag M b g c N) (hN : N ≤ 2 ^ 40) (hp : M p = none) (h0 : xs ≠ []) (h1 : xs.length < 2 ^ 60) (k : ∀ x M', x ∈ xs → Bag M' b g c (N + 1) → SameBut b g (updM M p (.lst xs)) M' → R x M') : spPick [.ref b, .ref p] (updM M p (.lst xs)) R :=
  have n := h.ne hp
  ⟨b, g, c, p, N, xs, rfl, h.new hp, hN, updM_same, h0, h1, n.1, n.2.1, n.2.2, k⟩
end DD
end
section
namespace DD
open PySem PySem.Spec PyProof.Rows L2
/-! ### the readings of dicts, by simp -/
section
variable {δ : DSt} {M : Mem} {R : DK} {RT : Bool → Mem → Prop} {RA : List D → Mem → Prop} {E : DEnds}
@[simp] theorem dctM_tup {xs : List D} : dctM M (.tup xs) = none := rfl
@[simp] theorem dctM_str {z : Str} : dctM M (.str z) = none := rfl
@[simp] theorem dctM_rol {xs : List D} : dctM M (.rol xs) = none := rfl
@[simp] theorem dctM_ref {a : Addr} : dctM M (.ref a) = (match M a with
  | some (.dct kvs) => some kvs
  | some (.fct kvs) => some kvs
  | _ => none) := rfl
@[simp] theorem eq_gIxA {x y : D} : gIxA x y M R = (match dctM M x with
  | some kvs => KeyOk kvs y ∧ (match getK kvs y with
    | some d => R d M
    | none => False)
  | none => gIx x y M R) := propext Iff.rfl
@[simp] theorem eq_gInA {b : Bool} {x y : D} : gInA b x y M R = (match dctM M y with
  | some kvs => KeyOk kvs x ∧ R (.bl (if b then !(getK kvs x).isSome else (getK kvs x).isSome)) M
  | none => match flD x, (itemsD M y).bind flDs with
    | some v, some vs => R (.bl (if b then !inFl v vs else inFl v vs)) M
    | _, _ => if b then gNotIn x y M R else gIn x y M R) := propext Iff.rfl
@[simp] theorem flD_str {z : Str} : flD (.str z) = some (.str z) := rfl
@[simp] theorem flD_int {z : Int} : flD (.int z) = some (.int z) := rfl
@[simp] theorem flD_bl {z : Bool} : flD (.bl z) = some (.bl z) := rfl
@[simp] theorem flD_tup {xs : List D} : flD (.tup xs) = none := rfl
@[simp] theorem flDs_nil : flDs [] = some [] := rfl
@[simp] theorem flDs_cons {d : D} {ds : List D} : flDs (d :: ds) = (match flD d, flDs ds with
  | some v, some vs => some (v :: vs)
  | _, _ => none) := rfl
theorem flDs_strs : ∀ zs : List Str, flDs (zs.map D.str) = some (zs.map V.str)
  | [] => rfl
  | z :: zs => by
    show (match flD (.str z), flDs (zs.map D.str) with
      | some v, some vs => some (v :: vs)
      | _, _ => none) = _
    rw [flDs_strs zs]; rfl
theorem flDs_ints : ∀ zs : List Int, flDs (zs.map D.int) = some (zs.map V.int)
  | [] => rfl
  | z :: zs => by
    show (match flD (.int z), flDs (zs.map D.int) with
      | some v, some vs => some (v :: vs)
      | _, _ => none) = _
    rw [flDs_ints zs]; rfl
theorem flDs_bls : ∀ zs : List Bool, flDs (zs.map D.bl) = some (zs.map V.bl)
  | [] => rfl
  | z :: zs => by
    show (match flD (.bl z), flDs (zs.map D.bl) with
      | some v, some vs => some (v :: vs)
      | _, _ => none) = _
    rw [flDs_bls zs]; rfl
@[simp] theorem eq_gSetA {a : Addr} {y z : D} {Q : Mem → Prop} : gSetA (.ref a) y z M Q = (match M a with
    | some (.dct kvs) => KeyOk kvs y ∧ kvs.length < sizeLine ∧ Q (updM M a (.dct (putD' kvs y z)))
    | _ => gSetL (.ref a) y z M Q) := propext Iff.rfl
@[simp] theorem eq_dDict0 : dDict0 δ M R = ∀ p, M p = none → R (.ref p) (updM M p (.dct [])) := propext Iff.rfl
@[simp] theorem eq_dGet1 {to tk : DE} : dGet1 to tk δ M R = to δ M fun x M1 => (dctM M1 x).isSome = true ∧ tk δ M1 fun k M2 => (match dctM M2 x with
  | some kvs => KeyOk kvs k ∧ R ((getK kvs k).getD .non) M2
  | none => False) := propext Iff.rfl
@[simp] theorem eq_dGet2 {to tk tx : DE} : dGet2 to tk tx δ M R = to δ M fun x M1 => (dctM M1 x).isSome = true ∧ tk δ M1 fun k M2 => tx δ M2 fun z M3 => (match dctM M3 x with
  | some kvs => KeyOk kvs k ∧ R ((getK kvs k).getD z) M3
  | none => False) := propext Iff.rfl
@[simp] theorem eq_dLock {t : DE} : dLock t δ M R = ∃ p kvs, M p = some (.dct kvs) ∧ t δ (updM M p (.fct kvs)) fun d M' => R d (updM M' p (.dct kvs)) := propext Iff.rfl
@[simp] theorem eq_sLock {t : DS} : sLock t E δ M = ∃ p kvs, M p = some (.dct kvs) ∧ t ⟨fun δ' M' => E.nx δ' (updM M' p (.dct kvs)), fun d M' => E.rt d (updM M' p (.dct kvs)), fun δ' M' => E.bk δ' (updM M' p (.dct kvs)), fun δ' M' => E.ct δ' (updM M' p (.dct kvs))⟩ δ (updM M p (.fct kvs)) := propext Iff.rfl
@[simp] theorem keyL_tup {xs : List D} : keyL M (.tup xs) = none := rfl
@[simp] theorem keyL_rol {xs : List D} : keyL M (.rol xs) = none := rfl
@[simp] theorem keyL_ref {a : Addr} : keyL M (.ref a) = (match M a with
  | some (.fct kvs) => some kvs
  | _ => none) := rfl
@[simp] theorem eq_iSeqA {te : DE} {Q : List D → (Mem → Prop) → Mem → Prop} : iSeqA te δ M Q = te δ M fun d M1 => (match keyL M1 d with
  | some kvs => Q (kvs.map (·.1)) (fun M => ∃ a, d = .ref a ∧ M a = some (.fct kvs)) M1
  | none => match srcD M1 d with
    | some (xs, ok) => Q xs ok M1
    | none => False) := propext Iff.rfl
@[simp] theorem eq_iZipD {t : DA} {Q : List D → (Mem → Prop) → Mem → Prop} : iZipD t δ M Q = t δ M fun ds M1 => (match ds with
  | [x, y] => (match srcD M1 x, srcD M1 y with
    | some (xs, ok1), some (ys, ok2) => Q (zipD xs ys) (fun M => ok1 M ∧ ok2 M) M1
    | _, _ => False)
  | _ => False) := propext Iff.rfl
@[simp] theorem keyA_tup {xs : List D} : keyA M (.tup xs) = none := rfl
@[simp] theorem keyA_rol {xs : List D} : keyA M (.rol xs) = none := rfl
@[simp] theorem keyA_ref {a : Addr} : keyA M (.ref a) = (match M a with
  | some (.fct kvs) => some kvs
  | some (.dct kvs) => some kvs
  | _ => none) := rfl
@[simp] theorem eq_gListA {d : D} : gListA [d] M R = (match keyA M d with
    | some kvs => ∀ p, M p = none → R (.ref p) (updM M p (.lst (kvs.map (·.1))))
    | none => gList [d] M R) := propext Iff.rfl
theorem eq_gSortedA {d : D} : gSortedA [d] M R = (match keyA M d with
    | some kvs => (∃ ps, pyds (kvs.map (·.1)) = some ps) ∧ PySem.W.AllAlike ((kvs.map (·.1)).map toP) ∧ PySem.W.Sortable ((kvs.map (·.1)).map toP) ∧ (∀ y ∈ kvs.map (·.1), (toP y).depth ≤ 60) ∧
      ∃ M0, Sub M0 M ∧ ∀ p, M0 p = none → R (.ref p) (updM M0 p (.lst ((kvs.map (·.1)).mergeSort dLe)))
    | none => gSorted [d] M R) := propext Iff.rfl
@[simp] theorem eq_dListRev {te : DE} : dListRev te δ M R = te δ M fun d M1 => (match d with
  | .tup ys => ∀ p, M1 p = none → R (.ref p) (updM M1 p (.lst ys.reverse))
  | _ => False) := propext Iff.rfl
@[simp] theorem eq_dRevA {te : DE} : dRevA te δ M R = te δ M fun d M1 => (match d with
  | .tup ys => R (.tup ys.reverse) M1
  | .ref a => (match M1 a with
    | some (.lst ys) => ∀ p, M1 p = none → R (.ref p) (updM M1 p (.lst ys.reverse))
    | _ => False)
  | _ => False) := propext Iff.rfl
@[simp] theorem eq_dCBK {g : DC2} {t tk : DA} : dCBK g t tk δ M R = t δ M fun xs M1 => tk δ M1 fun zs M2 => g xs zs M2 R := propext Iff.rfl
@[simp] theorem eq_gMaxDef {a : Addr} {d : D} : gMaxDef [.ref a] [d] M R = (match M a with
    | some (.lst ys) => (match intsD ys with
      | some [] => ∃ M0, Sub M0 M ∧ R d M0
      | some (n :: r) => ∃ M0, Sub M0 M ∧ R (.int (r.foldl max n)) M0
      | none => False)
    | _ => False) := propext Iff.rfl
@[simp] theorem eq_gTupP {a : Addr} : gTupP [.ref a] M R = (match M a with
    | some (.lst ys) => ∃ M0, Sub M0 M ∧ R (.pup ys) M0
    | _ => False) := propext Iff.rfl
@[simp] theorem eq_gDictQ {ds : List D} : gDictQ [.pup ds] M R = (match pairsD ds with
    | some ps => (∀ p ∈ ps, isTk p.1 = true) ∧ ∀ p, M p = none → R (.ref p) (updM M p (.dct (putAll [] ps)))
    | none => False) := propext Iff.rfl
@[simp] theorem eq_dWk {t : DE} : dWk t δ M R = t δ M fun d M' => ∃ d', Wk d d' ∧ R d' M' := propext Iff.rfl
@[simp] theorem eq_gAllD {a : Addr} : gAllD [.ref a] M R = (match M a with
    | some (.lst ys) => (match pyds ys with
      | some ps => PyData.plainAll ps = true ∧ (∀ x ∈ ps, x.fits63) ∧ R (.bl (ps.all PyData.truthy)) M
      | none => False)
    | _ => False) := propext Iff.rfl
@[simp] theorem eq_gAnyD {a : Addr} : gAny [.ref a] M R = (match M a with
    | some (.lst ys) => (match pyds ys with
      | some ps => PyData.plainAll ps = true ∧ (∀ x ∈ ps, x.fits63) ∧ R (.bl (ps.any PyData.truthy)) M
      | none => False)
    | _ => False) := propext Iff.rfl
/-- any, all of a generator expression whose elements are bools and leave the memory -/
def AnyIn (P : Addr) (stop : Bool) (g : DG) (tt : DT) (te : DE) (vs : List Nat) (δ : DSt) (R : DK) (ds : List D) (ok : Mem → Prop) (M1 : Mem) : Prop := M1 P = some .tbl ∧ ∃ W : Nat → Mem → Prop, W 0 M1 ∧
  (∀ i M, i ≤ ds.length → W i M → ok M) ∧
  (∀ i x M, ds[i]? = some x → W i M → g x (wipeD δ vs) M fun δ2 M2 => tt δ2 M2 fun b M3 =>
    if b = true then te δ2 M3 fun y M4 => (match y with
      | .bl c => if c = stop then R (.bl stop) M4 else W (i + 1) M4
      | _ => False) else W (i + 1) M3) ∧
  ∀ M, W ds.length M → R (.bl (!stop)) M
@[simp] theorem eq_dAnyG {P : Addr} {stop : Bool} {di : DI} {g : DG} {tt : DT} {te : DE} {vs : List Nat} : dAnyG P stop di g tt te vs δ M R = di δ M (AnyIn P stop g tt te vs δ R) := propext Iff.rfl
theorem any_in {P : Addr} {g : DG} {te : DE} {vs : List Nat} {ds : List D} {ok : Mem → Prop} {M1 : Mem} (f : D → Bool) (hP : M1 P = some .tbl) (hok : ok M1)
    (step : ∀ (x : D) (RY : D → Mem → Prop), x ∈ ds → RY (.bl (f x)) M1 → g x (wipeD δ vs) M1 fun δ2 M2 => te δ2 M2 RY) (hR : R (.bl (ds.any f)) M1) : AnyIn P true g tYesD te vs δ R ds ok M1 := by
  refine ⟨hP, fun i M => M = M1 ∧ (ds.take i).any f = false, ⟨rfl, by simp⟩, fun i M _ h => by rw [h.1]; exact hok, fun i x M hx h => ?_, fun M h => ?_⟩
  · obtain ⟨rfl, h⟩ := h
    simp only [eq_tYesD, if_true]
    refine step x _ (List.mem_of_getElem? hx) ?_
    have e : (ds.take (i + 1)).any f = f x := by
      rw [List.take_add_one, hx]
      simp only [Option.toList_some, List.any_append, h, Bool.false_or, List.any_cons, List.any_nil, Bool.or_false]
    cases q : f x with
    | true =>
      have : ds.any f = true := List.any_eq_true.mpr ⟨x, List.mem_of_getElem? hx, q⟩
      rw [this] at hR
      exact hR
    | false => exact ⟨rfl, by rw [e, q]⟩
  · obtain ⟨rfl, h⟩ := h
    rw [List.take_length] at h
    rw [h] at hR
    exact hR
theorem all_in {P : Addr} {g : DG} {te : DE} {vs : List Nat} {ds : List D} {ok : Mem → Prop} {M1 : Mem} (f : D → Bool) (hP : M1 P = some .tbl) (hok : ok M1)
    (step : ∀ (x : D) (RY : D → Mem → Prop), x ∈ ds → RY (.bl (f x)) M1 → g x (wipeD δ vs) M1 fun δ2 M2 => te δ2 M2 RY) (hR : R (.bl (ds.all f)) M1) : AnyIn P false g tYesD te vs δ R ds ok M1 := by
  refine ⟨hP, fun i M => M = M1 ∧ (ds.take i).all f = true, ⟨rfl, by simp⟩, fun i M _ h => by rw [h.1]; exact hok, fun i x M hx h => ?_, fun M h => ?_⟩
  · obtain ⟨rfl, h⟩ := h
    simp only [eq_tYesD, if_true]
    refine step x _ (List.mem_of_getElem? hx) ?_
    have e : (ds.take (i + 1)).all f = f x := by
      rw [List.take_add_one, hx]
      simp only [Option.toList_some, List.all_append, h, Bool.true_and, List.all_cons, List.all_nil, Bool.and_true]
    cases q : f x with
    | false =>
      have : ds.all f = false := by
        rw [Bool.eq_false_iff]
        intro z
        rw [List.all_eq_true] at z
        rw [z x (List.mem_of_getElem? hx)] at q; cases q
      rw [this] at hR
      exact hR
    | true => exact ⟨rfl, by rw [e, q]⟩
  · obtain ⟨rfl, h⟩ := h
    rw [List.take_length] at h
    rw [h] at hR
    exact hR
/-- a dict comprehension whose parts leave the memory -/
def DcIn (g : DG) (tt : DT) (tk tv : DE) (vs : List Nat) (δ : DSt) (R : DK) (ds : List D) (ok : Mem → Prop) (M1 : Mem) : Prop := ∀ p, M1 p = none → ∃ W : Nat → List (D × D) → Mem → Prop, W 0 [] M1 ∧
  (∀ i acc M, W i acc M → ok (updM M p (.dct acc))) ∧
  (∀ i x acc M, ds[i]? = some x → W i acc M → g x (wipeD δ vs) (updM M p (.dct acc)) fun δ2 M2 => tt δ2 M2 fun b M3 =>
    if b = true then tk δ2 M3 fun k M4 => tv δ2 M4 fun v M5 => ∃ M6, M5 = updM M6 p (.dct acc) ∧ KeyOk acc k ∧ acc.length < sizeLine ∧ W (i + 1) (putD' acc k v) M6 else ∃ M6, M3 = updM M6 p (.dct acc) ∧ W (i + 1) acc M6) ∧
  ∀ acc M, W ds.length acc M → R (.ref p) (updM M p (.dct acc))
@[simp] theorem eq_dDc {di : DI} {g : DG} {tt : DT} {tk tv : DE} {vs : List Nat} : dDc di g tt tk tv vs δ M R = di δ M (DcIn g tt tk tv vs δ R) := propext Iff.rfl
end
/-! ### keys -/
theorem getK_nil {k : D} : getK [] k = none := rfl
theorem getK_cons {p : D × D} {kvs : List (D × D)} {k : D} : getK (p :: kvs) k = if p.1 = k then some p.2 else getK kvs k := by
  unfold getK
  rw [List.find?_cons]
  by_cases h : p.1 = k
  · simp [h]
  · simp [h]
theorem getK_append {a b : List (D × D)} {k : D} : getK (a ++ b) k = (getK a k).orElse fun _ => getK b k := by
  induction a with
  | nil => simp [getK_nil]
  | cons p a ih =>
    rw [List.cons_append, getK_cons, getK_cons, ih]
    split <;> rfl
theorem getK_none {kvs : List (D × D)} {k : D} : getK kvs k = none ↔ ∀ p ∈ kvs, p.1 ≠ k := by
  unfold getK
  simp [List.find?_eq_none]
theorem put_new {kvs : List (D × D)} {k v : D} (h : getK kvs k = none) : putD' kvs k v = kvs ++ [(k, v)] := by
  unfold putD'
  rw [h]; rfl
theorem put_old {kvs : List (D × D)} {k v d : D} (h : getK kvs k = some d) : putD' kvs k v = kvs.map fun p => if p.1 = k then (p.1, v) else p := by
  unfold putD'
  rw [h]; rfl
theorem put_keys {kvs : List (D × D)} {k v : D} : (putD' kvs k v).map (·.1) = if (getK kvs k).isSome then kvs.map (·.1) else kvs.map (·.1) ++ [k] := by
  cases h : getK kvs k with
  | none => rw [put_new h]; simp
  | some d =>
    rw [put_old h]
    simp only [List.map_map, Option.isSome_some, if_true]
    refine List.map_congr_left fun p _ => ?_
    simp only [Function.comp]
    split <;> rfl
end DD
end
section
namespace DD
open PySem PySem.Spec PyProof.Rows L2
/-! ### plain data: None, ints, texts, tuples of such -/
mutual
def plB : D → Bool
  | .non => true
  | .int _ => true
  | .str z => (PyData.str z).canLay0
  | .tup xs => plBs xs
  | _ => false
def plBs : List D → Bool
  | [] => true
  | d :: ds => plB d && plBs ds
end
mutual
def dep : D → Nat
  | .tup xs => deps xs + 1
  | _ => 0
def deps : List D → Nat
  | [] => 0
  | d :: ds => max (dep d) (deps ds)
end
mutual
theorem pl_pyd : ∀ {x : D}, plB x = true → pyd x = some (toP x) ∧ (toP x).canLay0 = true ∧ (toP x).depth = dep x
  | .non, _ => ⟨rfl, by simp [toP, pyd, PyData.canLay0], by simp [toP, pyd, PyData.depth, dep]⟩
  | .int _, _ => ⟨rfl, by simp [toP, pyd, PyData.canLay0], by simp [toP, pyd, PyData.depth, dep]⟩
  | .str z, h => ⟨rfl, h, by simp [toP, pyd, PyData.depth, dep]⟩
  | .tup xs, h => by
    obtain ⟨h1, h2, h3⟩ := pls_pyd (xs := xs) h
    have e : toP (.tup xs) = .tuple (xs.map toP) := by
      show ((pyds xs).map PyData.tuple).getD .none = _
      rw [h1]; rfl
    refine ⟨?_, ?_, ?_⟩
    · show (pyds xs).map PyData.tuple = _
      rw [h1, e]; rfl
    · rw [e, PyData.canLay0, h2]
    · rw [e, PyData.depth, h3, dep]
  | .bl _, h => nomatch h
  | .ref _, h => nomatch h
  | .ty _, h => nomatch h
  | .rol _, h => nomatch h
  | .pup _, h => nomatch h
theorem pls_pyd : ∀ {xs : List D}, plBs xs = true → pyds xs = some (xs.map toP) ∧ PyData.canLayAll0 (xs.map toP) = true ∧ PyData.depthAll (xs.map toP) = deps xs
  | [], _ => ⟨rfl, by simp [PyData.canLayAll0], by simp [PyData.depthAll, deps]⟩
  | d :: ds, h => by
    have h : (plB d && plBs ds) = true := h
    obtain ⟨a, b⟩ := Bool.and_eq_true_iff.mp h
    obtain ⟨a1, a2, a3⟩ := pl_pyd a
    obtain ⟨b1, b2, b3⟩ := pls_pyd b
    refine ⟨?_, ?_, ?_⟩
    · show (match pyd d, pyds ds with
        | some x, some xs => some (x :: xs)
        | _, _ => none) = _
      rw [a1, b1]; rfl
    · rw [List.map_cons, PyData.canLayAll0, a2, b2]; rfl
    · rw [List.map_cons, PyData.depthAll, a3, b3, deps]
end
mutual
theorem pl_eqv : ∀ {x y : D}, plB x = true → plB y = true → PyData.eqv (toP x) (toP y) = decide (x = y)
  | .tup xs, .tup ys, h, k => by
    have e : ∀ zs : List D, plBs zs = true → toP (.tup zs) = .tuple (zs.map toP) := fun zs hz => by
      show ((pyds zs).map PyData.tuple).getD .none = _
      rw [(pls_pyd hz).1]; rfl
    rw [e xs h, e ys k, PyData.eqv, pls_eqv h k]
    simp
  | .non, y, _, k => by
    cases y with
    | tup ys =>
      have e : toP (.tup ys) = .tuple (ys.map toP) := by
        show ((pyds ys).map PyData.tuple).getD .none = _
        rw [(pls_pyd k).1]; rfl
      rw [e]; simp [toP, pyd, PyData.eqv]
    | non => simp [toP, pyd, PyData.eqv]
    | int _ => simp [toP, pyd, PyData.eqv]
    | str _ => simp [toP, pyd, PyData.eqv]
    | _ => cases k
  | .int i, y, _, k => by
    cases y with
    | tup ys =>
      have e : toP (.tup ys) = .tuple (ys.map toP) := by
        show ((pyds ys).map PyData.tuple).getD .none = _
        rw [(pls_pyd k).1]; rfl
      rw [e]; simp [toP, pyd, PyData.eqv]
    | non => simp [toP, pyd, PyData.eqv]
    | int j =>
      show PyData.eqv (.int i) (.int j) = _
      unfold PyData.eqv
      exact Bool.eq_iff_iff.mpr (by simp)
    | str _ => simp [toP, pyd, PyData.eqv]
    | _ => cases k
  | .str z, y, _, k => by
    cases y with
    | tup ys =>
      have e : toP (.tup ys) = .tuple (ys.map toP) := by
        show ((pyds ys).map PyData.tuple).getD .none = _
        rw [(pls_pyd k).1]; rfl
      rw [e]; simp [toP, pyd, PyData.eqv]
    | non => simp [toP, pyd, PyData.eqv]
    | int _ => simp [toP, pyd, PyData.eqv]
    | str y =>
      show PyData.eqv (.str z) (.str y) = _
      unfold PyData.eqv
      exact Bool.eq_iff_iff.mpr (by simp)
    | _ => cases k
  | .tup xs, .non, h, k => by
    have e : toP (.tup xs) = .tuple (xs.map toP) := by
      show ((pyds xs).map PyData.tuple).getD .none = _
      rw [(pls_pyd h).1]; rfl
    rw [e]; simp [toP, pyd, PyData.eqv]
  | .tup xs, .int _, h, k => by
    have e : toP (.tup xs) = .tuple (xs.map toP) := by
      show ((pyds xs).map PyData.tuple).getD .none = _
      rw [(pls_pyd h).1]; rfl
    rw [e]; simp [toP, pyd, PyData.eqv]
  | .tup xs, .str _, h, k => by
    have e : toP (.tup xs) = .tuple (xs.map toP) := by
      show ((pyds xs).map PyData.tuple).getD .none = _
      rw [(pls_pyd h).1]; rfl
    rw [e]; simp [toP, pyd, PyData.eqv]
theorem pls_eqv : ∀ {xs ys : List D}, plBs xs = true → plBs ys = true → PyData.eqvAll (xs.map toP) (ys.map toP) = decide (xs = ys)
  | [], [], _, _ => by simp [PyData.eqvAll]
  | [], _ :: _, _, _ => by simp [PyData.eqvAll]
  | _ :: _, [], _, _ => by simp [PyData.eqvAll]
  | x :: xs, y :: ys, h, k => by
    have h : (plB x && plBs xs) = true := h
    have k : (plB y && plBs ys) = true := k
    obtain ⟨a, b⟩ := Bool.and_eq_true_iff.mp h
    obtain ⟨c, d⟩ := Bool.and_eq_true_iff.mp k
    rw [List.map_cons, List.map_cons, PyData.eqvAll, pl_eqv a c, pls_eqv b d]
    by_cases h1 : x = y <;> by_cases h2 : xs = ys <;> simp [h1, h2]
end
theorem pl_shaped {x : D} (h : plB x = true) (hd : dep x ≤ 60) : SeqAt.shaped (toP x) = true := by
  obtain ⟨_, h1, h2⟩ := pl_pyd h
  unfold SeqAt.shaped
  rw [h1, h2]
  simp
  omega
theorem pydM_pl {M : Mem} {x : D} (h : plB x = true) : pydM M x = some (toP x) := by
  cases x with
  | ref _ => cases h
  | _ => exact (pl_pyd h).1
section
variable {M : Mem} {R : DK}
theorem gEq_pl {x y : D} (hx : plB x = true) (hy : plB y = true) (dx : dep x ≤ 60) (dy : dep y ≤ 60) (h : R (.bl (decide (x = y))) M) : gEq x y M R := by
  show (match pydM M x, pydM M y with
    | some a, some b => SeqAt.shaped a = true ∧ SeqAt.shaped b = true ∧ R (.bl (PyData.eqv a b)) M
    | _, _ => False)
  rw [pydM_pl hx, pydM_pl hy]
  exact ⟨pl_shaped hx dx, pl_shaped hy dy, by rw [pl_eqv hx hy]; exact h⟩
theorem gNe_pl {x y : D} (hx : plB x = true) (hy : plB y = true) (dx : dep x ≤ 60) (dy : dep y ≤ 60) (h : R (.bl (!decide (x = y))) M) : gNe x y M R := by
  show (match pydM M x, pydM M y with
    | some a, some b => SeqAt.shaped a = true ∧ SeqAt.shaped b = true ∧ R (.bl (!PyData.eqv a b)) M
    | _, _ => False)
  rw [pydM_pl hx, pydM_pl hy]
  exact ⟨pl_shaped hx dx, pl_shaped hy dy, by rw [pl_eqv hx hy]; exact h⟩
/-- x in, x not in a list of plain data -/
theorem any_pl {x : D} (hx : plB x = true) : ∀ {ys : List D}, plBs ys = true → ((ys.map toP).any fun z => PyData.eqv z (toP x)) = decide (x ∈ ys)
  | [], _ => by simp
  | y :: ys, h => by
    have h : (plB y && plBs ys) = true := h
    obtain ⟨a, b⟩ := Bool.and_eq_true_iff.mp h
    rw [List.map_cons, List.any_cons, any_pl hx b, pl_eqv a hx]
    by_cases e : y = x
    · simp [e]
    · simp [e, Ne.symm e]
theorem gNotIn_pl {x : D} {a : Addr} {ys : List D} (ha : M a = some (.lst ys)) (hx : plB x = true) (hy : plBs ys = true) (dx : dep x ≤ 60) (dy : deps ys ≤ 59) (h : R (.bl (!decide (x ∈ ys))) M) : gNotIn x (.ref a) M R := by
  show (match pydM M x, (match M a with
      | some (.lst xs) => (pyds xs).map PyData.list
      | _ => none) with
    | some a, some (.list bs) => SeqAt.shaped a = true ∧ SeqAt.shaped (.list bs) = true ∧ R (.bl (!bs.any fun z => PyData.eqv z a)) M
    | _, _ => False)
  obtain ⟨h1, h2, h3⟩ := pls_pyd hy
  rw [ha, pydM_pl hx]
  simp only
  rw [h1]
  refine ⟨pl_shaped hx dx, ?_, by rw [any_pl hx hy]; exact h⟩
  unfold SeqAt.shaped
  simp [PyData.canLay0, PyData.depth, h2, h3]
  omega
end
end DD
end
section
namespace DD
open PySem PySem.Spec PyProof.Rows L2
/-! ### the data of the law -/
abbrev Mo := Int × Int × Int
abbrev Po := List (Mo × Int)
inductive AtW | less | most | is deriving DecidableEq, Repr
inductive JnW | and | or deriving DecidableEq, Repr
inductive OvW | some | all deriving DecidableEq, Repr
def AtW.str : AtW → Str
  | .less => "less"
  | .most => "most"
  | .is => "is"
def JnW.str : JnW → Str
  | .and => "and"
  | .or => "or"
def OvW.str : OvW → Str
  | .some => "some"
  | .all => "all"
def cstStr : Bool → Str
  | true => "true"
  | false => "false"
inductive Sn
  | at (w : AtW) (f : Po)
  | cst (b : Bool)
  | neg (s : Sn)
  | jn (w : JnW) (l : List Sn)
  | ov (w : OvW) (x : Str) (s : Sn)
abbrev moD (m : Mo) : D := .tup [.int m.1, .int m.2.1, .int m.2.2]
abbrev tmD (t : Mo × Int) : D := .tup [moD t.1, .int t.2]
def poD (b : Bool) (f : Po) : D := if b then .pup (f.map tmD) else .tup (f.map tmD)
mutual
def snD (b : Bool) : Sn → D
  | .at w f => .tup [.str w.str, poD b f]
  | .cst v => .tup [.str (cstStr v)]
  | .neg s => .tup [.str "not", snD b s]
  | .jn w l => .tup (.str w.str :: snDs b l)
  | .ov w x s => .tup [.str w.str, .str x, snD b s]
def snDs (b : Bool) : List Sn → List D
  | [] => []
  | s :: l => snD b s :: snDs b l
end
theorem snDs_map (b : Bool) : ∀ l : List Sn, snDs b l = l.map (snD b)
  | [] => rfl
  | s :: l => by rw [snDs, snDs_map b l]; rfl
/-- a polynomial read without its object's knowledge -/
theorem wk_po (f : Po) : Wk (poD true f) (poD false f) := by
  unfold poD
  simp only [if_true, Bool.false_eq_true, if_false]
  exact wk_pup _
theorem wk_mono {b : Bool} (f : Po) : Wk (poD b f) (poD false f) := by
  cases b with
  | true => exact wk_po f
  | false => exact wk_refl _
mutual
theorem wk_sn : ∀ s : Sn, Wk (snD true s) (snD false s)
  | .at w f => wk_tup ⟨wk_refl _, wk_po f, trivial⟩
  | .cst v => wk_refl _
  | .neg s => wk_tup ⟨wk_refl _, wk_sn s, trivial⟩
  | .jn w l => wk_tup ⟨wk_refl _, wk_sns l⟩
  | .ov w x s => wk_tup ⟨wk_refl _, wk_refl _, wk_sn s, trivial⟩
theorem wk_sns : ∀ l : List Sn, Wks (snDs true l) (snDs false l)
  | [] => trivial
  | s :: l => ⟨wk_sn s, wk_sns l⟩
end
def partsS : Sn → List Sn
  | .at _ _ => []
  | .cst _ => []
  | .neg s => [s]
  | .jn _ l => l
  | .ov _ _ s => [s]
mutual
def sizeS : Sn → Nat
  | .at _ _ => 1
  | .cst _ => 1
  | .neg s => sizeS s + 1
  | .jn _ l => sizesS l + 1
  | .ov _ _ s => sizeS s + 1
def sizesS : List Sn → Nat
  | [] => 0
  | s :: l => sizeS s + sizesS l
end
theorem size_parts (s : Sn) : sizeS s = sizesS (partsS s) + 1 := by
  cases s <;> simp [partsS, sizeS, sizesS]
theorem sizes_append : ∀ a b : List Sn, sizesS (a ++ b) = sizesS a + sizesS b
  | [], b => by simp [sizesS]
  | s :: a, b => by rw [List.cons_append, sizesS, sizesS, sizes_append a b]; omega
theorem sizes_reverse : ∀ a : List Sn, sizesS a.reverse = sizesS a
  | [] => rfl
  | s :: a => by rw [List.reverse_cons, sizes_append, sizes_reverse a, sizesS, sizesS, sizesS]; omega
theorem size_pos (s : Sn) : 0 < sizeS s := by rw [size_parts]; omega
mutual
def innerS : Sn → List Sn
  | .at w f => [.at w f]
  | .cst b => [.cst b]
  | .neg s => .neg s :: innerS s
  | .jn w l => .jn w l :: innersS l
  | .ov w x s => .ov w x s :: innerS s
def innersS : List Sn → List Sn
  | [] => []
  | s :: l => innerS s ++ innersS l
end
theorem inners_append : ∀ a b : List Sn, innersS (a ++ b) = innersS a ++ innersS b
  | [], b => rfl
  | s :: a, b => by rw [List.cons_append, innersS, innersS, inners_append a b, List.append_assoc]
theorem inner_eq (s : Sn) : innerS s = s :: innersS (partsS s) := by
  cases s <;> simp [innerS, partsS, innersS]
theorem inners_len : ∀ l : List Sn, (innersS l).length = sizesS l
  | [] => rfl
  | s :: l => by
    have : (innerS s).length = sizeS s := by
      rw [inner_eq, List.length_cons, inners_len (partsS s), size_parts]
    rw [innersS, sizesS, List.length_append, this, inners_len l]
termination_by l => sizesS l
decreasing_by
  · have := size_parts s; simp [sizesS]; omega
  · have := size_pos s; simp [sizesS]; omega
theorem inner_len (s : Sn) : (innerS s).length = sizeS s := by
  rw [inner_eq, List.length_cons, inners_len, size_parts]
/-! ### words -/
section
@[simp] theorem wne_less_most : (Str.ofString "less" = Str.ofString "most") = False := eq_false (by decide +kernel)
@[simp] theorem wne_less_is : (Str.ofString "less" = Str.ofString "is") = False := eq_false (by decide +kernel)
@[simp] theorem wne_less_and : (Str.ofString "less" = Str.ofString "and") = False := eq_false (by decide +kernel)
@[simp] theorem wne_less_or : (Str.ofString "less" = Str.ofString "or") = False := eq_false (by decide +kernel)
@[simp] theorem wne_less_not : (Str.ofString "less" = Str.ofString "not") = False := eq_false (by decide +kernel)
@[simp] theorem wne_less_some : (Str.ofString "less" = Str.ofString "some") = False := eq_false (by decide +kernel)
@[simp] theorem wne_less_all : (Str.ofString "less" = Str.ofString "all") = False := eq_false (by decide +kernel)
@[simp] theorem wne_less_true : (Str.ofString "less" = Str.ofString "true") = False := eq_false (by decide +kernel)
@[simp] theorem wne_less_false : (Str.ofString "less" = Str.ofString "false") = False := eq_false (by decide +kernel)
@[simp] theorem wne_less_x : (Str.ofString "less" = Str.ofString "x") = False := eq_false (by decide +kernel)
@[simp] theorem wne_less_y : (Str.ofString "less" = Str.ofString "y") = False := eq_false (by decide +kernel)
@[simp] theorem wne_less_z : (Str.ofString "less" = Str.ofString "z") = False := eq_false (by decide +kernel)
@[simp] theorem wsh_less : SeqAt.shaped (.str (Str.ofString "less")) = true := by decide +kernel
@[simp] theorem wne_most_less : (Str.ofString "most" = Str.ofString "less") = False := eq_false (by decide +kernel)
@[simp] theorem wne_most_is : (Str.ofString "most" = Str.ofString "is") = False := eq_false (by decide +kernel)
@[simp] theorem wne_most_and : (Str.ofString "most" = Str.ofString "and") = False := eq_false (by decide +kernel)
@[simp] theorem wne_most_or : (Str.ofString "most" = Str.ofString "or") = False := eq_false (by decide +kernel)
@[simp] theorem wne_most_not : (Str.ofString "most" = Str.ofString "not") = False := eq_false (by decide +kernel)
@[simp] theorem wne_most_some : (Str.ofString "most" = Str.ofString "some") = False := eq_false (by decide +kernel)
@[simp] theorem wne_most_all : (Str.ofString "most" = Str.ofString "all") = False := eq_false (by decide +kernel)
@[simp] theorem wne_most_true : (Str.ofString "most" = Str.ofString "true") = False := eq_false (by decide +kernel)
@[simp] theorem wne_most_false : (Str.ofString "most" = Str.ofString "false") = False := eq_false (by decide +kernel)
@[simp] theorem wne_most_x : (Str.ofString "most" = Str.ofString "x") = False := eq_false (by decide +kernel)
@[simp] theorem wne_most_y : (Str.ofString "most" = Str.ofString "y") = False := eq_false (by decide +kernel)
@[simp] theorem wne_most_z : (Str.ofString "most" = Str.ofString "z") = False := eq_false (by decide +kernel)
@[simp] theorem wsh_most : SeqAt.shaped (.str (Str.ofString "most")) = true := by decide +kernel
@[simp] theorem wne_is_less : (Str.ofString "is" = Str.ofString "less") = False := eq_false (by decide +kernel)
@[simp] theorem wne_is_most : (Str.ofString "is" = Str.ofString "most") = False := eq_false (by decide +kernel)
@[simp] theorem wne_is_and : (Str.ofString "is" = Str.ofString "and") = False := eq_false (by decide +kernel)
@[simp] theorem wne_is_or : (Str.ofString "is" = Str.ofString "or") = False := eq_false (by decide +kernel)
@[simp] theorem wne_is_not : (Str.ofString "is" = Str.ofString "not") = False := eq_false (by decide +kernel)
@[simp] theorem wne_is_some : (Str.ofString "is" = Str.ofString "some") = False := eq_false (by decide +kernel)
@[simp] theorem wne_is_all : (Str.ofString "is" = Str.ofString "all") = False := eq_false (by decide +kernel)
@[simp] theorem wne_is_true : (Str.ofString "is" = Str.ofString "true") = False := eq_false (by decide +kernel)
@[simp] theorem wne_is_false : (Str.ofString "is" = Str.ofString "false") = False := eq_false (by decide +kernel)
@[simp] theorem wne_is_x : (Str.ofString "is" = Str.ofString "x") = False := eq_false (by decide +kernel)
@[simp] theorem wne_is_y : (Str.ofString "is" = Str.ofString "y") = False := eq_false (by decide +kernel)
@[simp] theorem wne_is_z : (Str.ofString "is" = Str.ofString "z") = False := eq_false (by decide +kernel)
@[simp] theorem wsh_is : SeqAt.shaped (.str (Str.ofString "is")) = true := by decide +kernel
@[simp] theorem wne_and_less : (Str.ofString "and" = Str.ofString "less") = False := eq_false (by decide +kernel)
@[simp] theorem wne_and_most : (Str.ofString "and" = Str.ofString "most") = False := eq_false (by decide +kernel)
@[simp] theorem wne_and_is : (Str.ofString "and" = Str.ofString "is") = False := eq_false (by decide +kernel)
@[simp] theorem wne_and_or : (Str.ofString "and" = Str.ofString "or") = False := eq_false (by decide +kernel)
@[simp] theorem wne_and_not : (Str.ofString "and" = Str.ofString "not") = False := eq_false (by decide +kernel)
@[simp] theorem wne_and_some : (Str.ofString "and" = Str.ofString "some") = False := eq_false (by decide +kernel)
@[simp] theorem wne_and_all : (Str.ofString "and" = Str.ofString "all") = False := eq_false (by decide +kernel)
@[simp] theorem wne_and_true : (Str.ofString "and" = Str.ofString "true") = False := eq_false (by decide +kernel)
@[simp] theorem wne_and_false : (Str.ofString "and" = Str.ofString "false") = False := eq_false (by decide +kernel)
@[simp] theorem wne_and_x : (Str.ofString "and" = Str.ofString "x") = False := eq_false (by decide +kernel)
@[simp] theorem wne_and_y : (Str.ofString "and" = Str.ofString "y") = False := eq_false (by decide +kernel)
@[simp] theorem wne_and_z : (Str.ofString "and" = Str.ofString "z") = False := eq_false (by decide +kernel)
@[simp] theorem wsh_and : SeqAt.shaped (.str (Str.ofString "and")) = true := by decide +kernel
@[simp] theorem wne_or_less : (Str.ofString "or" = Str.ofString "less") = False := eq_false (by decide +kernel)
@[simp] theorem wne_or_most : (Str.ofString "or" = Str.ofString "most") = False := eq_false (by decide +kernel)
@[simp] theorem wne_or_is : (Str.ofString "or" = Str.ofString "is") = False := eq_false (by decide +kernel)
@[simp] theorem wne_or_and : (Str.ofString "or" = Str.ofString "and") = False := eq_false (by decide +kernel)
@[simp] theorem wne_or_not : (Str.ofString "or" = Str.ofString "not") = False := eq_false (by decide +kernel)
@[simp] theorem wne_or_some : (Str.ofString "or" = Str.ofString "some") = False := eq_false (by decide +kernel)
@[simp] theorem wne_or_all : (Str.ofString "or" = Str.ofString "all") = False := eq_false (by decide +kernel)
@[simp] theorem wne_or_true : (Str.ofString "or" = Str.ofString "true") = False := eq_false (by decide +kernel)
@[simp] theorem wne_or_false : (Str.ofString "or" = Str.ofString "false") = False := eq_false (by decide +kernel)
@[simp] theorem wne_or_x : (Str.ofString "or" = Str.ofString "x") = False := eq_false (by decide +kernel)
@[simp] theorem wne_or_y : (Str.ofString "or" = Str.ofString "y") = False := eq_false (by decide +kernel)
@[simp] theorem wne_or_z : (Str.ofString "or" = Str.ofString "z") = False := eq_false (by decide +kernel)
@[simp] theorem wsh_or : SeqAt.shaped (.str (Str.ofString "or")) = true := by decide +kernel
@[simp] theorem wne_not_less : (Str.ofString "not" = Str.ofString "less") = False := eq_false (by decide +kernel)
@[simp] theorem wne_not_most : (Str.ofString "not" = Str.ofString "most") = False := eq_false (by decide +kernel)
@[simp] theorem wne_not_is : (Str.ofString "not" = Str.ofString "is") = False := eq_false (by decide +kernel)
@[simp] theorem wne_not_and : (Str.ofString "not" = Str.ofString "and") = False := eq_false (by decide +kernel)
@[simp] theorem wne_not_or : (Str.ofString "not" = Str.ofString "or") = False := eq_false (by decide +kernel)
@[simp] theorem wne_not_some : (Str.ofString "not" = Str.ofString "some") = False := eq_false (by decide +kernel)
@[simp] theorem wne_not_all : (Str.ofString "not" = Str.ofString "all") = False := eq_false (by decide +kernel)
@[simp] theorem wne_not_true : (Str.ofString "not" = Str.ofString "true") = False := eq_false (by decide +kernel)
@[simp] theorem wne_not_false : (Str.ofString "not" = Str.ofString "false") = False := eq_false (by decide +kernel)
@[simp] theorem wne_not_x : (Str.ofString "not" = Str.ofString "x") = False := eq_false (by decide +kernel)
@[simp] theorem wne_not_y : (Str.ofString "not" = Str.ofString "y") = False := eq_false (by decide +kernel)
@[simp] theorem wne_not_z : (Str.ofString "not" = Str.ofString "z") = False := eq_false (by decide +kernel)
@[simp] theorem wsh_not : SeqAt.shaped (.str (Str.ofString "not")) = true := by decide +kernel
@[simp] theorem wne_some_less : (Str.ofString "some" = Str.ofString "less") = False := eq_false (by decide +kernel)
@[simp] theorem wne_some_most : (Str.ofString "some" = Str.ofString "most") = False := eq_false (by decide +kernel)
@[simp] theorem wne_some_is : (Str.ofString "some" = Str.ofString "is") = False := eq_false (by decide +kernel)
@[simp] theorem wne_some_and : (Str.ofString "some" = Str.ofString "and") = False := eq_false (by decide +kernel)
@[simp] theorem wne_some_or : (Str.ofString "some" = Str.ofString "or") = False := eq_false (by decide +kernel)
@[simp] theorem wne_some_not : (Str.ofString "some" = Str.ofString "not") = False := eq_false (by decide +kernel)
@[simp] theorem wne_some_all : (Str.ofString "some" = Str.ofString "all") = False := eq_false (by decide +kernel)
@[simp] theorem wne_some_true : (Str.ofString "some" = Str.ofString "true") = False := eq_false (by decide +kernel)
@[simp] theorem wne_some_false : (Str.ofString "some" = Str.ofString "false") = False := eq_false (by decide +kernel)
@[simp] theorem wne_some_x : (Str.ofString "some" = Str.ofString "x") = False := eq_false (by decide +kernel)
@[simp] theorem wne_some_y : (Str.ofString "some" = Str.ofString "y") = False := eq_false (by decide +kernel)
@[simp] theorem wne_some_z : (Str.ofString "some" = Str.ofString "z") = False := eq_false (by decide +kernel)
@[simp] theorem wsh_some : SeqAt.shaped (.str (Str.ofString "some")) = true := by decide +kernel
@[simp] theorem wne_all_less : (Str.ofString "all" = Str.ofString "less") = False := eq_false (by decide +kernel)
@[simp] theorem wne_all_most : (Str.ofString "all" = Str.ofString "most") = False := eq_false (by decide +kernel)
@[simp] theorem wne_all_is : (Str.ofString "all" = Str.ofString "is") = False := eq_false (by decide +kernel)
@[simp] theorem wne_all_and : (Str.ofString "all" = Str.ofString "and") = False := eq_false (by decide +kernel)
@[simp] theorem wne_all_or : (Str.ofString "all" = Str.ofString "or") = False := eq_false (by decide +kernel)
@[simp] theorem wne_all_not : (Str.ofString "all" = Str.ofString "not") = False := eq_false (by decide +kernel)
@[simp] theorem wne_all_some : (Str.ofString "all" = Str.ofString "some") = False := eq_false (by decide +kernel)
@[simp] theorem wne_all_true : (Str.ofString "all" = Str.ofString "true") = False := eq_false (by decide +kernel)
@[simp] theorem wne_all_false : (Str.ofString "all" = Str.ofString "false") = False := eq_false (by decide +kernel)
@[simp] theorem wne_all_x : (Str.ofString "all" = Str.ofString "x") = False := eq_false (by decide +kernel)
@[simp] theorem wne_all_y : (Str.ofString "all" = Str.ofString "y") = False := eq_false (by decide +kernel)
@[simp] theorem wne_all_z : (Str.ofString "all" = Str.ofString "z") = False := eq_false (by decide +kernel)
@[simp] theorem wsh_all : SeqAt.shaped (.str (Str.ofString "all")) = true := by decide +kernel
@[simp] theorem wne_true_less : (Str.ofString "true" = Str.ofString "less") = False := eq_false (by decide +kernel)
@[simp] theorem wne_true_most : (Str.ofString "true" = Str.ofString "most") = False := eq_false (by decide +kernel)
@[simp] theorem wne_true_is : (Str.ofString "true" = Str.ofString "is") = False := eq_false (by decide +kernel)
@[simp] theorem wne_true_and : (Str.ofString "true" = Str.ofString "and") = False := eq_false (by decide +kernel)
@[simp] theorem wne_true_or : (Str.ofString "true" = Str.ofString "or") = False := eq_false (by decide +kernel)
@[simp] theorem wne_true_not : (Str.ofString "true" = Str.ofString "not") = False := eq_false (by decide +kernel)
@[simp] theorem wne_true_some : (Str.ofString "true" = Str.ofString "some") = False := eq_false (by decide +kernel)
@[simp] theorem wne_true_all : (Str.ofString "true" = Str.ofString "all") = False := eq_false (by decide +kernel)
@[simp] theorem wne_true_false : (Str.ofString "true" = Str.ofString "false") = False := eq_false (by decide +kernel)
@[simp] theorem wne_true_x : (Str.ofString "true" = Str.ofString "x") = False := eq_false (by decide +kernel)
@[simp] theorem wne_true_y : (Str.ofString "true" = Str.ofString "y") = False := eq_false (by decide +kernel)
@[simp] theorem wne_true_z : (Str.ofString "true" = Str.ofString "z") = False := eq_false (by decide +kernel)
@[simp] theorem wsh_true : SeqAt.shaped (.str (Str.ofString "true")) = true := by decide +kernel
@[simp] theorem wne_false_less : (Str.ofString "false" = Str.ofString "less") = False := eq_false (by decide +kernel)
@[simp] theorem wne_false_most : (Str.ofString "false" = Str.ofString "most") = False := eq_false (by decide +kernel)
@[simp] theorem wne_false_is : (Str.ofString "false" = Str.ofString "is") = False := eq_false (by decide +kernel)
@[simp] theorem wne_false_and : (Str.ofString "false" = Str.ofString "and") = False := eq_false (by decide +kernel)
@[simp] theorem wne_false_or : (Str.ofString "false" = Str.ofString "or") = False := eq_false (by decide +kernel)
@[simp] theorem wne_false_not : (Str.ofString "false" = Str.ofString "not") = False := eq_false (by decide +kernel)
@[simp] theorem wne_false_some : (Str.ofString "false" = Str.ofString "some") = False := eq_false (by decide +kernel)
@[simp] theorem wne_false_all : (Str.ofString "false" = Str.ofString "all") = False := eq_false (by decide +kernel)
@[simp] theorem wne_false_true : (Str.ofString "false" = Str.ofString "true") = False := eq_false (by decide +kernel)
@[simp] theorem wne_false_x : (Str.ofString "false" = Str.ofString "x") = False := eq_false (by decide +kernel)
@[simp] theorem wne_false_y : (Str.ofString "false" = Str.ofString "y") = False := eq_false (by decide +kernel)
@[simp] theorem wne_false_z : (Str.ofString "false" = Str.ofString "z") = False := eq_false (by decide +kernel)
@[simp] theorem wsh_false : SeqAt.shaped (.str (Str.ofString "false")) = true := by decide +kernel
@[simp] theorem wne_x_less : (Str.ofString "x" = Str.ofString "less") = False := eq_false (by decide +kernel)
@[simp] theorem wne_x_most : (Str.ofString "x" = Str.ofString "most") = False := eq_false (by decide +kernel)
@[simp] theorem wne_x_is : (Str.ofString "x" = Str.ofString "is") = False := eq_false (by decide +kernel)
@[simp] theorem wne_x_and : (Str.ofString "x" = Str.ofString "and") = False := eq_false (by decide +kernel)
@[simp] theorem wne_x_or : (Str.ofString "x" = Str.ofString "or") = False := eq_false (by decide +kernel)
@[simp] theorem wne_x_not : (Str.ofString "x" = Str.ofString "not") = False := eq_false (by decide +kernel)
@[simp] theorem wne_x_some : (Str.ofString "x" = Str.ofString "some") = False := eq_false (by decide +kernel)
@[simp] theorem wne_x_all : (Str.ofString "x" = Str.ofString "all") = False := eq_false (by decide +kernel)
@[simp] theorem wne_x_true : (Str.ofString "x" = Str.ofString "true") = False := eq_false (by decide +kernel)
@[simp] theorem wne_x_false : (Str.ofString "x" = Str.ofString "false") = False := eq_false (by decide +kernel)
@[simp] theorem wne_x_y : (Str.ofString "x" = Str.ofString "y") = False := eq_false (by decide +kernel)
@[simp] theorem wne_x_z : (Str.ofString "x" = Str.ofString "z") = False := eq_false (by decide +kernel)
@[simp] theorem wsh_x : SeqAt.shaped (.str (Str.ofString "x")) = true := by decide +kernel
@[simp] theorem wne_y_less : (Str.ofString "y" = Str.ofString "less") = False := eq_false (by decide +kernel)
@[simp] theorem wne_y_most : (Str.ofString "y" = Str.ofString "most") = False := eq_false (by decide +kernel)
@[simp] theorem wne_y_is : (Str.ofString "y" = Str.ofString "is") = False := eq_false (by decide +kernel)
@[simp] theorem wne_y_and : (Str.ofString "y" = Str.ofString "and") = False := eq_false (by decide +kernel)
@[simp] theorem wne_y_or : (Str.ofString "y" = Str.ofString "or") = False := eq_false (by decide +kernel)
@[simp] theorem wne_y_not : (Str.ofString "y" = Str.ofString "not") = False := eq_false (by decide +kernel)
@[simp] theorem wne_y_some : (Str.ofString "y" = Str.ofString "some") = False := eq_false (by decide +kernel)
@[simp] theorem wne_y_all : (Str.ofString "y" = Str.ofString "all") = False := eq_false (by decide +kernel)
@[simp] theorem wne_y_true : (Str.ofString "y" = Str.ofString "true") = False := eq_false (by decide +kernel)
@[simp] theorem wne_y_false : (Str.ofString "y" = Str.ofString "false") = False := eq_false (by decide +kernel)
@[simp] theorem wne_y_x : (Str.ofString "y" = Str.ofString "x") = False := eq_false (by decide +kernel)
@[simp] theorem wne_y_z : (Str.ofString "y" = Str.ofString "z") = False := eq_false (by decide +kernel)
@[simp] theorem wsh_y : SeqAt.shaped (.str (Str.ofString "y")) = true := by decide +kernel
@[simp] theorem wne_z_less : (Str.ofString "z" = Str.ofString "less") = False := eq_false (by decide +kernel)
@[simp] theorem wne_z_most : (Str.ofString "z" = Str.ofString "most") = False := eq_false (by decide +kernel)
@[simp] theorem wne_z_is : (Str.ofString "z" = Str.ofString "is") = False := eq_false (by decide +kernel)
@[simp] theorem wne_z_and : (Str.ofString "z" = Str.ofString "and") = False := eq_false (by decide +kernel)
@[simp] theorem wne_z_or : (Str.ofString "z" = Str.ofString "or") = False := eq_false (by decide +kernel)
@[simp] theorem wne_z_not : (Str.ofString "z" = Str.ofString "not") = False := eq_false (by decide +kernel)
@[simp] theorem wne_z_some : (Str.ofString "z" = Str.ofString "some") = False := eq_false (by decide +kernel)
@[simp] theorem wne_z_all : (Str.ofString "z" = Str.ofString "all") = False := eq_false (by decide +kernel)
@[simp] theorem wne_z_true : (Str.ofString "z" = Str.ofString "true") = False := eq_false (by decide +kernel)
@[simp] theorem wne_z_false : (Str.ofString "z" = Str.ofString "false") = False := eq_false (by decide +kernel)
@[simp] theorem wne_z_x : (Str.ofString "z" = Str.ofString "x") = False := eq_false (by decide +kernel)
@[simp] theorem wne_z_y : (Str.ofString "z" = Str.ofString "y") = False := eq_false (by decide +kernel)
@[simp] theorem wsh_z : SeqAt.shaped (.str (Str.ofString "z")) = true := by decide +kernel
end
@[simp] theorem inFl_nil {x : V} : inFl x [] = false := rfl
@[simp] theorem inFl_cons {x v : V} {vs : List V} : inFl x (v :: vs) = (eqV v x || inFl x vs) := by
  unfold inFl inV
  rw [List.any_cons]
@[simp] theorem eqV_ss {a b : Str} : eqV (.str a) (.str b) = decide (a = b) := by
  unfold eqV
  exact Bool.eq_iff_iff.mpr (by simp)
@[simp] theorem atI_0 {a : D} {l : List D} : atI (a :: l) 0 = some a := atI_nat (by decide) rfl
@[simp] theorem atI_1 {a b : D} {l : List D} : atI (a :: b :: l) 1 = some b := atI_nat (by decide) rfl
@[simp] theorem atI_2 {a b c : D} {l : List D} : atI (a :: b :: c :: l) 2 = some c := atI_nat (by decide) rfl
/-! ### parts_of, inner_of, atoms_of -/
def spParts : DSp := fun ds M R => ∃ b s, ds = [snD b s] ∧ R (.tup ((partsS s).map (snD b))) M
theorem cut_from1 {x : D} {xs : List D} : cutD (x :: xs) (some 1) none = xs := by
  unfold cutD HT.sIx
  simp
theorem k_parts_of (ds : List D) (M : Mem) (R : DK) (h : spParts ds M R) : r_parts_of (endsF R) (startD N_parts_of ds) M := by
  obtain ⟨b, s, rfl, h⟩ := h
  have fin : ∀ {d : D}, R d M → ∃ M0, Sub M0 M ∧ R d M0 := fun h => ⟨M, Sub.refl M, h⟩
  unfold r_parts_of
  cases s with
  | «at» w f =>
    cases w <;> simp [snD, partsS, AtW.str] at h ⊢ <;> exact fin h
  | cst v =>
    cases v <;> simp [snD, partsS, cstStr] at h ⊢ <;> exact fin h
  | neg s =>
    simp [snD, partsS] at h ⊢
    exact fin h
  | jn w l =>
    cases w <;> simp [snD, partsS, JnW.str, cut_from1, snDs_map] at h ⊢ <;> exact fin h
  | ov w x s =>
    cases w <;> simp [snD, partsS, OvW.str] at h ⊢ <;> exact fin h
end DD
end
section
namespace DD
open PySem PySem.Spec PyProof.Rows L2
@[simp] theorem eq_gExtend {M : Mem} {R : DK} {x y : D} : gExtend x [y] M R = onLst x M fun a xs => onLst y M fun b zs => xs.length + zs.length ≤ sizeLine ∧ R .non (updM M a (.lst (xs ++ zs))) := propext Iff.rfl
@[simp] theorem tru_ref {M : Mem} {a : Addr} : truD M (.ref a) = (match M a with
    | some (.lst xs) => some (!xs.isEmpty)
    | some (.dK kvs) => some (!kvs.isEmpty)
    | _ => none) := rfl
@[simp] theorem tru_tup {M : Mem} {xs : List D} : truD M (.tup xs) = some (!xs.isEmpty) := rfl
/-- a list that is new -/
def NewL (M : Mem) (xs : List D) (R : DK) : Prop := ∀ p M', M p = none → M' p = some (.lst xs) → (∀ a, a ≠ p → M' a = M a) → R (.ref p) M'
theorem newL_end {M M' : Mem} {p : Addr} {xs : List D} {R : DK} (h : NewL M xs R) (hp : M p = none) (e : M' p = some (.lst xs)) (s : Sub M M') : ∃ M0, Sub M0 M' ∧ R (.ref p) M0 := by
  refine ⟨updM M p (.lst xs), fun a o z => ?_, h p _ hp updM_same fun a ha => updM_ne ha⟩
  by_cases ha : a = p
  · subst ha
    rw [updM_same] at z; rw [← z]; exact e
  · rw [updM_ne ha] at z
    exact s a o z
def spInner : DSp := fun ds M R => ∃ b s, ds = [snD b s] ∧ sizeS s ≤ 100000 ∧ NewL M ((innerS s).map (snD b)) R
theorem k_inner_of (ds : List D) (M : Mem) (R : DK) (h : spInner ds M R) : r_inner_of spParts (endsF R) (startD N_inner_of ds) M := by
  obtain ⟨b, s, rfl, hs, h⟩ := h
  unfold r_inner_of
  simp [size_line]
  intro p1 hp1 p2 hp2
  obtain ⟨n12, q2⟩ := updM_none (M := M) (q := p1) (o := .lst []) (by simpa using hp2)
  refine ⟨fun n δ M' => ∃ (done st : List Sn) (x : Option D), δ = [some (snD b s), some (.ref p1), some (.ref p2), x] ∧ innerS s = done ++ innersS st.reverse ∧ n = sizesS st ∧ M' p1 = some (.lst (done.map (snD b))) ∧ M' p2 = some (.lst (st.map (snD b))) ∧ Sub M M', ⟨_, [], [s], none, rfl, ?_, rfl, ?_, ?_, ?_⟩, ?_⟩
  · simp [innersS]
  · simp [n12.symm]
  · simp
  · intro a o z
    have a1 : a ≠ p1 := fun e => by rw [e, hp1] at z; cases z
    have a2 : a ≠ p2 := fun e => by rw [e, q2] at z; cases z
    simp [a1, a2, z]
  · rintro n δ M' ⟨done, st, x, rfl, hin, rfl, e1, e2, sub⟩
    rcases List.eq_nil_or_concat st with rfl | ⟨st', y, hst⟩
    · simp [e2]
      rw [List.reverse_nil, innersS, List.append_nil] at hin
      exact newL_end h hp1 (by rw [hin]; exact e1) sub
    · rw [List.concat_eq_append] at hst
      subst hst
      have n21 : p2 ≠ p1 := n12
      have e3 : (List.map (snD b) st' ++ [snD b y])[st'.length]? = some (snD b y) := by
        rw [List.getElem?_append_right (by simp)]; simp
      have lim : done.length + sizesS (st' ++ [y]) = sizeS s := by
        have := congrArg List.length hin
        rw [inner_len, List.length_append, inners_len, sizes_reverse] at this
        omega
      have szy : sizesS (st' ++ [y]) = sizesS st' + sizeS y := by rw [sizes_append]; simp [sizesS]
      simp [e2, e3, e1, n21, n21.symm, size_line]
      refine ⟨by omega, b, y, rfl, ?_⟩
      simp
      intro p3 hp3
      have f3 : p3 ≠ p1 ∧ p3 ≠ p2 ∧ M p3 = none := by
        refine ⟨fun e => by simp [e] at hp3, fun e => by simp [e, n21] at hp3, ?_⟩
        cases q : M p3 with
        | none => rfl
        | some o =>
          have := sub p3 o q
          have a1 : p3 ≠ p1 := fun e => by simp [e] at hp3
          have a2 : p3 ≠ p2 := fun e => by simp [e, n21] at hp3
          simp [a1, a2, this] at hp3
      obtain ⟨m1, m2, m3⟩ := f3
      have szp := size_parts y
      have lp : ((partsS y).map (snD b)).length ≤ sizesS (partsS y) := by
        rw [List.length_map]
        have gen : ∀ l : List Sn, l.length ≤ sizesS l := fun l => by
          induction l with
          | nil => simp [sizesS]
          | cons s l ih => rw [sizesS, List.length_cons]; have := size_pos s; omega
        exact gen _
      have ls : st'.length ≤ sizesS st' := by
        have gen : ∀ l : List Sn, l.length ≤ sizesS l := fun l => by
          induction l with
          | nil => simp [sizesS]
          | cons s l ih => rw [sizesS, List.length_cons]; have := size_pos s; omega
        exact gen _
      rw [List.length_map] at lp
      simp [m1.symm, m2.symm, m1, m2, n21, n21.symm]
      refine ⟨by omega, _, ?_, done ++ [y], st' ++ (partsS y).reverse, ?_, rfl, ?_, ?_, ?_⟩
      · rw [sizes_append, sizes_reverse]; omega
      · rw [hin, List.reverse_append, List.reverse_append, List.reverse_reverse, inners_append, inners_append]
        simp [innersS, inner_eq y]
      · simp
      · simp
      · intro a o z
        have a1 : a ≠ p1 := fun e => by rw [e, hp1] at z; cases z
        have a2 : a ≠ p2 := fun e => by rw [e, q2] at z; cases z
        have a3 : a ≠ p3 := fun e => by rw [e, m3] at z; cases z
        simp [a1, a2, a3, sub a o z]
end DD
end
section
namespace DD
open PySem PySem.Spec PyProof.Rows L2
theorem ret_same {M : Mem} {R : DK} {d : D} (h : R d M) : ∃ M0, Sub M0 M ∧ R d M0 := ⟨M, Sub.refl M, h⟩
/-! ### atoms_of -/
def isAtS : Sn → Bool
  | .at _ _ => true
  | _ => false
def fAt (d : D) : Option D := match d with
  | .tup (.str w :: _) => if w = "less" ∨ w = "most" ∨ w = "is" then some d else none
  | _ => none
theorem fAt_sn (b : Bool) (s : Sn) : fAt (snD b s) = if isAtS s then some (snD b s) else none := by
  cases s with
  | «at» w f => cases w <;> simp [snD, fAt, isAtS, AtW.str]
  | cst v => cases v <;> simp [snD, fAt, isAtS, cstStr]
  | neg s => simp [snD, fAt, isAtS]
  | jn w l => cases w <;> simp [snD, fAt, isAtS, JnW.str]
  | ov w x s => cases w <;> simp [snD, fAt, isAtS, OvW.str]
theorem fAt_map (b : Bool) : ∀ l : List Sn, (l.map (snD b)).filterMap fAt = (l.filter isAtS).map (snD b)
  | [] => rfl
  | s :: l => by
    rw [List.map_cons, List.filterMap_cons, fAt_sn, List.filter_cons, fAt_map b l]
    cases isAtS s <;> simp
def atomsS (s : Sn) : List Sn := (innerS s).filter isAtS
def spAtoms : DSp := fun ds M R => ∃ b s, ds = [snD b s] ∧ sizeS s ≤ 100000 ∧ NewL M ((atomsS s).map (snD b)) R
theorem k_atoms_of (ds : List D) (M : Mem) (R : DK) (h : spAtoms ds M R) : r_atoms_of spInner (endsF R) (startD N_atoms_of ds) M := by
  obtain ⟨b, s, rfl, hs, h⟩ := h
  unfold r_atoms_of
  simp [size_line]
  refine ⟨b, s, rfl, hs, fun p M' hp e fr => ?_⟩
  simp [e]
  refine lc_fm fAt (by rw [List.length_map, inner_len, size_line]; omega) (fun q acc hq => ?_) (fun x q acc RY RN hx hq h1 h2 => ?_) fun q hq => ?_
  · have : p ≠ q := fun z => by rw [z, hq] at e; cases e
    simp [this, e]
  · obtain ⟨s', hs', rfl⟩ := List.mem_map.mp hx
    rw [fAt_sn] at h1 h2
    cases s' with
    | «at» w f => cases w <;> simp [snD, isAtS, AtW.str, wipeD] at h1 h2 ⊢ <;> exact h1
    | cst v => cases v <;> simp [snD, isAtS, cstStr, wipeD] at h1 h2 ⊢ <;> exact h2
    | neg s => simp [snD, isAtS, wipeD] at h1 h2 ⊢; exact h2
    | jn w l => cases w <;> simp [snD, isAtS, JnW.str, wipeD] at h1 h2 ⊢ <;> exact h2
    | ov w x s => cases w <;> simp [snD, isAtS, OvW.str, wipeD] at h1 h2 ⊢ <;> exact h2
  · have nq : q ≠ p := fun z => by rw [z, e] at hq; cases hq
    rw [fAt_map]
    refine newL_end h (p := q) (by rw [← fr q nq]; exact hq) (by simp; rfl) fun a o z => ?_
    have a1 : a ≠ q := fun z' => by rw [z', ← fr q nq, hq] at z; cases z
    have a2 : a ≠ p := fun z' => by rw [z', hp] at z; cases z
    simp [a1, fr a a2, z]
/-! ### names_in -/
def mAt (m : Mo) : Nat → Int
  | 0 => m.1
  | 1 => m.2.1
  | _ => m.2.2
def usesF (f : Po) (k : Nat) : Bool := f.any fun t => decide (0 < mAt t.1 k)
def namesF (f : Po) : List Str := (if usesF f 0 then [("x" : Str)] else []) ++ (if usesF f 1 then [("y" : Str)] else []) ++ (if usesF f 2 then [("z" : Str)] else [])
def gtD (k : Nat) (d : D) : Bool := match d with
  | .tup [.tup [.int a, .int b, .int c], _] => decide (0 < mAt (a, b, c) k)
  | _ => false
theorem gt_any (f : Po) (k : Nat) : (f.map tmD).any (gtD k) = usesF f k := by
  unfold usesF
  rw [List.any_map]
  rfl
def fNm (f : Po) (d : D) : Option D := match d with
  | .tup [.int i, .str z] => if usesF f i.toNat then some (.str z) else none
  | _ => none
def spNames (P : Addr) : DSp := fun ds M R => ∃ f, ds = [poD false f] ∧ M P = some .tbl ∧ R (.tup ((namesF f).map D.str)) M
theorem enum_names : enumD [D.str "x", D.str "y", D.str "z"] = [.tup [.int 0, .str "x"], .tup [.int 1, .str "y"], .tup [.int 2, .str "z"]] := rfl
theorem k_names_in (P : Addr) (ds : List D) (M : Mem) (R : DK) (h : spNames P ds M R) : r_names_in P (endsF R) (startD N_names_in ds) M := by
  obtain ⟨f, rfl, hP, h⟩ := h
  unfold r_names_in
  simp [size_line, enum_names]
  refine lc_fm (fNm f) (by simp [size_line]) (fun q acc hq => trivial) (fun x q acc RY RN hx hq h1 h2 => ?_) fun q hq => ?_
  · have nq : P ≠ q := fun z => by rw [z, hq] at hP; cases hP
    have key : ∀ (k : Nat) (z : Str), x = .tup [.int (k : Int), .str z] → k < 3 → gUnp 2 (gsCons (gNm 1) (gsCons (gNm 2) gsNil)) x (wipeD [some (poD false f), none, none, none] [1, 2]) (updM M q (.lst acc)) fun δ2 M2 => dTru (dAnyG P true (iSeqA (dVar 0)) (gNm 3) tYesD (dBin gGt (dBin gIxA (dBin gIxA (dVar 3) (dC (.int 0))) (dVar 1)) (dC (.int 0))) [3]) δ2 M2 fun b M3 => if b = true then dVar 2 δ2 M3 RY else RN M3 := fun k z e hk => by
      subst e
      simp [wipeD, poD]
      refine any_in (gtD k) (by simp [nq, hP]) trivial (fun y RZ hy hz => ?_) ?_
      · obtain ⟨t, ht, rfl⟩ := List.mem_map.mp hy
        have : k = 0 ∨ k = 1 ∨ k = 2 := by omega
        rcases this with rfl | rfl | rfl <;> simp [gtD, mAt, wipeD] at hz ⊢ <;> exact hz
      · rw [gt_any]
        simp [tru_bl]
        have e1 : fNm f (.tup [.int (k : Int), .str z]) = if usesF f k then some (.str z) else none := by simp [fNm]
        rw [e1] at h1 h2
        cases hu : usesF f k with
        | true => rw [hu] at h1; simpa using h1 (.str z) rfl
        | false => rw [hu] at h2; simpa using h2 rfl
    simp only [List.mem_cons, List.not_mem_nil, or_false] at hx
    rcases hx with e | e | e
    · exact key 0 "x" e (by omega)
    · exact key 1 "y" e (by omega)
    · exact key 2 "z" e (by omega)
  · simp
    refine ⟨M, fun a o z => ?_, ?_⟩
    · have a1 : a ≠ q := fun z' => by rw [z', hq] at z; cases z
      simp [a1, z]
    · have e : [D.tup [.int 0, .str "x"], .tup [.int 1, .str "y"], .tup [.int 2, .str "z"]].filterMap (fNm f) = (namesF f).map D.str := by
        unfold namesF
        simp only [List.filterMap_cons, List.filterMap_nil, fNm]
        cases h0 : usesF f 0 <;> cases h1 : usesF f 1 <;> cases h2 : usesF f 2 <;> simp [h0, h1, h2]
      rw [e]
      exact ret_same h
/-! ### sign_of, common_divisor, is_constant, constant_of -/
def spSign : DSp := fun ds M R => ∃ n : Int, ds = [.int n] ∧ R (.int n.sign) M
theorem k_sign_of (ds : List D) (M : Mem) (R : DK) (h : spSign ds M R) : r_sign_of (endsF R) (startD N_sign_of ds) M := by
  obtain ⟨n, rfl, h⟩ := h
  unfold r_sign_of
  simp [size_line]
  have : b2i (decide (0 < n)) - b2i (decide (n < 0)) = n.sign := by
    rcases Int.lt_trichotomy n 0 with z | z | z
    · rw [Int.sign_eq_neg_one_of_neg z]; simp [b2i, z]; omega
    · subst z; rfl
    · rw [Int.sign_eq_one_of_pos z]; simp [b2i, z]; omega
  rw [this]
  exact ⟨M, Sub.refl M, h⟩
def contF : List Int → Nat := fun ns => ns.foldl (fun g n => Nat.gcd g n.natAbs) 0
def spCdv : DSp := fun ds M R => ∃ (a : Addr) (ns : List Int), ds = [.ref a] ∧ M a = some (.lst (ns.map D.int)) ∧ R (.int (contF ns)) M
theorem contF_take (ns : List Int) (i : Nat) (x : Int) (h : ns[i]? = some x) : contF (ns.take (i + 1)) = Nat.gcd (contF (ns.take i)) x.natAbs := by
  rw [List.take_add_one, h]
  simp [contF, List.foldl_append]
theorem k_common_divisor (ds : List D) (M : Mem) (R : DK) (h : spCdv ds M R) : r_common_divisor (endsF R) (startD N_common_divisor ds) M := by
  obtain ⟨a, ns, rfl, ha, h⟩ := h
  unfold r_common_divisor
  simp [size_line, ha]
  refine for_in (fun i δ M' => M' = M ∧ ∃ x, δ = [some (.ref a), some (.int (contF (ns.take i))), x]) ⟨rfl, none, rfl⟩ (fun i δ M' _ h => by rw [h.1]; exact ha) ?_ ?_
  · rintro i x δ M' hx ⟨rfl, y, rfl⟩
    rw [List.getElem?_map] at hx
    cases hn : ns[i]? with
    | none => rw [hn] at hx; cases hx
    | some n =>
      rw [hn] at hx
      cases hx
      simp
      rw [contF_take ns i n hn]
  · rintro δ M' ⟨rfl, x, rfl⟩
    simp
    exact ⟨M', Sub.refl M', h⟩
def isConstF : Po → Bool
  | [] => true
  | [(m, _)] => decide (m = (0, 0, 0))
  | _ => false
def constF : Po → Int
  | [] => 0
  | (_, c) :: _ => c
def spIsC : DSp := fun ds M R => ∃ f, ds = [poD false f] ∧ R (.bl (isConstF f)) M
theorem moD_inj {m n : Mo} : (moD m = moD n) ↔ m = n := by
  obtain ⟨a, b, c⟩ := m
  obtain ⟨d, e, f⟩ := n
  simp [moD]
theorem eq_mo {M : Mem} {R : DK} {m n : Mo} (h : R (.bl (decide (m = n))) M) : gEq (moD m) (moD n) M R := by
  refine gEq_pl rfl rfl (by simp [dep, deps]) (by simp [dep, deps]) ?_
  have : decide (moD m = moD n) = decide (m = n) := decide_eq_decide.mpr moD_inj
  rw [this]; exact h
theorem k_is_constant (ds : List D) (M : Mem) (R : DK) (h : spIsC ds M R) : r_is_constant (endsF R) (startD N_is_constant ds) M := by
  obtain ⟨f, rfl, h⟩ := h
  unfold r_is_constant
  match f, h with
  | [], h => simp [poD, isConstF] at h ⊢; exact ret_same h
  | [(m, c)], h =>
    simp [poD, isConstF] at h ⊢
    exact ⟨by decide, eq_mo (n := (0, 0, 0)) (ret_same h)⟩
  | t :: u :: l, h =>
    simp [poD, isConstF] at h ⊢
    have : ¬ ((l.length : Int) + 1 + 1 = 1) := by omega
    simp [this]
    exact ret_same h
def spConst : DSp := fun ds M R => ∃ f, ds = [poD false f] ∧ R (.int (constF f)) M
theorem k_constant_of (ds : List D) (M : Mem) (R : DK) (h : spConst ds M R) : r_constant_of (endsF R) (startD N_constant_of ds) M := by
  obtain ⟨f, rfl, h⟩ := h
  unfold r_constant_of
  cases f with
  | nil => simp [poD, constF] at h ⊢; exact ret_same h
  | cons t l => simp [poD, constF] at h ⊢; exact ret_same h
end DD
end
section
namespace DD
open PySem PySem.Spec PyProof.Rows L2
/-! ### primitive_of -/
def lastC (f : Po) : Int := (f.getLast?.map (·.2)).getD 0
def byF (f : Po) : Int := if lastC f < 0 then -((contF (f.map (·.2)) : Nat) : Int) else (contF (f.map (·.2)) : Nat)
def primF (f : Po) : Po := f.map fun t => (t.1, t.2.fdiv (byF f))
/-- small coefficients, not all of them 0 -/
structure PoOk (f : Po) : Prop where
  len : f.length ≤ 100
  c : ∀ t ∈ f, t.2 ≠ 0 ∧ t.2.natAbs < 2 ^ 100
def spPrimF : DSp := fun ds M R => ∃ f, ds = [poD false f] ∧ PoOk f ∧ f ≠ [] ∧ R (.tup [.int (byF f), poD false (primF f)]) M
theorem contF_gcd (ns : List Int) (n : Int) (h : n ∈ ns) : contF ns ∣ n.natAbs := by
  have gen : ∀ (ns : List Int) (g : Nat), (ns.foldl (fun g n => Nat.gcd g n.natAbs) g) ∣ g ∧ ∀ n ∈ ns, (ns.foldl (fun g n => Nat.gcd g n.natAbs) g) ∣ n.natAbs := by
    intro ns
    induction ns with
    | nil => intro g; exact ⟨Nat.dvd_refl _, fun n hn => by cases hn⟩
    | cons a ns ih =>
      intro g
      obtain ⟨h1, h2⟩ := ih (Nat.gcd g a.natAbs)
      refine ⟨Nat.dvd_trans h1 (Nat.gcd_dvd_left _ _), fun n hn => ?_⟩
      rcases List.mem_cons.mp hn with rfl | hn
      · exact Nat.dvd_trans h1 (Nat.gcd_dvd_right _ _)
      · exact h2 n hn
  exact (gen ns 0).2 n h
theorem by_ok {f : Po} (h : PoOk f) (h0 : f ≠ []) : 0 < contF (f.map (·.2)) ∧ contF (f.map (·.2)) < 2 ^ 100 := by
  cases f with
  | nil => exact absurd rfl h0
  | cons t l =>
    obtain ⟨a, b⟩ := h.c t List.mem_cons_self
    have d := contF_gcd ((t :: l).map (·.2)) t.2 (by simp)
    have p : 0 < t.2.natAbs := by omega
    exact ⟨Nat.pos_of_dvd_of_pos d p, Nat.lt_of_le_of_lt (Nat.le_of_dvd p d) b⟩
theorem atI_last {xs : List D} {x : D} : atI (xs ++ [x]) (-1) = some x := by
  unfold atI ixN
  rw [if_neg (by decide)]
  have h1 : (xs ++ [x]).length = xs.length + 1 := by simp
  rw [h1, if_pos (by omega)]
  have h2 : (-1 + ((xs.length + 1 : Nat) : Int)).toNat = xs.length := by omega
  rw [h2]
  simp
theorem last_at {f : Po} (h0 : f ≠ []) : ∃ l m, f = l ++ [(m, lastC f)] := by
  rcases List.eq_nil_or_concat f with rfl | ⟨l, t, rfl⟩
  · exact absurd rfl h0
  · refine ⟨l, t.1, ?_⟩
    rw [List.concat_eq_append]
    simp [lastC]
theorem k_primitive_of (ds : List D) (M : Mem) (R : DK) (h : spPrimF ds M R) : r_primitive_of spCdv (endsF R) (startD N_primitive_of ds) M := by
  obtain ⟨f, rfl, hf, h0, h⟩ := h
  obtain ⟨b0, b1⟩ := by_ok hf h0
  unfold r_primitive_of
  have hlen : (f.map tmD).length ≤ sizeLine := by rw [List.length_map, size_line]; have := hf.len; omega
  simp [size_line, poD]
  refine lc_map (fun d => match d with | .tup [_, c] => c | _ => .non) hlen (fun _ _ _ => trivial) (fun x p acc RY hx hp h1 => ?_) fun p hp => ?_
  · obtain ⟨t, ht, rfl⟩ := List.mem_map.mp hx
    simp [wipeD] at h1 ⊢
    exact h1
  · refine ⟨p, f.map (·.2), rfl, by simp [Function.comp_def], ?_⟩
    obtain ⟨l, m, hl⟩ := last_at h0
    have hat : atI (f.map tmD) (-1) = some (tmD (m, lastC f)) := by
      rw [hl, List.map_append]
      have : lastC (l ++ [(m, lastC f)]) = lastC f := by rw [← hl]
      rw [this]
      exact atI_last
    have hby : ∀ c : Int, DivOk c (byF f) := fun c => by
      unfold byF
      split
      · exact div_ok 200 (by omega) (by omega) (by omega) (by omega)
      · exact div_ok 200 (by omega) (by omega) (by omega) (by omega)
    simp [hat]
    have key : ∀ (g : Int) (o : MO), byF f = g → LcIn (gUnp 2 (gsCons (gNm 3) (gsCons (gNm 4) gsNil))) tYesD (dTup (aCons (dVar 3) (aCons (dBin gDiv (dVar 4) (dVar 1)) aNil))) [3, 4]
        [some (D.tup (f.map tmD)), some (D.int g), none, none, none] (fun x M1 => match itemsD M1 x with
          | some ys => ∃ M0, Sub M0 M1 ∧ ∃ M0_1, Sub M0_1 M0 ∧ R (D.tup [D.int g, D.tup ys]) M0_1
          | none => False) (f.map tmD) (fun _ => True) (updM M p o) := fun g o hg => by
      subst hg
      refine lc_map (fun d => match d with | .tup [m, .int c] => .tup [m, .int (c.fdiv (byF f))] | _ => .non) hlen (fun _ _ _ => trivial) (fun x q acc RY hx hq h1 => ?_) fun q hq => ?_
      · obtain ⟨t, ht, rfl⟩ := List.mem_map.mp hx
        simp [wipeD, hby, size_line] at h1 ⊢
        exact h1
      · obtain ⟨nq, hq'⟩ := updM_none hq
        simp
        refine ⟨M, fun a o' z => ?_, M, Sub.refl M, ?_⟩
        · have a1 : a ≠ q := fun e => by rw [e, hq'] at z; cases z
          have a2 : a ≠ p := fun e => by rw [e, hp] at z; cases z
          simp [a1, a2, z]
        · have e : (f.map tmD).map (fun d => match d with | .tup [m, .int c] => D.tup [m, .int (c.fdiv (byF f))] | _ => .non) = (primF f).map tmD := by
            unfold primF
            rw [List.map_map, List.map_map]
            rfl
          simp [poD] at h
          rw [List.map_map] at e
          rw [e]
          exact h
    by_cases hc : lastC f < 0
    · simp only [hc, if_true]
      exact key _ _ (by simp [byF, hc])
    · simp only [hc, if_false]
      exact key _ _ (by simp [byF, hc])
/-! ### holds_for, joined_by -/
def holdsW : AtW → Int → Bool
  | .less, n => decide (n < 0)
  | .most, n => decide (n ≤ 0)
  | .is, n => decide (n = 0)
def spHf : DSp := fun ds M R => ∃ (w : AtW) (n : Int), ds = [.str w.str, .int n] ∧ R (.bl (holdsW w n)) M
theorem k_holds_for (ds : List D) (M : Mem) (R : DK) (h : spHf ds M R) : r_holds_for (endsF R) (startD N_holds_for ds) M := by
  obtain ⟨w, n, rfl, h⟩ := h
  unfold r_holds_for
  cases w <;> simp [AtW.str, holdsW] at h ⊢ <;> exact ret_same h
/-- and, or, not of truths -/
def joinW : Option JnW → List Bool → Bool
  | some .and, l => l.all id
  | some .or, l => l.any id
  | none, l => !(l.headD false)
def joinS : Option JnW → Str
  | some w => w.str
  | none => "not"
def spJoin : DSp := fun ds M R => ∃ (w : Option JnW) (a : Addr) (l : List Bool), ds = [.str (joinS w), .ref a] ∧ M a = some (.lst (l.map D.bl)) ∧ (w = none → l ≠ []) ∧ R (.bl (joinW w l)) M
theorem pyds_bls : ∀ l : List Bool, pyds (l.map D.bl) = some (l.map PyData.bool)
  | [] => rfl
  | b :: l => by
    show (match pyd (.bl b), pyds (l.map D.bl) with
      | some x, some xs => some (x :: xs)
      | _, _ => none) = _
    rw [pyds_bls l]; rfl
theorem plain_bls : ∀ l : List Bool, PyData.plainAll (l.map PyData.bool) = true
  | [] => by simp [PyData.plainAll]
  | b :: l => by simp [PyData.plainAll, PyData.plain, plain_bls l]
theorem k_joined_by (ds : List D) (M : Mem) (R : DK) (h : spJoin ds M R) : r_joined_by (endsF R) (startD N_joined_by ds) M := by
  obtain ⟨w, a, l, rfl, ha, hl, h⟩ := h
  have fits : ∀ x ∈ l.map PyData.bool, x.fits63 := fun x hx => by
    obtain ⟨b, _, rfl⟩ := List.mem_map.mp hx
    simp [PyData.fits63]
  unfold r_joined_by
  rcases w with _ | w
  · cases l with
    | nil => exact absurd rfl (hl rfl)
    | cons b l =>
      simp [joinS, joinW, ha] at h ⊢
      exact ret_same h
  · cases w
    · simp [joinS, JnW.str, joinW, ha, pyds_bls, plain_bls] at h ⊢
      have e : (PyData.truthy ∘ PyData.bool) = id := by
        funext b
        simp [PyData.truthy]
      rw [e]
      exact ⟨fun x hx => by rcases hx with ⟨_, rfl⟩ | ⟨_, rfl⟩ <;> simp [PyData.fits63], ret_same h⟩
    · simp [joinS, JnW.str, joinW, ha, pyds_bls, plain_bls] at h ⊢
      have e : (PyData.truthy ∘ PyData.bool) = id := by
        funext b
        simp [PyData.truthy]
      rw [e]
      exact ⟨fun x hx => by rcases hx with ⟨_, rfl⟩ | ⟨_, rfl⟩ <;> simp [PyData.fits63], ret_same h⟩
/-! ### highest_powers, powers_up_to -/
def hiF (f : Po) (k : Nat) : Int := (f.map fun t => mAt t.1 k).foldl max 0
def nnF (f : Po) : Prop := ∀ t ∈ f, 0 ≤ t.1.1 ∧ 0 ≤ t.1.2.1 ∧ 0 ≤ t.1.2.2
theorem hi_cons {f : Po} (h : nnF f) {t : Mo × Int} {l : Po} (e : f = t :: l) (k : Nat) : (l.map fun t => mAt t.1 k).foldl max (mAt t.1 k) = hiF f k := by
  subst e
  unfold hiF
  rw [List.map_cons, List.foldl_cons]
  have : (0 : Int) ≤ mAt t.1 k := by
    obtain ⟨a, b, c⟩ := h t List.mem_cons_self
    match k with
    | 0 => exact a
    | 1 => exact b
    | k + 2 => exact c
  rw [show max (0 : Int) (mAt t.1 k) = mAt t.1 k by omega]
def spHigh : DSp := fun ds M R => ∃ f, ds = [poD false f] ∧ nnF f ∧ f.length ≤ 100 ∧ NewL M [.int (hiF f 0), .int (hiF f 1), .int (hiF f 2)] R
theorem k_highest_powers (ds : List D) (M : Mem) (R : DK) (h : spHigh ds M R) : r_highest_powers (endsF R) (startD N_highest_powers ds) M := by
  obtain ⟨f, rfl, hf, hl, h⟩ := h
  unfold r_highest_powers
  simp [size_line]
  have hrange : rangeD 0 3 = [.int 0, .int 1, .int 2] := rfl
  have hn : ∀ (k : Nat) (p : Addr) (acc : List D) (RY : D → Mem → Prop), k < 3 → M p = none → RY (.int (hiF f k)) (updM M p (.lst acc)) →
      LcIn (gNm 2) tYesD (dBin gIxA (dBin gIxA (dVar 2) (dC (.int 0))) (dVar 1)) [2] [some (poD false f), some (.int (k : Int)), none] (fun x M1 => gMaxDef [x] [.int 0] M1 RY) (f.map tmD) (fun _ => True) (updM M p (.lst acc)) := fun k p acc RY hk hp hy => by
    refine lc_map (fun d => match d with | .tup [.tup [.int a, .int b, .int c], _] => .int (mAt (a, b, c) k) | _ => .non) (by rw [List.length_map, size_line]; omega) (fun _ _ _ => trivial) (fun x q acc' RZ hx hq h1 => ?_) fun q hq => ?_
    · obtain ⟨t, ht, rfl⟩ := List.mem_map.mp hx
      have : k = 0 ∨ k = 1 ∨ k = 2 := by omega
      rcases this with rfl | rfl | rfl <;> simp [wipeD, mAt] at h1 ⊢ <;> exact h1
    · have e : (f.map tmD).map (fun d => match d with | .tup [.tup [.int a, .int b, .int c], _] => D.int (mAt (a, b, c) k) | _ => .non) = (f.map fun t => mAt t.1 k).map D.int := by
        rw [List.map_map, List.map_map]; rfl
      rw [e]
      have sub : Sub (updM M p (.lst acc)) (updM (updM M p (.lst acc)) q (.lst ((f.map fun t => mAt t.1 k).map D.int))) := Sub.new hq
      simp only [eq_gMaxDef, updM_same, intsD_map]
      cases f with
      | nil => exact ⟨_, sub, by simpa [hiF] using hy⟩
      | cons t l =>
        refine ⟨_, sub, ?_⟩
        have := hi_cons hf (t := t) (l := l) rfl k
        rw [this]; exact hy
  refine lc_map (fun d => match d with | .int i => .int (hiF f i.toNat) | _ => .non) (by rw [hrange]; simp [size_line]) (fun _ _ _ => trivial) (fun x p acc RY hx hp h1 => ?_) fun p hp => ?_
  · rw [hrange] at hx
    simp only [List.mem_cons, List.not_mem_nil, or_false] at hx
    rcases hx with rfl | rfl | rfl <;> simp [wipeD, poD] at h1 ⊢
    · exact hn 0 p acc RY (by omega) hp h1
    · exact hn 1 p acc RY (by omega) hp h1
    · exact hn 2 p acc RY (by omega) hp h1
  · exact newL_end h hp (by rw [hrange]; simp) (Sub.new hp)
/-- above ^ i * below ^ (many - i) -/
def powL (a b : Int) (m : Nat) : List Int := (List.range (m + 1)).map fun i => a ^ i * b ^ (m - i)
def spPow : DSp := fun ds M R => ∃ (a b : Int) (m : Nat), ds = [.tup [.int a, .int b], .int m] ∧ m ≤ 3 ∧ a.natAbs < 2 ^ 100 ∧ b.natAbs < 2 ^ 100 ∧ NewL M ((powL a b m).map D.int) R
theorem k_powers_up_to (ds : List D) (M : Mem) (R : DK) (h : spPow ds M R) : r_powers_up_to (endsF R) (startD N_powers_up_to ds) M := by
  obtain ⟨a, b, m, rfl, hm, ha, hb, h⟩ := h
  have pb : ∀ (c : Int) (i : Nat), c.natAbs < 2 ^ 100 → i ≤ 4 → (c ^ i).natAbs < 2 ^ 500 := fun c i hc hi => by
    rw [Int.natAbs_pow]
    calc c.natAbs ^ i ≤ (2 ^ 100) ^ i := Nat.pow_le_pow_left (Nat.le_of_lt hc) i
      _ ≤ (2 ^ 100) ^ 4 := Nat.pow_le_pow_right (by decide) hi
      _ < 2 ^ 500 := by decide
  have mo : ∀ (c d : Int) (i : Nat), c.natAbs < 2 ^ 100 → d.natAbs < 2 ^ 100 → i ≤ 4 → MulOk (c ^ i) d := fun c d i hc hd hi => mul_ok 500 100 (pb c i hc hi) hd (by omega) (by omega) (by omega)
  unfold r_powers_up_to
  simp [size_line]
  intro p1 hp1 p2 hp2
  have n21 : p2 ≠ p1 := fun e => by simp [e] at hp2
  have hp2' : M p2 = none := by simpa [n21] using hp2
  refine ⟨by omega, for_in (fun i δ M' => i ≤ m ∧ (∃ x y, δ = [some (.tup [.int a, .int b]), some (.int m), some (.ref p1), some (.ref p2), x, y]) ∧ M' p1 = some (.lst ((List.range (i + 1)).map fun j => D.int (a ^ j))) ∧ M' p2 = some (.lst ((List.range (i + 1)).map fun j => D.int (b ^ j))) ∧ Sub M M') ?_ ?_ ?_ ?_⟩
  · refine ⟨Nat.zero_le _, ⟨none, none, rfl⟩, ?_, ?_, fun a' o z => ?_⟩
    · simp [n21.symm]
    · simp
    · have a1 : a' ≠ p1 := fun e => by rw [e, hp1] at z; cases z
      have a2 : a' ≠ p2 := fun e => by rw [e, hp2'] at z; cases z
      simp [a1, a2, z]
  · simp
  · rintro i x δ M' hx ⟨hi, ⟨y, z, rfl⟩, e1, e2, sub⟩
    have him : i < m := by
      have := (List.getElem?_eq_some_iff.mp hx).1
      rw [rangeD_length] at this
      simpa using this
    have l1 : ∀ c : Int, atI ((List.range (i + 1)).map fun j => D.int (c ^ j)) (-1) = some (.int (c ^ i)) := fun c => by
      rw [List.range_succ, List.map_append]
      exact atI_last
    have l2 : ∀ c : Int, ((List.range (i + 1)).map fun j => D.int (c ^ j)) ++ [D.int (c ^ i * c)] = (List.range (i + 1 + 1)).map fun j => D.int (c ^ j) := fun c => by
      rw [List.range_succ (n := i + 1), List.map_append]
      simp [Int.pow_succ]
    simp [e1, e2, l1, mo a a i ha ha (by omega), mo b b i hb hb (by omega), n21, n21.symm, size_line, l2]
    refine ⟨by omega, by omega, fun a' o z => ?_⟩
    have a1 : a' ≠ p1 := fun e => by rw [e, hp1] at z; cases z
    have a2 : a' ≠ p2 := fun e => by rw [e, hp2'] at z; cases z
    simp [a1, a2, sub a' o z]
  · rintro δ M' ⟨hi, ⟨y, z, rfl⟩, e1, e2, sub⟩
    rw [rangeD_length] at e1 e2
    have hr : rangeD 0 (m + 1) = (List.range (m + 1)).map fun (i : Nat) => D.int (i : Int) := by
      unfold rangeD
      simp
    simp [hr]
    refine ⟨by omega, lc_map (fun d => match d with | .int i => .int (a ^ i.toNat * b ^ (m - i.toNat)) | _ => .non) (by simp [size_line]; omega) (fun _ _ _ => trivial) (fun x p acc RY hx hp h1 => ?_) fun p hp => ?_⟩
    · obtain ⟨i, hi, rfl⟩ := List.mem_map.mp hx
      have hi := List.mem_range.mp hi
      have np1 : p1 ≠ p := fun e => by rw [e, hp] at e1; cases e1
      have np2 : p2 ≠ p := fun e => by rw [e, hp] at e2; cases e2
      have at1 : ∀ c : Int, atI ((List.range (m + 1)).map fun j => D.int (c ^ j)) (i : Int) = some (.int (c ^ i)) := fun c => atI_nat (by omega) (by simp [hi])
      have at2 : ∀ c : Int, atI ((List.range (m + 1)).map fun j => D.int (c ^ j)) ((m : Int) - i) = some (.int (c ^ (m - i))) := fun c => atI_nat (by omega) (by
        have : ((m : Int) - i).toNat = m - i := by omega
        rw [this]
        have : m - i < m + 1 := by omega
        simp [this])
      have mm : MulOk (a ^ i) (b ^ (m - i)) := mul_ok 500 500 (pb a i ha (by omega)) (pb b (m - i) hb (by omega)) (by omega) (by omega) (by omega)
      simp [wipeD, np1, np2, e1, e2, at1, at2, mm] at h1 ⊢
      exact h1
    · have hpM : M p = none := Sub.un sub hp
      refine newL_end h hpM ?_ fun a' o z => ?_
      · simp [powL, Function.comp_def]
      · have a1 : a' ≠ p := fun e => by rw [e, hpM] at z; cases z
        simp [a1, sub a' o z]
end DD
end
section
namespace DD
open PySem PySem.Spec PyProof.Rows L2
/-! ### polynomials as keys, sorted -/
theorem nk_tms : ∀ f : Po, ∃ ks, nkDs (f.map tmD) = some ks ∧ NestedKey.depthAll ks ≤ 2
  | [] => ⟨[], rfl, by simp [NestedKey.depthAll]⟩
  | t :: f => by
    obtain ⟨ks, h1, h2⟩ := nk_tms f
    refine ⟨.tup [.tup [.num t.1.1, .num t.1.2.1, .num t.1.2.2], .num t.2] :: ks, ?_, ?_⟩
    · show (match nkD (tmD t), nkDs (f.map tmD) with
        | some k, some ks => some (k :: ks)
        | _, _ => none) = _
      rw [h1]; rfl
    · simp [NestedKey.depthAll, NestedKey.depth]; omega
theorem tk_po (f : Po) : isTk (poD false f) = true := by
  obtain ⟨ks, h1, h2⟩ := nk_tms f
  show (match nkD (.tup (f.map tmD)) with
    | some k => decide (k.depth ≤ 8)
    | none => false) = true
  have : nkD (.tup (f.map tmD)) = some (.tup ks) := by
    show (nkDs (f.map tmD)).map NestedKey.tup = _
    rw [h1]; rfl
  rw [this]
  simp [NestedKey.depth]; omega
theorem tmD_inj {t u : Mo × Int} : tmD t = tmD u ↔ t = u := by
  obtain ⟨⟨a, b, c⟩, d⟩ := t
  obtain ⟨⟨e, f, g⟩, h⟩ := u
  simp [tmD, moD, and_assoc]
theorem tms_inj : ∀ {f g : Po}, f.map tmD = g.map tmD ↔ f = g
  | [], [] => by simp
  | [], _ :: _ => by simp
  | _ :: _, [] => by simp
  | t :: f, u :: g => by rw [List.map_cons, List.map_cons, List.cons.injEq, List.cons.injEq, tmD_inj, tms_inj]
theorem poD_inj {f g : Po} : poD false f = poD false g ↔ f = g := by
  unfold poD
  simp only [Bool.false_eq_true, if_false, D.tup.injEq]
  exact tms_inj
theorem pl_tms : ∀ f : Po, plBs (f.map tmD) = true ∧ deps (f.map tmD) ≤ 2
  | [] => ⟨rfl, by simp [deps]⟩
  | t :: f => by
    obtain ⟨h1, h2⟩ := pl_tms f
    refine ⟨?_, ?_⟩
    · show (plB (tmD t) && plBs (f.map tmD)) = true
      rw [h1]; rfl
    · rw [List.map_cons, deps]
      simp [dep, deps]
      omega
theorem pl_po (f : Po) : plB (poD false f) = true ∧ dep (poD false f) ≤ 3 := by
  obtain ⟨h1, h2⟩ := pl_tms f
  refine ⟨h1, ?_⟩
  show deps (f.map tmD) + 1 ≤ 3
  omega
theorem pl_pos : ∀ l : List Po, plBs (l.map (poD false)) = true ∧ deps (l.map (poD false)) ≤ 3
  | [] => ⟨rfl, by simp [deps]⟩
  | f :: l => by
    obtain ⟨h1, h2⟩ := pl_pos l
    obtain ⟨h3, h4⟩ := pl_po f
    refine ⟨?_, ?_⟩
    · show (plB (poD false f) && plBs (l.map (poD false))) = true
      rw [h1, h3]; rfl
    · rw [List.map_cons, deps]; omega
def tmP (t : Mo × Int) : PyData := .tuple [.tuple [.int t.1.1, .int t.1.2.1, .int t.1.2.2], .int t.2]
theorem toP_po (f : Po) : toP (poD false f) = .tuple (f.map tmP) := by
  show ((pyds (f.map tmD)).map PyData.tuple).getD .none = _
  rw [(pls_pyd (pl_tms f).1).1, List.map_map]
  show PyData.tuple (f.map (toP ∘ tmD)) = _
  refine congrArg _ (List.map_congr_left fun t _ => ?_)
  simp [toP, pyd, pyds, tmP, tmD, moD]
theorem alike_tm (t u : Mo × Int) : PySem.W.alike (tmP t) (tmP u) = true := by
  simp [tmP, PySem.W.alike, PySem.W.alikeAll]
theorem alike_tms : ∀ f g : Po, PySem.W.alikeAll (f.map tmP) (g.map tmP) = true
  | [], _ => by simp [PySem.W.alikeAll]
  | _ :: _, [] => by simp [PySem.W.alikeAll]
  | t :: f, u :: g => by rw [List.map_cons, List.map_cons, PySem.W.alikeAll, alike_tm, alike_tms f g]; rfl
theorem sort_pos {l : List Po} (h : ∀ f ∈ l, f ≠ []) : (∃ ps, pyds (l.map (poD false)) = some ps) ∧ PySem.W.AllAlike ((l.map (poD false)).map toP) ∧ PySem.W.Sortable ((l.map (poD false)).map toP) ∧ (∀ y ∈ l.map (poD false), (toP y).depth ≤ 60) := by
  refine ⟨⟨_, (pls_pyd (pl_pos l).1).1⟩, ?_, .inl ?_, ?_⟩
  · intro a ha b hb
    simp only [List.mem_map] at ha hb
    obtain ⟨_, ⟨f, hf, rfl⟩, rfl⟩ := ha
    obtain ⟨_, ⟨g, hg, rfl⟩, rfl⟩ := hb
    rw [toP_po, toP_po, PySem.W.alike]
    exact alike_tms f g
  · intro a ha
    simp only [List.mem_map] at ha
    obtain ⟨_, ⟨f, hf, rfl⟩, rfl⟩ := ha
    rw [toP_po]
    cases f with
    | nil => exact absurd rfl (h _ hf)
    | cons t f => exact ⟨_, _, rfl⟩
  · intro y hy
    obtain ⟨f, hf, rfl⟩ := List.mem_map.mp hy
    obtain ⟨_, _, e⟩ := pl_pyd (pl_po f).1
    rw [e]
    have := (pl_po f).2
    omega
/-- the items of a list, each once -/
def uniq {α : Type} [DecidableEq α] (l : List α) : List α := l.foldl (fun acc x => if x ∈ acc then acc else acc ++ [x]) []
theorem uniq_step {α : Type} [DecidableEq α] (l : List α) (x : α) : uniq (l ++ [x]) = if x ∈ uniq l then uniq l else uniq l ++ [x] := by
  unfold uniq
  rw [List.foldl_append]
  rfl
theorem uniq_mem {α : Type} [DecidableEq α] (x : α) (l : List α) : x ∈ uniq l ↔ x ∈ l := by
  have gen : ∀ l acc : List α, x ∈ l.foldl (fun acc x => if x ∈ acc then acc else acc ++ [x]) acc ↔ x ∈ acc ∨ x ∈ l := by
    intro l
    induction l with
    | nil => intro acc; simp
    | cons a l ih =>
      intro acc
      rw [List.foldl_cons, ih]
      by_cases h : a ∈ acc
      · simp [h]
        constructor
        · rintro (q | q)
          · exact .inl q
          · exact .inr (.inr q)
        · rintro (q | rfl | q)
          · exact .inl q
          · exact .inl h
          · exact .inr q
      · simp [h, or_assoc]
  simpa [uniq] using gen l []
theorem uniq_len {α : Type} [DecidableEq α] (l : List α) : (uniq l).length ≤ l.length := by
  have gen : ∀ l acc : List α, (l.foldl (fun acc x => if x ∈ acc then acc else acc ++ [x]) acc).length ≤ acc.length + l.length := by
    intro l
    induction l with
    | nil => intro acc; simp
    | cons a l ih =>
      intro acc
      rw [List.foldl_cons]
      have := ih (if a ∈ acc then acc else acc ++ [a])
      split at this
      · simp at this ⊢; rename_i h; simp [h]; omega
      · simp at this ⊢; rename_i h; simp [h]; omega
  simpa [uniq] using gen l []
/-- a dict of keys alone -/
def keysT (l : List Po) : List (D × D) := l.map fun f => (poD false f, .bl true)
theorem getK_keys (f : Po) : ∀ l : List Po, getK (keysT l) (poD false f) = if f ∈ l then some (.bl true) else none
  | [] => rfl
  | g :: l => by
    show getK ((poD false g, .bl true) :: keysT l) (poD false f) = _
    rw [getK_cons, getK_keys f l]
    by_cases h : g = f
    · simp [h]
    · have : ¬ (poD false g = poD false f) := fun e => h (poD_inj.mp e)
      simp [this, Ne.symm h]
theorem put_keysT (f : Po) (l : List Po) : putD' (keysT l) (poD false f) (.bl true) = keysT (if f ∈ l then l else l ++ [f]) := by
  have e := getK_keys f l
  by_cases h : f ∈ l
  · rw [if_pos h] at e
    rw [put_old e, if_pos h]
    unfold keysT
    rw [List.map_map]
    refine List.map_congr_left fun g _ => ?_
    simp only [Function.comp]
    split <;> rfl
  · rw [if_neg h] at e
    rw [put_new e, if_neg h]
    unfold keysT
    rw [List.map_append]; rfl
theorem key_ok (f : Po) (l : List Po) : KeyOk (keysT l) (poD false f) := .inr ⟨tk_po f, fun p hp => by
  obtain ⟨g, _, rfl⟩ := List.mem_map.mp hp
  exact tk_po g⟩
/-! ### polynomials_of -/
def polF : Sn → List Po
  | .at _ f => if isConstF f then [] else [primF f]
  | _ => []
def primsS (s : Sn) : List Po := (atomsS s).flatMap polF
/-- what polynomials_of makes -/
def polsD (l : List Po) : D := .tup (((uniq l).map (poD false)).mergeSort dLe)
def PosOk (s : Sn) : Prop := ∀ w f, Sn.at w f ∈ innerS s → PoOk f
theorem const_ne {f : Po} (h : isConstF f = false) : f ≠ [] := fun e => by subst e; cases h
theorem prim_ne {f : Po} (h : f ≠ []) : primF f ≠ [] := by
  unfold primF
  simpa using h
def spPolsOf : DSp := fun ds M R => ∃ s, ds = [snD false s] ∧ sizeS s ≤ 100000 ∧ PosOk s ∧ R (polsD (primsS s)) M
theorem k_polynomials_of (ds : List D) (M : Mem) (R : DK) (h : spPolsOf ds M R) : r_polynomials_of spAtoms spIsC spPrimF (endsF R) (startD N_polynomials_of ds) M := by
  obtain ⟨s, rfl, hs, hp, h⟩ := h
  have hlen : (atomsS s).length ≤ 100000 := by
    have := List.length_filter_le isAtS (innerS s)
    rw [inner_len] at this
    unfold atomsS
    omega
  unfold r_polynomials_of
  simp [size_line]
  intro p1 hp1
  refine ⟨false, s, rfl, hs, fun p2 M2 hp2 e2 fr => ?_⟩
  obtain ⟨n21, hp2'⟩ := updM_none hp2
  have e1 : M2 p1 = some (.dct []) := by rw [fr p1 n21.symm]; simp
  simp [e2]
  refine for_in (fun i δ M' => (∃ x, δ = [some (snD false s), some (.ref p1), x]) ∧ M' p1 = some (.dct (keysT (uniq (((atomsS s).take i).flatMap polF)))) ∧ M' p2 = M2 p2 ∧ Sub M M') ?_ ?_ ?_ ?_
  · refine ⟨⟨none, rfl⟩, by rw [e1]; rfl, rfl, fun a o z => ?_⟩
    have a1 : a ≠ p1 := fun e => by rw [e, hp1] at z; cases z
    have a2 : a ≠ p2 := fun e => by rw [e, hp2'] at z; cases z
    rw [fr a a2, updM_ne a1]; exact z
  · rintro i δ M' _ ⟨_, _, e3, _⟩
    rw [e3]; exact e2
  · rintro i x δ M' hx ⟨⟨y, rfl⟩, e3, e4, sub⟩
    rw [List.getElem?_map] at hx
    cases ha : (atomsS s)[i]? with
    | none => rw [ha] at hx; cases hx
    | some a =>
      rw [ha] at hx
      cases hx
      have hm := List.mem_of_getElem? ha
      obtain ⟨hin, hat⟩ := List.mem_filter.mp hm
      have htake : (((atomsS s).take (i + 1)).flatMap polF) = ((atomsS s).take i).flatMap polF ++ polF a := by
        rw [List.take_add_one, ha]
        simp
      cases a with
      | «at» w f =>
        have hf := hp w f hin
        simp [snD]
        refine ⟨f, rfl, ?_⟩
        simp
        cases hc : isConstF f with
        | true =>
          simp [hc, polF, htake]
          exact ⟨e3, e4, sub⟩
        | false =>
          simp
          refine ⟨f, rfl, hf, const_ne hc, ?_⟩
          have hl1 : (keysT (uniq (((atomsS s).take i).flatMap polF))).length < 16777216 := by
            unfold keysT
            rw [List.length_map]
            have q1 := uniq_len (((atomsS s).take i).flatMap polF)
            have q2 : (((atomsS s).take i).flatMap polF).length ≤ ((atomsS s).take i).length := by
              generalize (atomsS s).take i = l
              induction l with
              | nil => simp
              | cons b l ih =>
                rw [List.flatMap_cons, List.length_append, List.length_cons]
                have : (polF b).length ≤ 1 := by
                  cases b <;> simp [polF]
                  split <;> simp
                omega
            have q3 : ((atomsS s).take i).length ≤ (atomsS s).length := by rw [List.length_take]; omega
            omega
          simp [e3, key_ok, size_line, hl1, put_keysT]
          refine ⟨?_, ?_, ?_⟩
          · rw [htake]
            simp [polF, hc]
            rw [uniq_step]
            by_cases hm' : primF f ∈ uniq (List.flatMap polF (List.take i (atomsS s)))
            · rw [if_pos hm', if_pos hm']
            · rw [if_neg hm', if_neg hm']
          · have : p2 ≠ p1 := n21
            simp [this, e4]
          · intro a o z
            have a1 : a ≠ p1 := fun e => by rw [e, hp1] at z; cases z
            simp [a1, sub a o z]
      | _ => cases hat
  · rintro δ M' ⟨⟨y, rfl⟩, e3, e4, sub⟩
    rw [List.length_map, List.take_length] at e3
    have hne : ∀ f ∈ uniq (primsS s), f ≠ [] := fun f hf => by
      rw [uniq_mem] at hf
      obtain ⟨a, ha, hf⟩ := List.mem_flatMap.mp hf
      cases a with
      | «at» w g =>
        cases hc : isConstF g with
        | true => simp [polF, hc] at hf
        | false =>
          simp [polF, hc] at hf
          rw [hf]
          exact prim_ne (const_ne hc)
      | _ => cases hf
    have ek : (keysT (uniq (primsS s))).map (·.1) = (uniq (primsS s)).map (poD false) := by
      unfold keysT
      rw [List.map_map]; rfl
    obtain ⟨s1, s2, s3, s4⟩ := sort_pos hne
    show _
    simp
    rw [eq_gSortedA]
    have e3' : M' p1 = some (.dct (keysT (uniq (primsS s)))) := e3
    simp only [keyA_ref, e3']
    rw [ek]
    refine ⟨s1, s2, s3, s4, M', Sub.refl M', fun p hpp => ?_⟩
    simp
    have hpM : M p = none := Sub.un sub hpp
    refine ⟨M, fun a o z => ?_, M, Sub.refl M, h⟩
    have a1 : a ≠ p := fun e => by rw [e, hpM] at z; cases z
    simp [a1, sub a o z]
end DD
end
section
namespace DD
open PySem PySem.Spec PyProof.Rows L2
theorem dLe_str (a b : Str) : dLe (.str a) (.str b) = decide (a.cps.toList ≤ b.cps.toList) := by
  have := congrFun (congrFun (PySem.W.dataLe_str (fun z : Str => z)) a) b
  exact this
def nXYZ : List Str := ["x", "y", "z"]
theorem le_xy : dLe (.str "x") (.str "y") = true := by rw [dLe_str]; decide +kernel
theorem le_xz : dLe (.str "x") (.str "z") = true := by rw [dLe_str]; decide +kernel
theorem le_yz : dLe (.str "y") (.str "z") = true := by rw [dLe_str]; decide +kernel
theorem le_yx : dLe (.str "y") (.str "x") = false := by rw [dLe_str]; decide +kernel
theorem le_zx : dLe (.str "z") (.str "x") = false := by rw [dLe_str]; decide +kernel
theorem le_zy : dLe (.str "z") (.str "y") = false := by rw [dLe_str]; decide +kernel
theorem ms2 (a b : D) : [a, b].mergeSort dLe = if dLe a b then [a, b] else [b, a] := by
  simp [List.mergeSort, List.MergeSort.Internal.splitInTwo, List.merge]
theorem ms3 (a b c : D) : [a, b, c].mergeSort dLe = List.merge (if dLe a b then [a, b] else [b, a]) [c] dLe := by
  simp [List.mergeSort, List.MergeSort.Internal.splitInTwo, List.merge]
theorem sorted_names : ∀ l : List Str, l.Nodup → (∀ a ∈ l, a ∈ nXYZ) → (l.map D.str).mergeSort dLe = (nXYZ.filter fun a => decide (a ∈ l)).map D.str
  | [], _, _ => by simp [nXYZ]
  | [a], _, h => by
    have ha := h a (by simp)
    simp [nXYZ] at ha
    rcases ha with rfl | rfl | rfl <;> simp [nXYZ]
  | [a, b], nd, h => by
    have ha := h a (by simp)
    have hb := h b (by simp)
    simp [nXYZ] at ha hb
    rcases ha with rfl | rfl | rfl <;> rcases hb with rfl | rfl | rfl <;> simp at nd <;> simp [nXYZ, ms2, le_xy, le_xz, le_yz, le_yx, le_zx, le_zy]
  | [a, b, c], nd, h => by
    have ha := h a (by simp)
    have hb := h b (by simp)
    have hc := h c (by simp)
    simp [nXYZ] at ha hb hc
    rcases ha with rfl | rfl | rfl <;> rcases hb with rfl | rfl | rfl <;> rcases hc with rfl | rfl | rfl <;> simp at nd <;> simp [nXYZ, ms3, List.merge, le_xy, le_xz, le_yz, le_yx, le_zx, le_zy]
  | a :: b :: c :: d :: l, nd, h => by
    exfalso
    have ha := h a (by simp)
    have hb := h b (by simp)
    have hc := h c (by simp)
    have hd := h d (by simp)
    simp [nXYZ] at ha hb hc hd
    simp only [List.nodup_cons, List.mem_cons, not_or] at nd
    obtain ⟨⟨n1, n2, n3, _⟩, ⟨n4, n5, _⟩, ⟨n6, _⟩, _⟩ := nd
    rcases ha with rfl | rfl | rfl <;> rcases hb with rfl | rfl | rfl <;> first | exact n1 rfl | (rcases hc with rfl | rfl | rfl <;> first | exact n2 rfl | exact n4 rfl | (rcases hd with rfl | rfl | rfl <;> first | exact n3 rfl | exact n5 rfl | exact n6 rfl))
/-! ### free_names -/
def moreH (H : List Str) : Sn → List Str
  | .ov _ x _ => H ++ [x]
  | _ => H
def ownH (H : List Str) : Sn → List Str
  | .at _ f => (namesF f).filter fun n => decide (n ∉ H)
  | _ => []
mutual
def freeH (H : List Str) : Sn → List Str
  | .at w f => (namesF f).filter fun n => decide (n ∉ H)
  | .cst _ => []
  | .neg s => freeH H s
  | .jn _ l => freesH H l
  | .ov _ x s => freeH (H ++ [x]) s
def freesH (H : List Str) : List Sn → List Str
  | [] => []
  | s :: l => freeH H s ++ freesH H l
end
theorem freesH_mem {H : List Str} {n : Str} : ∀ {l : List Sn}, n ∈ freesH H l ↔ ∃ s ∈ l, n ∈ freeH H s
  | [] => by simp [freesH]
  | s :: l => by rw [freesH, List.mem_append, freesH_mem]; simp
theorem freeH_eq (H : List Str) (s : Sn) (n : Str) : n ∈ freeH H s ↔ n ∈ ownH H s ∨ ∃ t ∈ partsS s, n ∈ freeH (moreH H s) t := by
  cases s with
  | jn w l => rw [freeH, freesH_mem]; simp [ownH, partsS, moreH]
  | _ => simp [freeH, ownH, partsS, moreH]
theorem names_xyz (f : Po) : ∀ n ∈ namesF f, n ∈ nXYZ := fun n hn => by
  unfold namesF at hn
  simp only [List.mem_append] at hn
  rcases hn with (hn | hn) | hn <;> (split at hn <;> simp at hn <;> simp [hn, nXYZ])
abbrev stD (q : Sn × List Str) : D := .tup [snD false q.1, .tup (q.2.map D.str)]
def nmT (l : List Str) : List (D × D) := l.map fun n => (.str n, .bl true)
theorem getK_nm (n : Str) : ∀ l : List Str, getK (nmT l) (.str n) = if n ∈ l then some (.bl true) else none
  | [] => rfl
  | m :: l => by
    show getK ((D.str m, .bl true) :: nmT l) (.str n) = _
    rw [getK_cons, getK_nm n l]
    by_cases h : m = n
    · simp [h]
    · have : ¬ (D.str m = D.str n) := fun e => h (D.str.inj e)
      simp [this, Ne.symm h]
theorem put_nm (n : Str) (l : List Str) : putD' (nmT l) (.str n) (.bl true) = nmT (if n ∈ l then l else l ++ [n]) := by
  have e := getK_nm n l
  by_cases h : n ∈ l
  · rw [if_pos h] at e
    rw [put_old e, if_pos h]
    unfold nmT
    rw [List.map_map]
    refine List.map_congr_left fun g _ => ?_
    simp only [Function.comp]
    split <;> rfl
  · rw [if_neg h] at e
    rw [put_new e, if_neg h]
    unfold nmT
    rw [List.map_append]; rfl
theorem nm_ok (n : Str) (l : List Str) : KeyOk (nmT l) (.str n) := .inl ⟨rfl, fun p hp => by
  obtain ⟨g, _, rfl⟩ := List.mem_map.mp hp
  rfl⟩
theorem inFl_strs (n : Str) : ∀ l : List Str, inFl (.str n) (l.map V.str) = decide (n ∈ l)
  | [] => by simp
  | m :: l => by
    rw [List.map_cons, inFl_cons, inFl_strs n l, eqV_ss]
    by_cases h : m = n
    · simp [h]
    · simp [h, Ne.symm h]
theorem xyz_len {l : List Str} (nd : l.Nodup) (h : ∀ a ∈ l, a ∈ nXYZ) : l.length ≤ 3 := by
  match l, nd, h with
  | [], _, _ => simp
  | [a], _, _ => simp
  | [a, b], _, _ => simp
  | [a, b, c], _, _ => simp
  | a :: b :: c :: d :: l, nd, h =>
    exfalso
    have ha := h a (by simp)
    have hb := h b (by simp)
    have hc := h c (by simp)
    have hd := h d (by simp)
    simp [nXYZ] at ha hb hc hd
    simp only [List.nodup_cons, List.mem_cons, not_or] at nd
    obtain ⟨⟨n1, n2, n3, _⟩, ⟨n4, n5, _⟩, ⟨n6, _⟩, _⟩ := nd
    rcases ha with rfl | rfl | rfl <;> rcases hb with rfl | rfl | rfl <;> first | exact n1 rfl | (rcases hc with rfl | rfl | rfl <;> first | exact n2 rfl | exact n4 rfl | (rcases hd with rfl | rfl | rfl <;> first | exact n3 rfl | exact n5 rfl | exact n6 rfl))
def spFreeN (P : Addr) : DSp := fun ds M R => ∃ s, ds = [snD false s] ∧ sizeS s ≤ 100000 ∧ M P = some .tbl ∧ R (.tup ((nXYZ.filter fun n => decide (n ∈ freeH [] s)).map D.str)) M
def stkSize (l : List (Sn × List Str)) : Nat := sizesS (l.map (·.1))
theorem stk_append (a b : List (Sn × List Str)) : stkSize (a ++ b) = stkSize a + stkSize b := by
  unfold stkSize
  rw [List.map_append, sizes_append]
theorem stk_parts (l : List Sn) (H : List Str) : stkSize (l.map fun t => (t, H)) = sizesS l := by
  unfold stkSize
  rw [List.map_map]
  simp [Function.comp_def]
theorem size_mem {u : Sn} : ∀ {l : List Sn}, u ∈ l → sizeS u ≤ sizesS l
  | s :: l, h => by
    rw [sizesS]
    rcases List.mem_cons.mp h with rfl | h
    · omega
    · have := size_mem h; omega
theorem moreH_len (H : List Str) (s : Sn) : (moreH H s).length ≤ H.length + 1 := by
  cases s <;> simp [moreH]
structure FrI (s : Sn) (fs : List Str) (st : List (Sn × List Str)) : Prop where
  nd : fs.Nodup
  xyz : ∀ a ∈ fs, a ∈ nXYZ
  mem : ∀ n, n ∈ freeH [] s ↔ n ∈ fs ∨ ∃ q ∈ st, n ∈ freeH q.2 q.1
  sz : stkSize st ≤ sizeS s
  hl : ∀ q ∈ st, q.2.length + sizeS q.1 ≤ sizeS s
theorem sort_strs {l : List Str} (h : ∀ a ∈ l, a ∈ nXYZ) : (∃ ps, pyds (l.map D.str) = some ps) ∧ PySem.W.AllAlike ((l.map D.str).map toP) ∧ PySem.W.Sortable ((l.map D.str).map toP) ∧ (∀ y ∈ l.map D.str, (toP y).depth ≤ 60) := by
  have e : (l.map D.str).map toP = l.map PyData.str := by
    rw [List.map_map]; rfl
  have hp : ∀ l : List Str, pyds (l.map D.str) = some (l.map PyData.str) := fun l => by
    induction l with
    | nil => rfl
    | cons a l ih =>
      show (match pyd (.str a), pyds (l.map D.str) with
        | some x, some xs => some (x :: xs)
        | _, _ => none) = _
      rw [ih]; rfl
  refine ⟨⟨_, hp l⟩, ?_, .inr ?_, ?_⟩
  · rw [e]
    intro a ha b hb
    obtain ⟨x, _, rfl⟩ := List.mem_map.mp ha
    obtain ⟨y, _, rfl⟩ := List.mem_map.mp hb
    simp [PySem.W.alike]
  · rw [e]
    intro a ha
    obtain ⟨x, _, rfl⟩ := List.mem_map.mp ha
    exact ⟨fun z => (by cases z), fun xs z => (by cases z)⟩
  · intro y hy
    obtain ⟨x, _, rfl⟩ := List.mem_map.mp hy
    show (PyData.str x).depth ≤ 60
    simp [PyData.depth]
theorem k_free_names (P : Addr) (ds : List D) (M : Mem) (R : DK) (h : spFreeN P ds M R) : r_free_names (spNames P) spParts (endsF R) (startD N_free_names ds) M := by
  obtain ⟨s, rfl, hs, hP, h⟩ := h
  unfold r_free_names
  simp [size_line]
  intro p1 hp1 p2 hp2
  have n21 : p2 ≠ p1 := fun e => by simp [e] at hp2
  have hp2' : M p2 = none := by simpa [n21] using hp2
  have nP1 : P ≠ p1 := fun e => by rw [e, hp1] at hP; cases hP
  have nP2 : P ≠ p2 := fun e => by rw [e, hp2'] at hP; cases hP
  refine ⟨fun n δ M' => ∃ (fs : List Str) (st : List (Sn × List Str)), FrI s fs st ∧ n = stkSize st ∧ (∃ a b c d e, δ = [some (snD false s), some (.ref p1), some (.ref p2), a, b, c, d, e]) ∧ M' p1 = some (.dct (nmT fs)) ∧ M' p2 = some (.lst (st.map stD)) ∧ Sub M M', ⟨_, [], [(s, [])], ⟨.nil, fun _ h => (by cases h), fun n => (by simp), (by simp [stkSize, sizesS]), fun q hq => (by simp at hq; subst hq; simp)⟩, rfl, ⟨none, none, none, none, none, rfl⟩, ?_, ?_, ?_⟩, ?_⟩
  · simp [n21.symm, nmT]
  · simp
  · intro a o z
    have a1 : a ≠ p1 := fun e => by rw [e, hp1] at z; cases z
    have a2 : a ≠ p2 := fun e => by rw [e, hp2'] at z; cases z
    simp [a1, a2, z]
  · rintro n δ M' ⟨fs, st, hI, rfl, ⟨a, b, c, d, e, rfl⟩, e1, e2, sub⟩
    rcases List.eq_nil_or_concat st with rfl | ⟨st', ⟨y, H⟩, hst⟩
    · simp [e2]
      have hfr : (nXYZ.filter fun n => decide (n ∈ fs)) = nXYZ.filter fun n => decide (n ∈ freeH [] s) := List.filter_congr fun n _ => decide_eq_decide.mpr (by rw [hI.mem n]; simp)
      have ek : (nmT fs).map (·.1) = fs.map D.str := by
        unfold nmT
        rw [List.map_map]; rfl
      rw [eq_gSortedA]
      simp only [keyA_ref, e1]
      rw [ek]
      obtain ⟨s1, s2, s3, s4⟩ := sort_strs hI.xyz
      refine ⟨s1, s2, s3, s4, M', Sub.refl M', fun p hp => ?_⟩
      have hpM : M p = none := Sub.un sub hp
      simp
      refine ⟨M, fun a o z => ?_, M, Sub.refl M, ?_⟩
      · have a1 : a ≠ p := fun e => by rw [e, hpM] at z; cases z
        simp [a1, sub a o z]
      · rw [sorted_names fs hI.nd hI.xyz, hfr]; exact h
    · rw [List.concat_eq_append] at hst
      subst hst
      have e3 : ((st'.map stD) ++ [stD (y, H)])[st'.length]? = some (stD (y, H)) := by
        rw [List.getElem?_append_right (by simp)]; simp
      have szy : stkSize (st' ++ [(y, H)]) = stkSize st' + sizeS y := by unfold stkSize; rw [List.map_append, sizes_append]; simp [sizesS]
      have szp := size_parts y
      have hsz := hI.sz
      have hHl := hI.hl (y, H) (by simp)
      have hMP : M' P = some .tbl := sub _ _ hP
      -- what follows the names of an atom
      have rest : ∀ (E : DEnds) (fs' : List Str) (M2 : Mem) (a' c' d' : Option D), (∀ δ' M', (∃ n', n' < stkSize (st' ++ [(y, H)]) ∧ ∃ (fs : List Str) (st : List (Sn × List Str)), FrI s fs st ∧ n' = stkSize st ∧ (∃ a b c d e, δ' = [some (snD false s), some (.ref p1), some (.ref p2), a, b, c, d, e]) ∧ M' p1 = some (.dct (nmT fs)) ∧ M' p2 = some (.lst (st.map stD)) ∧ Sub M M') → E.nx δ' M') →
          fs'.Nodup → (∀ a ∈ fs', a ∈ nXYZ) → (∀ n, n ∈ fs' ↔ n ∈ fs ∨ n ∈ ownH H y) → M2 p1 = some (.dct (nmT fs')) → M2 p2 = some (.lst (st'.map stD)) → Sub M M2 →
          (sSeq (sAsg (dIf (dTest (dBin (gInA false) (dBin gIxA (dVar 4) (dC (.int 0))) (dC c_OVER_WORDS))) (dBin gAdd (dVar 5) (dTup (aCons (dBin gIxA (dVar 4) (dC (.int 1))) (aNil)))) (dVar 5)) (gNm 3)) (sDrop (dBM isLst gExtend (dVar 2) (aCons (dLc (iSeqA (dCall spParts (aCons (dVar 4) (aNil)))) (gNm 7) (tYesD) (dTup (aCons (dVar 7) (aCons (dVar 3) (aNil)))) [7]) (aNil)))))
            E [some (snD false s), some (.ref p1), some (.ref p2), a', some (snD false y), some (.tup (H.map D.str)), c', d'] M2 := by
        intro E fs' M2 a' c' d' hE nd xyz mem m1 m2 sub2
        have fin : ∀ x, (sDrop (dBM isLst gExtend (dVar 2) (aCons (dLc (iSeqA (dCall spParts (aCons (dVar 4) (aNil)))) (gNm 7) (tYesD) (dTup (aCons (dVar 7) (aCons (dVar 3) (aNil)))) [7]) (aNil))))
            E [some (snD false s), some (.ref p1), some (.ref p2), some (.tup ((moreH H y).map D.str)), some (snD false y), some (.tup (H.map D.str)), c', x] M2 := by
          intro x
          simp [m2]
          refine ⟨false, y, rfl, ?_⟩
          simp
          have lp : (partsS y).length ≤ sizesS (partsS y) := by
            have gen : ∀ l : List Sn, l.length ≤ sizesS l := fun l => by
              induction l with
              | nil => simp [sizesS]
              | cons s l ih => rw [sizesS, List.length_cons]; have := size_pos s; omega
            exact gen _
          have ls : st'.length ≤ stkSize st' := by
            have gen : ∀ l : List (Sn × List Str), l.length ≤ stkSize l := fun l => by
              induction l with
              | nil => simp
              | cons s l ih =>
                have e : stkSize (s :: l) = sizeS s.1 + stkSize l := rfl
                have := size_pos s.1
                rw [List.length_cons, e]; omega
            exact gen _
          refine lc_map (fun d => .tup [d, .tup ((moreH H y).map D.str)]) (by rw [List.length_map, size_line]; omega) (fun _ _ _ => trivial) (fun x q acc RY hx hq h1 => ?_) fun q hq => ?_
          · simp [wipeD, size_line] at h1 ⊢
            exact h1
          · have q1 : q ≠ p1 := fun e => by rw [e, m1] at hq; cases hq
            have q2 : q ≠ p2 := fun e => by rw [e, m2] at hq; cases hq
            have hqM : M q = none := Sub.un sub2 hq
            simp [q2.symm, q1.symm, m2, size_line]
            refine ⟨by omega, hE _ _ ⟨_, ?_, fs', st' ++ (partsS y).map (fun t => (t, moreH H y)), ⟨nd, xyz, fun n => ?_, ?_, fun t ht => ?_⟩, rfl, ⟨_, _, _, _, _, rfl⟩, ?_, ?_, fun a o z => ?_⟩⟩
            · rw [stk_append, stk_parts, szy]; omega
            · rw [hI.mem n]
              constructor
              · rintro (q | ⟨t, ht, q⟩)
                · exact .inl ((mem n).mpr (.inl q))
                · rcases List.mem_append.mp ht with ht | ht
                  · exact .inr ⟨t, List.mem_append_left _ ht, q⟩
                  · rw [List.mem_singleton.mp ht] at q
                    rcases (freeH_eq H y n).mp q with q | ⟨u, hu, q⟩
                    · exact .inl ((mem n).mpr (.inr q))
                    · exact .inr ⟨(u, moreH H y), List.mem_append_right _ (List.mem_map.mpr ⟨u, hu, rfl⟩), q⟩
              · rintro (q | ⟨t, ht, q⟩)
                · rcases (mem n).mp q with q | q
                  · exact .inl q
                  · exact .inr ⟨(y, H), by simp, (freeH_eq H y n).mpr (.inl q)⟩
                · rcases List.mem_append.mp ht with ht | ht
                  · exact .inr ⟨t, List.mem_append_left _ ht, q⟩
                  · obtain ⟨u, hu, rfl⟩ := List.mem_map.mp ht
                    exact .inr ⟨(y, H), by simp, (freeH_eq H y n).mpr (.inr ⟨u, hu, q⟩)⟩
            · rw [stk_append, stk_parts]; omega
            · rcases List.mem_append.mp ht with ht | ht
              · exact hI.hl t (List.mem_append_left _ ht)
              · obtain ⟨u, hu, rfl⟩ := List.mem_map.mp ht
                have hu' := size_mem hu
                have hm := moreH_len H y
                have hHl' : H.length + sizeS y ≤ sizeS s := hHl
                show (moreH H y).length + sizeS u ≤ sizeS s
                omega
            · simp [q1.symm, n21.symm, m1]
            · simp [Function.comp_def]
            · have a1 : a ≠ q := fun e => by rw [e, hqM] at z; cases z
              have a2 : a ≠ p2 := fun e => by rw [e, hp2'] at z; cases z
              simp [a1, a2, sub2 a o z]
        have hHl' : H.length + sizeS y ≤ sizeS s := hHl
        simp only [eq_sSeq, eq_sAsg, eq_dIf]
        cases y with
        | «at» w f => cases w <;> simp [snD, AtW.str] <;> exact fin _
        | cst v => cases v <;> simp [snD, cstStr] <;> exact fin _
        | neg t => simp [snD]; exact fin _
        | jn w l => cases w <;> simp [snD, JnW.str] <;> exact fin _
        | ov w x t =>
          have f := fin d'
          cases w
          · simp [snD, OvW.str, size_line]
            refine ⟨by omega, ?_⟩
            simpa [snD, OvW.str, size_line, moreH] using f
          · simp [snD, OvW.str, size_line]
            refine ⟨by omega, ?_⟩
            simpa [snD, OvW.str, size_line, moreH] using f
      simp only [eq_sSeq, eq_sAsg, eq_sIf, eq_sFor, eq_sWhile]
      simp [e2, e3, -eq_sSeq, -eq_sAsg, -eq_sDrop]
      have e1' : (updM M' p2 (.lst (st'.map stD))) p1 = some (.dct (nmT fs)) := by simp [n21.symm, e1]
      have e2' : (updM M' p2 (.lst (st'.map stD))) p2 = some (.lst (st'.map stD)) := updM_same
      have sub' : Sub M (updM M' p2 (.lst (st'.map stD))) := fun a o z => by
        have a2 : a ≠ p2 := fun e => by rw [e, hp2'] at z; cases z
        simp [a2, sub a o z]
      generalize updM M' p2 (.lst (st'.map stD)) = M3 at e1' e2' sub'
      rw [eq_sSeq, eq_sIf]
      cases y with
      | «at» w f =>
        have own : ∀ n, n ∈ ownH H (.at w f) ↔ n ∈ namesF f ∧ n ∉ H := fun n => by simp [ownH]
        have hfl : (namesF f).length ≤ 3 := by
          unfold namesF
          split <;> split <;> split <;> simp
        have go : ∀ (E : DEnds), (∀ (fs' : List Str) (M2 : Mem) (a' c' d' : Option D), fs'.Nodup → (∀ a ∈ fs', a ∈ nXYZ) → (∀ n, n ∈ fs' ↔ n ∈ fs ∨ n ∈ ownH H (.at w f)) → M2 p1 = some (.dct (nmT fs')) → M2 p2 = some (.lst (st'.map stD)) → Sub M M2 →
              E.nx [some (snD false s), some (.ref p1), some (.ref p2), a', some (snD false (.at w f)), some (.tup (H.map D.str)), c', d'] M2) →
            ForIn (gNm 6) (sIf (dTest (dBin (gInA true) (dVar 6) (dVar 5))) (sAsg (dC (.bl true)) (gSubD (dVar 1) (dVar 6) gSetA)) sNext) E
            [some (snD false s), some (.ref p1), some (.ref p2), a, some (snD false (.at w f)), some (.tup (H.map D.str)), d, e] ((namesF f).map D.str) (fun _ => True) M3 := by
          intro E hE
          refine for_in (fun i δ M' => ∃ fs', fs'.Nodup ∧ (∀ a ∈ fs', a ∈ nXYZ) ∧ (∀ n, n ∈ fs' ↔ n ∈ fs ∨ (n ∈ (namesF f).take i ∧ n ∉ H)) ∧ M' p1 = some (.dct (nmT fs')) ∧ M' p2 = some (.lst (st'.map stD)) ∧ Sub M M' ∧ ∃ c', δ = [some (snD false s), some (.ref p1), some (.ref p2), a, some (snD false (.at w f)), some (.tup (H.map D.str)), c', e]) ?_ ?_ ?_ ?_
          · exact ⟨fs, hI.nd, hI.xyz, fun n => by simp, e1', e2', sub', d, rfl⟩
          · intros; trivial
          · rintro i x δ M' hx ⟨fs', nd, xyz, mem, m1, m2, sb, c', rfl⟩
            rw [List.getElem?_map] at hx
            cases hn : (namesF f)[i]? with
            | none => rw [hn] at hx; cases hx
            | some n =>
              rw [hn] at hx
              cases hx
              have ht : ∀ m, m ∈ (namesF f).take (i + 1) ↔ m ∈ (namesF f).take i ∨ m = n := fun m => by
                rw [List.take_add_one, hn]; simp
              have hxyz := names_xyz f n (List.mem_of_getElem? hn)
              simp [flDs_strs, inFl_strs]
              by_cases hH : n ∈ H
              · simp [hH]
                refine ⟨fs', nd, xyz, fun m => ?_, m1, m2, sb⟩
                rw [mem m, ht m]
                constructor
                · rintro (q | ⟨q, r⟩)
                  · exact .inl q
                  · exact .inr ⟨.inl q, r⟩
                · rintro (q | ⟨q | rfl, r⟩)
                  · exact .inl q
                  · exact .inr ⟨q, r⟩
                  · exact absurd hH r
              · have hl := xyz_len nd xyz
                have hl2 : (nmT fs').length < 16777216 := by unfold nmT; rw [List.length_map]; omega
                simp [hH, m1, nm_ok, size_line, hl2, put_nm]
                refine ⟨if n ∈ fs' then fs' else fs' ++ [n], ?_, ?_, fun m => ?_, rfl, ?_, ?_⟩
                · split
                  · exact nd
                  · rename_i hf
                    exact List.nodup_append.mpr ⟨nd, by simp, fun a ha b hb => by
                      rw [List.mem_singleton.mp hb]
                      exact fun z => hf (z ▸ ha)⟩
                · intro b hb
                  split at hb
                  · exact xyz b hb
                  · rcases List.mem_append.mp hb with hb | hb
                    · exact xyz b hb
                    · rw [List.mem_singleton.mp hb]; exact hxyz
                · rw [ht m]
                  have e : m ∈ (if n ∈ fs' then fs' else fs' ++ [n]) ↔ m ∈ fs' ∨ m = n := by
                    split
                    · rename_i hf
                      constructor
                      · exact .inl
                      · rintro (q | rfl)
                        · exact q
                        · exact hf
                    · simp
                  rw [e, mem m]
                  constructor
                  · rintro ((q | ⟨q, r⟩) | rfl)
                    · exact .inl q
                    · exact .inr ⟨.inl q, r⟩
                    · exact .inr ⟨.inr rfl, hH⟩
                  · rintro (q | ⟨q | rfl, r⟩)
                    · exact .inl (.inl q)
                    · exact .inl (.inr ⟨q, r⟩)
                    · exact .inr rfl
                · simp [n21, m2]
                · intro b o z
                  have a1 : b ≠ p1 := fun e => by rw [e, hp1] at z; cases z
                  simp [a1, sb b o z]
          · rintro δ M' ⟨fs', nd, xyz, mem, m1, m2, sb, c', rfl⟩
            rw [List.length_map, List.take_length] at mem
            exact hE fs' M' a c' e nd xyz (fun n => by rw [mem n, own n]) m1 m2 sb
        cases w
        · simp [snD, AtW.str, -eq_sSeq, -eq_sAsg, -eq_sDrop]
          refine ⟨f, rfl, sub' _ _ hP, ?_⟩
          simp [-eq_sSeq, -eq_sAsg, -eq_sDrop]
          exact go _ fun fs' M2 a' c' d' nd xyz mem m1 m2 sb => rest _ fs' M2 a' c' d' (fun _ _ h => h) nd xyz mem m1 m2 sb
        · simp [snD, AtW.str, -eq_sSeq, -eq_sAsg, -eq_sDrop]
          refine ⟨f, rfl, sub' _ _ hP, ?_⟩
          simp [-eq_sSeq, -eq_sAsg, -eq_sDrop]
          exact go _ fun fs' M2 a' c' d' nd xyz mem m1 m2 sb => rest _ fs' M2 a' c' d' (fun _ _ h => h) nd xyz mem m1 m2 sb
        · simp [snD, AtW.str, -eq_sSeq, -eq_sAsg, -eq_sDrop]
          refine ⟨f, rfl, sub' _ _ hP, ?_⟩
          simp [-eq_sSeq, -eq_sAsg, -eq_sDrop]
          exact go _ fun fs' M2 a' c' d' nd xyz mem m1 m2 sb => rest _ fs' M2 a' c' d' (fun _ _ h => h) nd xyz mem m1 m2 sb
      | cst v =>
        cases v <;> simp [snD, cstStr, -eq_sSeq, -eq_sAsg, -eq_sDrop] <;> refine rest _ fs M3 a d e (fun _ _ h => h) hI.nd hI.xyz (fun n => by simp [ownH]) e1' e2' sub'
      | neg t =>
        simp [snD, -eq_sSeq, -eq_sAsg, -eq_sDrop]
        exact rest _ fs M3 a d e (fun _ _ h => h) hI.nd hI.xyz (fun n => by simp [ownH]) e1' e2' sub'
      | jn w l =>
        cases w <;> simp [snD, JnW.str, -eq_sSeq, -eq_sAsg, -eq_sDrop] <;> refine rest _ fs M3 a d e (fun _ _ h => h) hI.nd hI.xyz (fun n => by simp [ownH]) e1' e2' sub'
      | ov w x t =>
        cases w <;> simp [snD, OvW.str, -eq_sSeq, -eq_sAsg, -eq_sDrop] <;> refine rest _ fs M3 a d e (fun _ _ h => h) hI.nd hI.xyz (fun n => by simp [ownH]) e1' e2' sub'
end DD
end
section
namespace DD
open PySem PySem.Spec PyProof.Rows L2
/-! ### sign_by, holds_by -/
def sgT (sg : Po → Int) (l : List Po) : List (D × D) := l.map fun f => (poD false f, .int (sg f))
theorem getK_sg (sg : Po → Int) (f : Po) : ∀ l : List Po, f ∈ l → getK (sgT sg l) (poD false f) = some (.int (sg f))
  | g :: l, h => by
    show getK ((poD false g, D.int (sg g)) :: sgT sg l) (poD false f) = _
    rw [getK_cons]
    by_cases e : g = f
    · subst e; simp
    · have : ¬ (poD false g = poD false f) := fun z => e (poD_inj.mp z)
      simp only [this, if_false]
      exact getK_sg sg f l (by
        rcases List.mem_cons.mp h with q | q
        · exact absurd q.symm e
        · exact q)
theorem key_sg (sg : Po → Int) (f : Po) (l : List Po) : KeyOk (sgT sg l) (poD false f) := .inr ⟨tk_po f, fun p hp => by
  obtain ⟨g, _, rfl⟩ := List.mem_map.mp hp
  exact tk_po g⟩
def sgnBy (sg : Po → Int) (f : Po) : Int := if isConstF f then (constF f).sign else (byF f).sign * sg (primF f)
def spSgB : DSp := fun ds M R => ∃ (sg : Po → Int) (l : List Po) (f : Po) (a : Addr), ds = [poD false f, .ref a] ∧ M a = some (.dct (sgT sg l)) ∧ PoOk f ∧ (isConstF f = false → primF f ∈ l) ∧ (∀ g, (sg g).natAbs ≤ 1) ∧ R (.int (sgnBy sg f)) M
theorem k_sign_by (ds : List D) (M : Mem) (R : DK) (h : spSgB ds M R) : r_sign_by spIsC spSign spConst spPrimF (endsF R) (startD N_sign_by ds) M := by
  obtain ⟨sg, l, f, a, rfl, ha, hf, hl, hsg, h⟩ := h
  unfold r_sign_by
  simp [size_line]
  refine ⟨f, rfl, ?_⟩
  cases hc : isConstF f with
  | true =>
    simp
    refine ⟨f, rfl, _, rfl, ?_⟩
    simp [sgnBy, hc] at h ⊢
    exact ret_same h
  | false =>
    simp
    refine ⟨f, rfl, hf, const_ne hc, ?_⟩
    simp
    refine ⟨_, rfl, ?_⟩
    have sb : (byF f).sign.natAbs ≤ 1 := by
      have : ∀ i : Int, i.sign.natAbs ≤ 1 := fun i => by
        rcases Int.lt_trichotomy i 0 with z | z | z
        · rw [Int.sign_eq_neg_one_of_neg z]; decide
        · subst z; decide
        · rw [Int.sign_eq_one_of_pos z]; decide
      exact this _
    have mo : MulOk (byF f).sign (sg (primF f)) := mul_ok 2 2 (by omega) (by have := hsg (primF f); omega) (by omega) (by omega) (by omega)
    simp [sgnBy, hc] at h
    simp [ha, key_sg, getK_sg sg _ l (hl hc), mo]
    exact ret_same h
/-! the truth of a sentence without some, all -/
mutual
def evalS (tr : AtW → Po → Bool) : Sn → Bool
  | .at w f => tr w f
  | .cst v => v
  | .neg s => !evalS tr s
  | .jn .and l => evalAll' tr l
  | .jn .or l => evalAny' tr l
  | .ov _ _ _ => false
def evalAll' (tr : AtW → Po → Bool) : List Sn → Bool
  | [] => true
  | s :: l => evalS tr s && evalAll' tr l
def evalAny' (tr : AtW → Po → Bool) : List Sn → Bool
  | [] => false
  | s :: l => evalS tr s || evalAny' tr l
end
theorem evalAll_eq (tr : AtW → Po → Bool) : ∀ l, evalAll' tr l = (l.map (evalS tr)).all id
  | [] => rfl
  | s :: l => by rw [evalAll', evalAll_eq tr l]; simp
theorem evalAny_eq (tr : AtW → Po → Bool) : ∀ l, evalAny' tr l = (l.map (evalS tr)).any id
  | [] => rfl
  | s :: l => by rw [evalAny', evalAny_eq tr l]; simp
mutual
def hS : Sn → Nat
  | .at _ _ => 0
  | .cst _ => 0
  | .neg s => hS s + 1
  | .jn _ l => hSs l + 1
  | .ov _ _ s => hS s + 1
def hSs : List Sn → Nat
  | [] => 0
  | s :: l => max (hS s) (hSs l)
end
theorem hSs_mem {s : Sn} : ∀ {l : List Sn}, s ∈ l → hS s ≤ hSs l
  | t :: l, h => by
    rw [hSs]
    rcases List.mem_cons.mp h with rfl | h
    · omega
    · have := hSs_mem h; omega
mutual
def noOv : Sn → Bool
  | .at _ _ => true
  | .cst _ => true
  | .neg s => noOv s
  | .jn _ l => noOvs l
  | .ov _ _ _ => false
def noOvs : List Sn → Bool
  | [] => true
  | s :: l => noOv s && noOvs l
end
theorem noOvs_mem {s : Sn} : ∀ {l : List Sn}, noOvs l = true → s ∈ l → noOv s = true
  | t :: l, h, hs => by
    rw [noOvs, Bool.and_eq_true] at h
    rcases List.mem_cons.mp hs with rfl | hs
    · exact h.1
    · exact noOvs_mem h.2 hs
theorem inner_part {s t : Sn} (h : t ∈ partsS s) {u : Sn} (hu : u ∈ innerS t) : u ∈ innerS s := by
  rw [inner_eq s]
  refine List.mem_cons_of_mem _ ?_
  have gen : ∀ l : List Sn, t ∈ l → u ∈ innersS l := fun l => by
    induction l with
    | nil => intro h; cases h
    | cons a l ih =>
      intro h
      rw [innersS]
      rcases List.mem_cons.mp h with rfl | h
      · exact List.mem_append_left _ hu
      · exact List.mem_append_right _ (ih h)
  exact gen _ h
def trS (sg : Po → Int) (w : AtW) (f : Po) : Bool := holdsW w (sgnBy sg f)
def spHb (n : Nat) : DSp := fun ds M R => ∃ (sg : Po → Int) (l : List Po) (s : Sn) (a : Addr), ds = [snD false s, .ref a] ∧ M a = some (.dct (sgT sg l)) ∧ noOv s = true ∧ hS s ≤ n ∧ sizeS s ≤ 100000 ∧ PosOk s ∧ (∀ w f, Sn.at w f ∈ innerS s → isConstF f = false → primF f ∈ l) ∧ (∀ g, (sg g).natAbs ≤ 1) ∧ R (.bl (evalS (trS sg) s)) M
theorem k_holds_by (n : Nat) (sp : DSp) (hsp : ∀ m, n = m + 1 → sp = spHb m) (ds : List D) (M : Mem) (R : DK) (h : spHb n ds M R) : r_holds_by spHf spSgB spJoin spParts sp (endsF R) (startD N_holds_by ds) M := by
  obtain ⟨sg, l, s, a, rfl, ha, hno, hn, hs, hpo, hl, hsg, h⟩ := h
  unfold r_holds_by
  have many : ∀ (w : Option JnW) (ts : List Sn), partsS s = ts → (w = none → ts ≠ []) → 0 < hS s → (∀ t ∈ ts, noOv t = true ∧ hS t < hS s ∧ sizeS t ≤ sizeS s) → joinW w (ts.map (evalS (trS sg))) = evalS (trS sg) s →
      LcIn (gNm 2) tYesD (dCall sp (aCons (dVar 2) (aCons (dVar 1) aNil))) [2] [some (snD false s), some (.ref a), none] (fun x M1 => spJoin [.str (joinS w), x] M1 (endsF R).rt) (ts.map (snD false)) (fun _ => True) M := by
    intro w ts hts hw h0 ht hj
    obtain ⟨m, rfl⟩ : ∃ m, n = m + 1 := ⟨n - 1, by omega⟩
    rw [hsp m rfl]
    have hlen : ts.length ≤ 100000 := by
      have gen : ∀ l : List Sn, l.length ≤ sizesS l := fun l => by
        induction l with
        | nil => simp [sizesS]
        | cons s l ih => rw [sizesS, List.length_cons]; have := size_pos s; omega
      have := gen ts
      have := size_parts s
      rw [hts] at this
      omega
    refine lc_seq (fun _ => M) (fun i => .bl ((ts.map (evalS (trS sg))).getD i false)) rfl (by rw [List.length_map, size_line]; omega) (fun _ _ _ _ => trivial) (fun i x p acc RY hx hp h1 => ?_) fun p hp => ?_
    · rw [List.getElem?_map] at hx
      cases ht' : ts[i]? with
      | none => rw [ht'] at hx; cases hx
      | some t =>
        rw [ht'] at hx
        cases hx
        have htm := List.mem_of_getElem? ht'
        obtain ⟨t1, t2, t3⟩ := ht t htm
        have np : a ≠ p := fun e => by rw [e, hp] at ha; cases ha
        have htp : t ∈ partsS s := by rw [hts]; exact htm
        simp [wipeD]
        refine ⟨sg, l, t, a, rfl, by rw [updM_ne np]; exact ha, t1, by omega, by omega, fun w f hf => hpo w f (inner_part htp hf), fun w f hf => hl w f (inner_part htp hf), hsg, ?_⟩
        have e : (ts.map (evalS (trS sg))).getD i false = evalS (trS sg) t := by
          rw [List.getD_eq_getElem?_getD, List.getElem?_map, ht']; rfl
        have := h1 _ rfl
        rw [e] at this
        exact this
    · have e : (List.range (ts.map (snD false)).length).map (fun i => D.bl ((ts.map (evalS (trS sg))).getD i false)) = (ts.map (evalS (trS sg))).map D.bl := by
        apply List.ext_getElem?
        intro i
        by_cases hi : i < ts.length
        · simp [hi]
        · simp [hi]
      rw [e]
      refine ⟨w, p, ts.map (evalS (trS sg)), rfl, updM_same, fun hw' => by have := hw hw'; simpa using this, ?_⟩
      rw [hj]
      exact ⟨M, Sub.new hp, h⟩
  cases s with
  | «at» w f =>
    have hf := hpo w f (by simp [innerS])
    have hl' := hl w f (by simp [innerS])
    cases w <;> simp [snD, AtW.str] <;> refine ⟨sg, l, f, a, rfl, ha, hf, hl', hsg, ?_⟩ <;> simp
    · refine ⟨.less, _, rfl, ret_same h⟩
    · refine ⟨.most, _, rfl, ret_same h⟩
    · refine ⟨.is, _, rfl, ret_same h⟩
  | cst v => cases v <;> simp [snD, cstStr, evalS, size_line] at h ⊢ <;> exact ret_same h
  | neg t =>
    have := many none [t] rfl (by simp) (by simp [hS]) (fun u hu => by rw [List.mem_singleton.mp hu]; exact ⟨hno, by simp [hS], by simp [sizeS]⟩) (by simp [joinW, evalS])
    simp [snD]
    refine ⟨by decide, false, .neg t, rfl, ?_⟩
    simpa [partsS, snD, joinS] using this
  | jn w ts =>
    have hsm : ∀ t ∈ ts, noOv t = true ∧ hS t < hS (.jn w ts) ∧ sizeS t ≤ sizeS (.jn w ts) := fun t ht => by
      refine ⟨noOvs_mem hno ht, ?_, ?_⟩
      · have := hSs_mem ht
        simp [hS]; omega
      · have := size_mem ht
        simp [sizeS]; omega
    have := many (some w) ts rfl (by simp) (by simp [hS]) hsm (by
      cases w
      · simp [joinW, evalS, evalAll_eq]
      · simp [joinW, evalS, evalAny_eq])
    cases w
    · simp [snD, JnW.str]
      refine ⟨by decide, false, .jn .and ts, rfl, ?_⟩
      simpa [partsS, snD, JnW.str, joinS] using this
    · simp [snD, JnW.str]
      refine ⟨by decide, false, .jn .or ts, rfl, ?_⟩
      simpa [partsS, snD, JnW.str, joinS] using this
  | ov w x t => cases hno
end DD
end
section
set_option exponentiation.threshold 5000
namespace DD
open PySem PySem.Spec PyProof.Rows L2
/-! ### sign_at_place, holds_at -/
abbrev Fr := Int × Int
abbrev Pl := Fr × Fr × Fr
abbrev frD' (q : Fr) : D := .tup [.int q.1, .int q.2]
abbrev plD (p : Pl) : D := .tup [frD' p.1, frD' p.2.1, frD' p.2.2]
def plAt (p : Pl) : Nat → Fr
  | 0 => p.1
  | 1 => p.2.1
  | _ => p.2.2
/-- above ^ i * below ^ (many - i) -/
def powN (q : Fr) (m : Nat) (i : Int) : Int := q.1 ^ i.toNat * q.2 ^ (m - i.toNat)
def valF (f : Po) (p : Pl) : Int := (f.map fun t => t.2 * powN p.1 (hiF f 0).toNat t.1.1 * powN p.2.1 (hiF f 1).toNat t.1.2.1 * powN p.2.2 (hiF f 2).toNat t.1.2.2).sum
structure PlOk (p : Pl) : Prop where
  s : ∀ k, (plAt p k).1.natAbs < 2 ^ 100 ∧ (plAt p k).2.natAbs < 2 ^ 100 ∧ 0 < (plAt p k).2
structure PwOk (f : Po) : Prop where
  nn : nnF f
  le : ∀ t ∈ f, t.1.1 ≤ 3 ∧ t.1.2.1 ≤ 3 ∧ t.1.2.2 ≤ 3
theorem hi_le {f : Po} (h : PwOk f) (k : Nat) : 0 ≤ hiF f k ∧ hiF f k ≤ 3 ∧ ∀ t ∈ f, mAt t.1 k ≤ hiF f k := by
  have gen : ∀ (l : List Int) (a : Int), 0 ≤ a → a ≤ 3 → (∀ x ∈ l, x ≤ 3) → 0 ≤ l.foldl max a ∧ l.foldl max a ≤ 3 ∧ a ≤ l.foldl max a ∧ ∀ x ∈ l, x ≤ l.foldl max a := by
    intro l
    induction l with
    | nil => intro a h0 h1 _; exact ⟨h0, h1, Int.le_refl _, fun x hx => by cases hx⟩
    | cons b l ih =>
      intro a h0 h1 hl
      have hb := hl b List.mem_cons_self
      obtain ⟨i1, i2, i3, i4⟩ := ih (max a b) (by omega) (by omega) fun x hx => hl x (List.mem_cons_of_mem _ hx)
      rw [List.foldl_cons]
      refine ⟨i1, i2, by omega, fun x hx => ?_⟩
      rcases List.mem_cons.mp hx with rfl | hx
      · omega
      · exact i4 x hx
  obtain ⟨i1, i2, _, i4⟩ := gen (f.map fun t => mAt t.1 k) 0 (by omega) (by omega) fun x hx => by
    obtain ⟨t, ht, rfl⟩ := List.mem_map.mp hx
    obtain ⟨a, b, c⟩ := h.le t ht
    match k with
    | 0 => exact a
    | 1 => exact b
    | k + 2 => exact c
  exact ⟨i1, i2, fun t ht => i4 _ (List.mem_map.mpr ⟨t, ht, rfl⟩)⟩
theorem pow_bd {c : Int} {i : Nat} (hc : c.natAbs < 2 ^ 100) (hi : i ≤ 4) : (c ^ i).natAbs < 2 ^ 500 := by
  rw [Int.natAbs_pow]
  calc c.natAbs ^ i ≤ (2 ^ 100) ^ i := Nat.pow_le_pow_left (Nat.le_of_lt hc) i
    _ ≤ (2 ^ 100) ^ 4 := Nat.pow_le_pow_right (by decide) hi
    _ < 2 ^ 500 := by decide
theorem mul_bd {a b : Int} {m n : Nat} (ha : a.natAbs < 2 ^ m) (hb : b.natAbs < 2 ^ n) : (a * b).natAbs < 2 ^ (m + n) := by
  rw [Int.natAbs_mul, Nat.pow_add]
  exact Nat.mul_lt_mul'' ha hb
theorem powN_bd {q : Fr} {m : Nat} {i : Int} (h1 : q.1.natAbs < 2 ^ 100) (h2 : q.2.natAbs < 2 ^ 100) (hm : m ≤ 3) (hi : i ≤ 3) : (powN q m i).natAbs < 2 ^ 1000 := by
  have := mul_bd (pow_bd h1 (i := i.toNat) (by omega)) (pow_bd h2 (i := m - i.toNat) (by omega))
  exact this
def spSat : DSp := fun ds M R => ∃ f p, ds = [poD false f, plD p] ∧ PoOk f ∧ PwOk f ∧ PlOk p ∧ R (.int (valF f p).sign) M
theorem zip3 {a b c : D} {x y z : D} : zipD [a, b, c] [x, y, z] = [.tup [a, x], .tup [b, y], .tup [c, z]] := rfl
theorem powL_at {q : Fr} {m : Nat} {i : Int} (h0 : 0 ≤ i) (h1 : i ≤ m) : atI ((powL q.1 q.2 m).map D.int) i = some (.int (powN q m i)) := by
  refine atI_nat h0 ?_
  have : i.toNat < m + 1 := by omega
  simp [powL, powN, this]
theorem k_sign_at_place (ds : List D) (M : Mem) (R : DK) (h : spSat ds M R) : r_sign_at_place spHigh spPow spSign (endsF R) (startD N_sign_at_place ds) M := by
  obtain ⟨f, p, rfl, hf, hw, hp, h⟩ := h
  have h0 := hi_le hw 0
  have h1 := hi_le hw 1
  have h2 := hi_le hw 2
  unfold r_sign_at_place
  simp [size_line]
  refine ⟨f, rfl, hw.nn, hf.len, fun q M1 hq e1 fr => ?_⟩
  have sub1 : Sub M M1 := fun a o z => by rw [fr a (fun e => by rw [e, hq] at z; cases z)]; exact z
  simp [e1, zip3]
  intro p1 hp1
  have nq1 : q ≠ p1 := fun e => by rw [← e, e1] at hp1; cases hp1
  refine ⟨fun i acc M' => ∃ qs : List Addr, acc = qs.map D.ref ∧ qs.length = i ∧ (∀ (k : Nat) (a : Addr), qs[k]? = some a → M' a = some (.lst ((powL (plAt p k).1 (plAt p k).2 (hiF f k).toNat).map D.int))) ∧ Sub M1 M' ∧ M' p1 = none, ⟨[], rfl, rfl, fun k a h => by simp at h, Sub.refl _, hp1⟩, ?_, ?_, ?_⟩
  · rintro i acc M' ⟨qs, rfl, hl, hq', sub, hn⟩
    simp [nq1, sub _ _ e1]
  · rintro i x acc M' hx ⟨qs, rfl, hl, hq', sub, hn⟩
    have hx' : i < 3 ∧ x = .tup [frD' (plAt p i), .int (hiF f i)] := by
      match i, hx with
      | 0, hx => simp at hx; exact ⟨by omega, hx.symm⟩
      | 1, hx => simp at hx; exact ⟨by omega, hx.symm⟩
      | 2, hx => simp at hx; exact ⟨by omega, hx.symm⟩
      | i + 3, hx => simp at hx
    obtain ⟨hi, rfl⟩ := hx'
    have hpk := hp.s i
    have hhi := hi_le hw i
    refine ⟨by simp [size_line, hl]; omega, ?_⟩
    simp [wipeD]
    refine ⟨(plAt p i).1, (plAt p i).2, (hiF f i).toNat, ?_, by omega, hpk.1, hpk.2.1, fun p2 M4 hp2 e4 fr4 => ?_⟩
    · have : ((hiF f i).toNat : Int) = hiF f i := by omega
      rw [this]
    · obtain ⟨n2, hp2'⟩ := updM_none hp2
      refine ⟨hideM M4 p1, hide_put (by rw [fr4 p1 n2.symm]; exact updM_same), qs ++ [p2], by simp, by simp [hl], fun k a hk => ?_, fun a o z => ?_, hide_none⟩
      · by_cases hki : k < qs.length
        · rw [List.getElem?_append_left hki] at hk
          have z := hq' k a hk
          have a1 : a ≠ p1 := fun e => by rw [e, hn] at z; cases z
          have a2 : a ≠ p2 := fun e => by rw [e, hp2'] at z; cases z
          rw [hide_ne a1, fr4 a a2, updM_ne a1]; exact z
        · rw [List.getElem?_append_right (by omega)] at hk
          have hk0 : k - qs.length = 0 := by
            have := (List.getElem?_eq_some_iff.mp hk).1
            simp at this; omega
          rw [hk0] at hk
          simp at hk
          subst hk
          have : k = i := by omega
          subst this
          rw [hide_ne n2]
          exact e4
      · have a1 : a ≠ p1 := fun e => by rw [e, hp1] at z; cases z
        have z' := sub a o z
        have a2 : a ≠ p2 := fun e => by rw [e, hp2'] at z'; cases z'
        rw [hide_ne a1, fr4 a a2, updM_ne a1]; exact z'
  · rintro acc M' ⟨qs, rfl, hl, hq', sub, hn⟩
    obtain ⟨a, b, c, rfl⟩ : ∃ a b c, qs = [a, b, c] := by
      match qs, hl with
      | [a, b, c], _ => exact ⟨a, b, c, rfl⟩
    have qa := hq' 0 a rfl
    have qb := hq' 1 b rfl
    have qc := hq' 2 c rfl
    have na : a ≠ p1 := fun e => by rw [e, hn] at qa; cases qa
    have nb : b ≠ p1 := fun e => by rw [e, hn] at qb; cases qb
    have nc : c ≠ p1 := fun e => by rw [e, hn] at qc; cases qc
    simp [poD]
    refine lc_map (fun d => match d with | .tup [.tup [.int i, .int j, .int k], .int c] => .int (c * powN p.1 (hiF f 0).toNat i * powN p.2.1 (hiF f 1).toNat j * powN p.2.2 (hiF f 2).toNat k) | _ => .non) (by rw [List.length_map, size_line]; have := hf.len; omega) (fun _ _ _ => trivial) (fun x p2 acc RY hx hp2 hy => ?_) fun p2 hp2 => ?_
    · obtain ⟨t, ht, rfl⟩ := List.mem_map.mp hx
      obtain ⟨⟨i, j, k⟩, co⟩ := t
      obtain ⟨g0, g1, g2⟩ := hw.nn _ ht
      obtain ⟨l0, l1, l2⟩ := hw.le _ ht
      have m0 := h0.2.2 _ ht
      have m1 := h1.2.2 _ ht
      have m2 := h2.2.2 _ ht
      obtain ⟨c0, c1⟩ := hf.c _ ht
      simp [mAt] at m0 m1 m2 g0 g1 g2 l0 l1 l2 c1
      obtain ⟨n12, hp2'⟩ := updM_none hp2
      have na2 : a ≠ p2 := fun e => by rw [e, hp2'] at qa; cases qa
      have nb2 : b ≠ p2 := fun e => by rw [e, hp2'] at qb; cases qb
      have nc2 : c ≠ p2 := fun e => by rw [e, hp2'] at qc; cases qc
      have t0 := powL_at (q := plAt p 0) (m := (hiF f 0).toNat) g0 (by omega)
      have t1 := powL_at (q := plAt p 1) (m := (hiF f 1).toNat) g1 (by omega)
      have t2 := powL_at (q := plAt p 2) (m := (hiF f 2).toNat) g2 (by omega)
      have b0 : (powN p.1 (hiF f 0).toNat i).natAbs < 2 ^ 1000 := powN_bd (hp.s 0).1 (hp.s 0).2.1 (by omega) l0
      have b1 : (powN p.2.1 (hiF f 1).toNat j).natAbs < 2 ^ 1000 := powN_bd (hp.s 1).1 (hp.s 1).2.1 (by omega) l1
      have b2 : (powN p.2.2 (hiF f 2).toNat k).natAbs < 2 ^ 1000 := powN_bd (hp.s 2).1 (hp.s 2).2.1 (by omega) l2
      have k1 : MulOk co (powN p.1 (hiF f 0).toNat i) := mul_ok 100 1000 c1 b0 (by omega) (by omega) (by omega)
      have k2 : MulOk (co * powN p.1 (hiF f 0).toNat i) (powN p.2.1 (hiF f 1).toNat j) := mul_ok 1100 1000 (mul_bd c1 b0) b1 (by omega) (by omega) (by omega)
      have k3 : MulOk (co * powN p.1 (hiF f 0).toNat i * powN p.2.1 (hiF f 1).toNat j) (powN p.2.2 (hiF f 2).toNat k) := mul_ok 2100 1000 (mul_bd (mul_bd c1 b0) b1) b2 (by omega) (by omega) (by omega)
      simp [plAt] at t0 t1 t2 qa qb qc
      simp [wipeD, n12.symm, na, nb, nc, na2, nb2, nc2, qa, qb, qc, t0, t1, t2, k1, k2, k3] at hy ⊢
      exact hy
    · obtain ⟨n12, hp2'⟩ := updM_none hp2
      have e : (f.map tmD).map (fun d => match d with | .tup [.tup [.int i, .int j, .int k], .int c] => D.int (c * powN p.1 (hiF f 0).toNat i * powN p.2.1 (hiF f 1).toNat j * powN p.2.2 (hiF f 2).toNat k) | _ => .non)
          = (f.map fun t => t.2 * powN p.1 (hiF f 0).toNat t.1.1 * powN p.2.1 (hiF f 1).toNat t.1.2.1 * powN p.2.2 (hiF f 2).toNat t.1.2.2).map D.int := by
        rw [List.map_map, List.map_map]; rfl
      rw [e, gsum_ints updM_same]
      refine ⟨M, fun a' o z => ?_, _, rfl, M, Sub.refl M, h⟩
      have z1 := sub1 a' o z
      have a1 : a' ≠ p1 := fun e => by rw [e, hp1] at z1; cases z1
      have z2 := sub a' o z1
      have a2 : a' ≠ p2 := fun e => by rw [e, hp2'] at z2; cases z2
      rw [updM_ne a2, updM_ne a1]; exact z2
/-! ### holds_at -/
theorem sorted_len (l : List D) : (l.mergeSort dLe).length = l.length := List.length_mergeSort l
def spHat (n : Nat) : DSp := fun ds M R => ∃ s p, ds = [snD false s, plD p] ∧ noOv s = true ∧ hS s ≤ n ∧ sizeS s ≤ 100000 ∧ PosOk s ∧ (∀ w f, Sn.at w f ∈ innerS s → PwOk f) ∧ PlOk p ∧ R (.bl (evalS (trS fun f => (valF f p).sign) s)) M
theorem sign_le (i : Int) : i.sign.natAbs ≤ 1 := by
  rcases Int.lt_trichotomy i 0 with z | z | z
  · rw [Int.sign_eq_neg_one_of_neg z]; decide
  · subst z; decide
  · rw [Int.sign_eq_one_of_pos z]; decide
theorem prim_pw {f : Po} (h : PwOk f) : PwOk (primF f) := ⟨fun t ht => by
  obtain ⟨u, hu, rfl⟩ := List.mem_map.mp ht
  exact h.nn u hu, fun t ht => by
  obtain ⟨u, hu, rfl⟩ := List.mem_map.mp ht
  exact h.le u hu⟩
theorem by_dvd {f : Po} {t : Mo × Int} (ht : t ∈ f) : byF f ∣ t.2 := by
  have d := contF_gcd (f.map (·.2)) t.2 (List.mem_map.mpr ⟨t, ht, rfl⟩)
  have d' : ((contF (f.map (·.2)) : Nat) : Int) ∣ t.2 := Int.ofNat_dvd_left.mpr d
  unfold byF
  split
  · exact (Int.neg_dvd).mpr d'
  · exact d'
theorem by_ne {f : Po} (h : PoOk f) (h0 : f ≠ []) : byF f ≠ 0 := by
  obtain ⟨b0, b1⟩ := by_ok h h0
  unfold byF
  split <;> omega
theorem prim_mul {f : Po} (h : PoOk f) (h0 : f ≠ []) {t : Mo × Int} (ht : t ∈ f) : t.2.fdiv (byF f) * byF f = t.2 := by
  obtain ⟨k, hk⟩ := by_dvd ht
  rw [hk, Int.mul_fdiv_cancel_left _ (by_ne h h0), Int.mul_comm]
theorem prim_ok {f : Po} (h : PoOk f) (h0 : f ≠ []) : PoOk (primF f) := by
  refine ⟨by unfold primF; rw [List.length_map]; exact h.len, fun t ht => ?_⟩
  obtain ⟨u, hu, rfl⟩ := List.mem_map.mp ht
  obtain ⟨c0, c1⟩ := h.c u hu
  have e := prim_mul h h0 hu
  have n0 := by_ne h h0
  show u.2.fdiv (byF f) ≠ 0 ∧ (u.2.fdiv (byF f)).natAbs < 2 ^ 100
  generalize u.2.fdiv (byF f) = x at *
  refine ⟨fun z => by rw [z] at e; omega, ?_⟩
  have : x.natAbs * (byF f).natAbs = u.2.natAbs := by rw [← Int.natAbs_mul, e]
  have h1 : x.natAbs * 1 ≤ x.natAbs * (byF f).natAbs := Nat.mul_le_mul_left _ (by omega)
  omega
open Classical in
theorem sorted_pols (k : List Po) : ∃ l : List Po, l.Perm k ∧ (k.map (poD false)).mergeSort dLe = l.map (poD false) := by
  have gen : ∀ (L : List D), (∀ x ∈ L, ∃ g, x = poD false g) → ∃ l : List Po, L = l.map (poD false) := by
    intro L
    induction L with
    | nil => exact fun _ => ⟨[], rfl⟩
    | cons x L ih =>
      intro h
      obtain ⟨g, rfl⟩ := h _ List.mem_cons_self
      obtain ⟨l, rfl⟩ := ih fun y hy => h y (List.mem_cons_of_mem _ hy)
      exact ⟨g :: l, rfl⟩
  have pm := List.mergeSort_perm (k.map (poD false)) dLe
  obtain ⟨l, e⟩ := gen _ fun x hx => by
    obtain ⟨g, _, rfl⟩ := List.mem_map.mp (pm.mem_iff.mp hx)
    exact ⟨g, rfl⟩
  rw [e] at pm
  refine ⟨l, ?_, e⟩
  let un : D → Po := fun d => if h : ∃ f, d = poD false f then h.choose else []
  have eu : ∀ f, un (poD false f) = f := fun f => by
    have h : ∃ g, poD false f = poD false g := ⟨f, rfl⟩
    show (if h : ∃ g, poD false f = poD false g then h.choose else []) = f
    rw [dif_pos h]
    exact (poD_inj.mp h.choose_spec).symm
  have pm' := pm.map un
  simpa [List.map_map, Function.comp_def, eu] using pm'
theorem uniq_nodup {α : Type} [DecidableEq α] (l : List α) : (uniq l).Nodup := by
  have gen : ∀ l acc : List α, acc.Nodup → (l.foldl (fun acc x => if x ∈ acc then acc else acc ++ [x]) acc).Nodup := by
    intro l
    induction l with
    | nil => exact fun acc h => h
    | cons a l ih =>
      intro acc h
      rw [List.foldl_cons]
      refine ih _ ?_
      by_cases hm : a ∈ acc
      · rw [if_pos hm]; exact h
      · rw [if_neg hm]
        refine List.nodup_append.mpr ⟨h, by simp, fun x hx y hy => ?_⟩
        rcases List.mem_singleton.mp hy with rfl
        exact fun e => hm (e ▸ hx)
  exact gen l [] List.nodup_nil
theorem prims_mem {s : Sn} {g : Po} : g ∈ primsS s ↔ ∃ w f, Sn.at w f ∈ atomsS s ∧ isConstF f = false ∧ g = primF f := by
  unfold primsS
  rw [List.mem_flatMap]
  constructor
  · rintro ⟨a, ha, hg⟩
    cases a with
    | «at» w f =>
      simp [polF] at hg
      obtain ⟨hc, rfl⟩ := hg
      exact ⟨w, f, ha, hc, rfl⟩
    | _ => cases hg
  · rintro ⟨w, f, ha, hc, rfl⟩
    exact ⟨_, ha, by simp [polF, hc]⟩
theorem k_holds_at (n : Nat) (ds : List D) (M : Mem) (R : DK) (h : spHat n ds M R) : r_holds_at (spHb n) spPolsOf spSat (endsF R) (startD N_holds_at ds) M := by
  obtain ⟨s, p, rfl, hno, hh, hs, hpo, hpw, hp, h⟩ := h
  unfold r_holds_at
  simp [size_line]
  refine ⟨s, rfl, hs, hpo, ?_⟩
  obtain ⟨l, hl, e⟩ := sorted_pols (uniq (primsS s))
  have ln : l.Nodup := hl.nodup_iff.mpr (uniq_nodup _)
  have hm' : ∀ g, g ∈ l ↔ ∃ w f, Sn.at w f ∈ atomsS s ∧ isConstF f = false ∧ g = primF f := fun g => by
    rw [hl.mem_iff, uniq_mem, prims_mem]
  have hm : ∀ g ∈ l, PoOk g ∧ PwOk g := fun g hg => by
    obtain ⟨w, f, ha, hc, rfl⟩ := (hm' g).mp hg
    have hi := (List.mem_filter.mp ha).1
    exact ⟨prim_ok (hpo w f hi) (const_ne hc), prim_pw (hpw w f hi)⟩
  have hlen : l.length ≤ 100000 := by
    have a1 := uniq_len (primsS s)
    have a2 := hl.length_eq
    have a3 := List.length_filter_le isAtS (innerS s)
    rw [inner_len] at a3
    have a4 : ∀ L : List Sn, (L.flatMap polF).length ≤ L.length := fun L => by
      induction L with
      | nil => exact Nat.le_refl _
      | cons a L ih =>
        rw [List.flatMap_cons, List.length_append, List.length_cons]
        have : (polF a).length ≤ 1 := by
          cases a with
          | «at» w f => cases hc : isConstF f <;> simp [polF, hc]
          | _ => exact Nat.zero_le _
        omega
    have a5 := a4 (atomsS s)
    unfold primsS at a1 a2
    unfold atomsS at *
    omega
  simp [polsD, e]
  intro p1 hp1
  refine ⟨fun i acc M' => acc = sgT (fun f => (valF f p).sign) (l.take i) ∧ M' = M, ⟨rfl, rfl⟩, ?_, ?_, ?_⟩
  · rintro i acc M' ⟨rfl, rfl⟩
    trivial
  · rintro i x acc M' hx ⟨rfl, rfl⟩
    simp at hx
    obtain ⟨g, hg, rfl⟩ := hx
    have hgl := List.mem_of_getElem? hg
    have hi := (List.getElem?_eq_some_iff.mp hg).1
    simp [wipeD]
    refine ⟨g, p, rfl, (hm g hgl).1, (hm g hgl).2, hp, ?_⟩
    refine ⟨M', rfl, key_sg _ _ _, ?_, ?_, rfl⟩
    · simp [sgT, size_line]; omega
    · rw [List.take_add_one, hg]
      have gn : g ∉ l.take i := fun hq => by
        obtain ⟨j, hj, e1⟩ := List.mem_iff_getElem.mp hq
        rw [List.length_take] at hj
        rw [List.getElem_take] at e1
        have := (List.getElem_inj ln).mp (e1.trans (List.getElem?_eq_some_iff.mp hg).2.symm)
        omega
      rw [put_new]
      · simp [sgT]
      · rw [getK_none]
        intro q hq
        obtain ⟨f, hf, rfl⟩ := List.mem_map.mp hq
        exact fun e => gn (poD_inj.mp e ▸ hf)
  · rintro acc M' ⟨rfl, rfl⟩
    simp
    refine ⟨fun f => (valF f p).sign, l, s, p1, rfl, updM_same, hno, hh, hs, hpo, fun w f hf hc => (hm' _).mpr ⟨w, f, ?_, hc, rfl⟩, fun g => ?_, ?_⟩
    · exact List.mem_filter.mpr ⟨hf, rfl⟩
    · exact sign_le _
    · exact ⟨M', Sub.new hp1, h⟩
end DD
end
section
set_option exponentiation.threshold 7000
namespace DD
open PySem PySem.Spec PyProof.Rows L2
/-! ### the law's own gcd and fractions -/
def spGcd : DSp := fun ds M R => ∃ a b : Int, ds = [.int a, .int b] ∧ a.natAbs < 2 ^ 2900 ∧ b.natAbs < 2 ^ 2900 ∧ R (.int (Nat.gcd a.natAbs b.natAbs : Nat)) M
theorem k_l_gcd (ds : List D) (M : Mem) (R : DK) (h : spGcd ds M R) : r_l_gcd (endsF R) (startD N_l_gcd ds) M := by
  obtain ⟨a, b, rfl, ha, hb, h⟩ := h
  unfold r_l_gcd
  have e1 : (if a < 0 then -a else a) = ((a.natAbs : Nat) : Int) := by split <;> omega
  have e2 : (if b < 0 then -b else b) = ((b.natAbs : Nat) : Int) := by split <;> omega
  simp [size_line]
  rw [e1, e2]
  refine for_in (fun i δ M' => M' = M ∧ ∃ (u v : Nat) (x : Option D), δ = [some (.int u), some (.int v), x] ∧ Nat.gcd u v = Nat.gcd a.natAbs b.natAbs ∧ ((i = 0 ∧ u * v < 2 ^ 5800) ∨ (0 < i ∧ v ≤ u ∧ u * v * 2 ^ (i - 1) < 2 ^ 5800))) ?_ ?_ ?_ ?_
  · refine ⟨rfl, a.natAbs, b.natAbs, _, rfl, rfl, .inl ⟨rfl, ?_⟩⟩
    have : a.natAbs * b.natAbs ≤ a.natAbs * 2 ^ 2900 := Nat.mul_le_mul_left _ (Nat.le_of_lt hb)
    have h2 : a.natAbs * 2 ^ 2900 < 2 ^ 2900 * 2 ^ 2900 := Nat.mul_lt_mul_of_pos_right ha (Nat.pow_pos (by decide))
    rw [← Nat.pow_add] at h2
    exact Nat.lt_of_le_of_lt this h2
  · intros; trivial
  · rintro i d δ M' hd ⟨rfl, u, v, x, rfl, hg, hi⟩
    simp
    by_cases v0 : v = 0
    · subst v0
      refine ⟨M', Sub.refl M', ?_⟩
      rw [Nat.gcd_zero_right] at hg
      rw [hg]; exact h
    · simp [v0]
      have em : ((u : Int).fmod v) = ((u % v : Nat) : Int) := by rw [Int.fmod_eq_emod_of_nonneg _ (by omega)]; rfl
      rw [em]
      have hlt := Nat.mod_lt u (by omega : 0 < v)
      refine ⟨v, u % v, ⟨rfl, rfl⟩, ?_, ?_⟩
      · rw [← hg, Nat.gcd_comm u v, Nat.gcd_rec v u, Nat.gcd_comm]
      · refine ⟨by omega, ?_⟩
        rcases hi with ⟨rfl, hp⟩ | ⟨i0, hvu, hp⟩
        · rw [Nat.pow_zero, Nat.mul_one]
          have : v * (u % v) ≤ v * u := Nat.mul_le_mul_left _ (Nat.mod_le u v)
          rw [Nat.mul_comm v u] at this
          exact Nat.lt_of_le_of_lt this hp
        · have h2 : 2 * (u % v) ≤ u := by
            have e := Nat.div_add_mod u v
            have q1 : 1 ≤ u / v := Nat.div_pos hvu (by omega)
            have : v * 1 ≤ v * (u / v) := Nat.mul_le_mul_left _ q1
            omega
          have e : (2 : Nat) ^ (i + 1 - 1) = 2 * 2 ^ (i - 1) := by
            rw [show i + 1 - 1 = (i - 1) + 1 by omega, Nat.pow_succ, Nat.mul_comm]
          simp only [Nat.add_sub_cancel] at e ⊢
          rw [e]
          have h3 : v * (u % v) * (2 * 2 ^ (i - 1)) = (v * (2 * (u % v))) * 2 ^ (i - 1) := by
            rw [← Nat.mul_assoc, Nat.mul_assoc v, Nat.mul_comm (u % v) 2]
          rw [h3]
          refine Nat.lt_of_le_of_lt (Nat.mul_le_mul_right _ ?_) hp
          rw [Nat.mul_comm u v]
          exact Nat.mul_le_mul_left _ h2
  · rintro δ M' ⟨rfl, u, v, x, rfl, hg, hi⟩
    rw [rangeD_length] at hi
    simp
    have v0 : v = 0 := by
      rcases hi with ⟨z, _⟩ | ⟨_, hvu, hp⟩
      · simp at z
      · rcases Nat.eq_zero_or_pos v with z | z
        · exact z
        · exfalso
          have h1 : 1 * 1 ≤ u * v := Nat.mul_le_mul (by omega) z
          have h2 : 1 * 2 ^ (6000 - 1) ≤ u * v * 2 ^ (6000 - 1) := Nat.mul_le_mul_right _ (by omega)
          have h3 : (2 : Nat) ^ 5800 ≤ 2 ^ (6000 - 1) := Nat.pow_le_pow_right (by decide) (by decide)
          omega
    subst v0
    refine ⟨M', Sub.refl M', ?_⟩
    rw [Nat.gcd_zero_right] at hg
    rw [hg]; exact h

/-- a fraction in lowest terms, known by what it stands for -/
def FrOf (a b n d : Int) : Prop := 0 < d ∧ n * b = a * d ∧ n.natAbs ≤ a.natAbs ∧ d.natAbs ≤ b.natAbs
def spLfr : DSp := fun ds M R => ∃ a b : Int, ds = [.int a, .int b] ∧ b ≠ 0 ∧ a.natAbs < 2 ^ 2900 ∧ b.natAbs < 2 ^ 2900 ∧ ∀ n d, FrOf a b n d → R (.tup [.int n, .int d]) M
theorem div_dvd {a g : Int} (h0 : g ≠ 0) (h : g ∣ a) : a.fdiv g * g = a ∧ (a.fdiv g).natAbs ≤ a.natAbs := by
  obtain ⟨k, rfl⟩ := h
  rw [Int.mul_fdiv_cancel_left _ h0]
  refine ⟨Int.mul_comm _ _, ?_⟩
  rw [Int.natAbs_mul]
  have : 1 * k.natAbs ≤ g.natAbs * k.natAbs := Nat.mul_le_mul_right _ (by omega)
  omega
theorem fr_of {a b g : Int} (hb : b ≠ 0) (h0 : g ≠ 0) (ha : g ∣ a) (hg : g ∣ b) (hs : (0 < b ∧ 0 < g) ∨ (b < 0 ∧ g < 0)) : FrOf a b (a.fdiv g) (b.fdiv g) := by
  obtain ⟨a1, a2⟩ := div_dvd h0 ha
  obtain ⟨b1, b2⟩ := div_dvd h0 hg
  refine ⟨?_, ?_, a2, b2⟩
  · generalize b.fdiv g = x at *
    rcases hs with ⟨s1, s2⟩ | ⟨s1, s2⟩
    · rw [← b1] at s1
      exact Int.pos_of_mul_pos_left s1 s2
    · rw [← b1] at s1
      rcases Int.lt_trichotomy x 0 with z | z | z
      · exact absurd (Int.mul_pos_of_neg_of_neg z s2) (Int.not_lt.mpr (Int.le_of_lt s1))
      · subst z
        simp at s1
      · exact z
  · generalize b.fdiv g = x at *
    generalize a.fdiv g = y at *
    rw [← a1, ← b1]
    ac_rfl
theorem k_l_fr (ds : List D) (M : Mem) (R : DK) (h : spLfr ds M R) : r_l_fr spGcd (endsF R) (startD N_l_fr ds) M := by
  obtain ⟨a, b, rfl, b0, ha, hb, h⟩ := h
  have g0 : 0 < Nat.gcd a.natAbs b.natAbs := Nat.gcd_pos_of_pos_right _ (by omega)
  have gl : Nat.gcd a.natAbs b.natAbs ≤ b.natAbs := Nat.le_of_dvd (by omega) (Nat.gcd_dvd_right _ _)
  have da : ((Nat.gcd a.natAbs b.natAbs : Nat) : Int) ∣ a := Int.ofNat_dvd_left.mpr (Nat.gcd_dvd_left _ _)
  have db : ((Nat.gcd a.natAbs b.natAbs : Nat) : Int) ∣ b := Int.ofNat_dvd_left.mpr (Nat.gcd_dvd_right _ _)
  unfold r_l_fr
  simp [size_line]
  refine ⟨a, b, rfl, ha, hb, ?_⟩
  generalize Nat.gcd a.natAbs b.natAbs = g at *
  have gn : ¬ g = 0 := by omega
  have d1 : ∀ i, DivOk i (g : Int) := fun i => div_ok 2900 (by omega) (by omega) (by omega) (by omega)
  have d2 : ∀ i, DivOk i (-(g : Int)) := fun i => div_ok 2900 (by omega) (by omega) (by omega) (by omega)
  by_cases hn : b < 0
  · simp [hn, gn, size_line, d2]
    exact ret_same (h _ _ (fr_of b0 (by omega) (Int.neg_dvd.mpr da) (Int.neg_dvd.mpr db) (.inr ⟨hn, by omega⟩)))
  · simp [hn, gn, size_line, d1]
    exact ret_same (h _ _ (fr_of b0 (by omega) da db (.inl ⟨by omega, by omega⟩)))
def spLmul : DSp := fun ds M R => ∃ a b c d : Int, ds = [.tup [.int a, .int b], .tup [.int c, .int d]] ∧ 0 < b ∧ 0 < d ∧ a.natAbs < 2 ^ 1400 ∧ b.natAbs < 2 ^ 1400 ∧ c.natAbs < 2 ^ 1400 ∧ d.natAbs < 2 ^ 1400 ∧ ∀ n m, FrOf (a * c) (b * d) n m → R (.tup [.int n, .int m]) M
theorem add_bits {x y : Int} {a : Nat} (hx : x.natAbs < 2 ^ a) (hy : y.natAbs < 2 ^ a) : (x + y).natAbs < 2 ^ (a + 1) := by
  have := Int.natAbs_add_le x y
  rw [Nat.pow_succ]; omega
theorem k_l_mul (ds : List D) (M : Mem) (R : DK) (h : spLmul ds M R) : r_l_mul spLfr (endsF R) (startD N_l_mul ds) M := by
  obtain ⟨a, b, c, d, rfl, hb, hd, ba, bb, bc, bd, h⟩ := h
  unfold r_l_mul
  have mo : ∀ {x y : Int}, x.natAbs < 2 ^ 1400 → y.natAbs < 2 ^ 1400 → MulOk x y := fun h1 h2 => mul_ok 1400 1400 h1 h2 (by omega) (by omega) (by omega)
  have up : ∀ {x : Int}, x.natAbs < 2 ^ (1400 + 1400) → x.natAbs < 2 ^ 2900 := fun h => Nat.lt_of_lt_of_le h (Nat.pow_le_pow_right (by decide) (by decide))
  simp [size_line]
  exact ⟨mo ba bc, mo bb bd, a * c, b * d, rfl, fun e => by have := Int.mul_pos hb hd; omega, up (mul_bd ba bc), up (mul_bd bb bd), fun n m hf => ret_same (h n m hf)⟩
def spLadd : DSp := fun ds M R => ∃ a b c d : Int, ds = [.tup [.int a, .int b], .tup [.int c, .int d]] ∧ 0 < b ∧ 0 < d ∧ a.natAbs < 2 ^ 1400 ∧ b.natAbs < 2 ^ 1400 ∧ c.natAbs < 2 ^ 1400 ∧ d.natAbs < 2 ^ 1400 ∧ ∀ n m, FrOf (a * d + c * b) (b * d) n m → R (.tup [.int n, .int m]) M
theorem k_l_add (ds : List D) (M : Mem) (R : DK) (h : spLadd ds M R) : r_l_add spLfr (endsF R) (startD N_l_add ds) M := by
  obtain ⟨a, b, c, d, rfl, hb, hd, ba, bb, bc, bd, h⟩ := h
  unfold r_l_add
  have mo : ∀ {x y : Int}, x.natAbs < 2 ^ 1400 → y.natAbs < 2 ^ 1400 → MulOk x y := fun h1 h2 => mul_ok 1400 1400 h1 h2 (by omega) (by omega) (by omega)
  have up : ∀ {x : Int} {k : Nat}, k ≤ 2900 → x.natAbs < 2 ^ k → x.natAbs < 2 ^ 2900 := fun hk h => Nat.lt_of_lt_of_le h (Nat.pow_le_pow_right (by decide) hk)
  simp [size_line]
  exact ⟨mo ba bd, mo bc bb, mo bb bd, a * d + c * b, b * d, rfl, fun e => by have := Int.mul_pos hb hd; omega, up (by decide) (add_bits (mul_bd ba bd) (mul_bd bc bb)), up (by decide) (mul_bd bb bd), fun n m hf => ret_same (h n m hf)⟩
def spContent : DSp := fun ds M R => ∃ (a : Addr) (ns : List Int), ds = [.ref a] ∧ M a = some (.lst (ns.map D.int)) ∧ (∀ n ∈ ns, n.natAbs < 2 ^ 100) ∧ R (.int (contF ns)) M
theorem k_l_content (ds : List D) (M : Mem) (R : DK) (h : spContent ds M R) : r_l_content spGcd (endsF R) (startD N_l_content ds) M := by
  obtain ⟨a, ns, rfl, ha, hn, h⟩ := h
  unfold r_l_content
  simp [size_line, ha]
  refine for_in (fun i δ M' => M' = M ∧ contF (ns.take i) < 2 ^ 100 ∧ ∃ x, δ = [some (.ref a), some (.int (contF (ns.take i))), x]) ⟨rfl, by rw [List.take_zero]; decide, none, rfl⟩ (fun i δ M' _ h => by rw [h.1]; exact ha) ?_ ?_
  · rintro i x δ M' hx ⟨rfl, hc, y, rfl⟩
    rw [List.getElem?_map] at hx
    cases e : ns[i]? with
    | none => rw [e] at hx; cases hx
    | some n =>
      rw [e] at hx
      cases hx
      have hn' := hn n (List.mem_of_getElem? e)
      rw [contF_take ns i n e]
      simp
      refine ⟨_, _, rfl, Nat.lt_of_lt_of_le hc (Nat.pow_le_pow_right (by decide) (by decide)), Nat.lt_of_lt_of_le hn' (Nat.pow_le_pow_right (by decide) (by decide)), rfl, ?_, rfl⟩
      rcases Nat.eq_zero_or_pos (contF (ns.take i)) with z | z
      · rw [z, Nat.gcd_zero_left]; exact hn'
      · exact Nat.lt_of_le_of_lt (Nat.le_of_dvd z (Nat.gcd_dvd_left _ _)) hc
  · rintro δ M' ⟨rfl, _, y, rfl⟩
    simp
    exact ret_same h
end DD
end
section
set_option exponentiation.threshold 7000
namespace DD
open PySem PySem.Spec PyProof.Rows L2
/-! ### what is drawn -/
def SubBut (b g : Addr) (M M' : Mem) : Prop := ∀ a o, a ≠ b → a ≠ g → M a = some o → M' a = some o
theorem SubBut.refl {b g : Addr} (M : Mem) : SubBut b g M M := fun _ _ _ _ h => h
theorem SubBut.trans {b g : Addr} {M M1 M2 : Mem} (h : SubBut b g M M1) (k : SubBut b g M1 M2) : SubBut b g M M2 := fun a o h1 h2 h3 => k a o h1 h2 (h a o h1 h2 h3)
theorem SubBut.of_sub {b g : Addr} {M M1 : Mem} (h : Sub M M1) : SubBut b g M M1 := fun a o _ _ z => h a o z
theorem SubBut.of_same {b g : Addr} {M M1 : Mem} (h : SameBut b g M M1) : SubBut b g M M1 := fun a o h1 h2 z => by rw [h a h1 h2]; exact z
theorem SubBut.none {b g p : Addr} {M M1 : Mem} (h : SubBut b g M M1) (hb : p ≠ b) (hg : p ≠ g) (hp : M1 p = none) : M p = none := by
  cases e : M p with
  | none => rfl
  | some o => have := h p o hb hg e; rw [hp] at this; cases this
def keepM (b g : Addr) (M M' : Mem) : Mem := fun a => if a = b ∨ a = g then M' a else M a
theorem keep_sub {b g : Addr} {M M' : Mem} (h : SubBut b g M M') : Sub (keepM b g M M') M' := fun a o z => by
  unfold keepM at z
  split at z
  · exact z
  · rename_i hn
    exact h a o (fun e => hn (.inl e)) (fun e => hn (.inr e)) z
theorem keep_same {b g : Addr} {M M' : Mem} : SameBut b g M (keepM b g M M') := fun a h1 h2 => by
  unfold keepM
  rw [if_neg (by rintro (e | e); exact h1 e; exact h2 e)]
theorem Bag.c_ne {M : Mem} {b g c : Addr} {N : Nat} (h : Bag M b g c N) : ∃ o, M c = some o := by
  cases e : M c with
  | some o => exact ⟨o, rfl⟩
  | none => exact absurd rfl (h.ne e).2.2
theorem keep_bag {b g c : Addr} {M M' : Mem} {N N' : Nat} (h0 : Bag M b g c N) (h1 : Bag M' b g c N') (h : SubBut b g M M') : Bag (keepM b g M M') b g c N' := by
  refine h1.frame (by unfold keepM; simp) (by unfold keepM; simp) ?_
  unfold keepM
  split
  · rfl
  · rename_i hn
    obtain ⟨o, ho⟩ := h0.c_ne
    rw [ho, h c o (fun e => hn (.inl e)) (fun e => hn (.inr e)) ho]
/-- after draws, a fresh list -/
def NewBL (b g c : Addr) (N : Nat) (M : Mem) (xs : List D) (R : DK) : Prop := ∀ p M', M p = none → p ≠ b → p ≠ g → p ≠ c → M' p = some (.lst xs) → Bag M' b g c N → SubBut b g M M' → R (.ref p) M'
def spSome : DSp := fun ds M R => ∃ (b g c l : Addr) (N : Nat) (xs : List D), ds = [.ref b, .ref l, .int xs.length] ∧ Bag M b g c N ∧ N + 1000 ≤ 2 ^ 40 ∧ M l = some (.lst xs) ∧ xs.length ≤ 1000 ∧ l ≠ b ∧ l ≠ g ∧ l ≠ c ∧
  ∀ ys, ys.Perm xs → NewBL b g c (N + xs.length) M ys R
theorem erase_perm : ∀ (L : List D) (k : Nat) (h : k < L.length), (L[k] :: L.eraseIdx k).Perm L
  | a :: L, 0, _ => .refl _
  | a :: L, k + 1, h => by
    rw [List.getElem_cons_succ, List.eraseIdx_cons_succ]
    exact (List.Perm.swap _ _ _).trans ((erase_perm L k (by simpa using h)).cons a)
theorem popAt_ref {M : Mem} {R : DK} {a : Addr} {xs : List D} {x : Int} (ha : M a = some (.lst xs)) (h0 : 0 ≤ x) (h1 : x < xs.length) (h2 : xs.length < 2 ^ 60) : gPopAt (.ref a) [.int x] M R = R (xs[x.toNat]'(by omega)) (updM M a (.lst (xs.eraseIdx x.toNat))) := by
  have e1 : seqIndex? x xs.length = some x.toNat := by
    unfold seqIndex?
    have : ¬ x < 0 := by omega
    simp [h0, h1, this]
  have e2 : xs[x.toNat]? = some (xs[x.toNat]'(by omega)) := List.getElem?_eq_getElem _
  unfold gPopAt onLst
  simp only [ha]
  rw [e1]
  simp only [e2]
  exact propext ⟨fun h => h.2.2, fun h => ⟨by omega, by omega, h⟩⟩
theorem k_l_some (ds : List D) (M : Mem) (R : DK) (h : spSome ds M R) : r_l_some spDraw (endsF R) (startD N_l_some ds) M := by
  obtain ⟨b, g, c, l, N, xs, rfl, hB, hN, hl, hx, lb, lg, lc, h⟩ := h
  unfold r_l_some
  simp [size_line, hl]
  intro p1 hp1 p2 hp2
  obtain ⟨n21, hp2'⟩ := updM_none hp2
  have e12 : p1 ≠ p2 := n21.symm
  obtain ⟨p1b, p1g, p1c⟩ := hB.ne hp1
  obtain ⟨p2b, p2g, p2c⟩ := hB.ne hp2'
  refine ⟨by omega, ?_⟩
  refine for_in (fun i δ M' => ∃ (L Md : List D) (x : Option D), δ = [some (.ref b), some (.ref l), some (.int xs.length), some (.ref p1), some (.ref p2), x] ∧ M' p1 = some (.lst L) ∧ M' p2 = some (.lst Md) ∧ (L ++ Md).Perm xs ∧ Md.length = i ∧ Bag M' b g c (N + i) ∧ SubBut b g M M') ?_ ?_ ?_ ?_
  · refine ⟨xs, [], none, rfl, by simp [e12], by simp, by simp, rfl, ?_, ?_⟩
    · exact hB.frame (by simp [p1b.symm, p2b.symm]) (by simp [p1g.symm, p2g.symm]) (by simp [p1c.symm, p2c.symm])
    · intro a o _ _ z
      have a1 : a ≠ p1 := fun e => by rw [e, hp1] at z; cases z
      have a2 : a ≠ p2 := fun e => by rw [e, hp2'] at z; cases z
      rw [updM_ne a2, updM_ne a1]; exact z
  · intros; trivial
  · rintro i x δ M' hx' ⟨L, Md, y, rfl, e1, e2, pm, hi, hB', sub⟩
    obtain ⟨hi2, rfl⟩ := range_at hx'
    have hlen := pm.length_eq
    rw [List.length_append] at hlen
    simp [e1, e2]
    refine ⟨b, g, c, N + i, L.length, rfl, hB', by omega, by omega, by omega, fun x M2 h0 h1 hB2 hS => ?_⟩
    have f1 : M2 p1 = some (.lst L) := (hS p1 p1b p1g).trans e1
    have f2 : M2 p2 = some (.lst Md) := (hS p2 p2b p2g).trans e2
    have hxl : x.toNat < L.length := by omega
    show gPopAt (.ref p1) [.int x] M2 _
    rw [popAt_ref f1 h0 h1 (by omega)]
    have pm2 : (L.eraseIdx x.toNat ++ (Md ++ [L[x.toNat]])).Perm xs := by
      refine List.Perm.trans ?_ pm
      rw [← List.append_assoc]
      refine List.perm_append_comm.trans ?_
      rw [List.singleton_append, ← List.cons_append]
      exact List.Perm.append_right Md (erase_perm L _ hxl)
    simp [n21, e12, f2, size_line]
    refine ⟨by omega, pm2, hi, ?_, ?_⟩
    · exact hB2.frame (by simp [p1b.symm, p2b.symm]) (by simp [p1g.symm, p2g.symm]) (by simp [p1c.symm, p2c.symm])
    · intro a o q1 q2 z
      have a1 : a ≠ p1 := fun e => by rw [e, hp1] at z; cases z
      have a2 : a ≠ p2 := fun e => by rw [e, hp2'] at z; cases z
      rw [updM_ne a2, updM_ne a1, hS a q1 q2]; exact sub a o q1 q2 z
  · rintro δ M' ⟨L, Md, y, rfl, e1, e2, pm, hi, hB', sub⟩
    rw [rangeD_length] at hi hB'
    simp
    have hlen := pm.length_eq
    rw [List.length_append, hi] at hlen
    have : L = [] := List.length_eq_zero_iff.mp (by omega)
    subst this
    exact ret_same (h Md pm p2 M' hp2' p2b p2g p2c e2 hB' sub)
/-! ### a drawn polynomial -/
theorem Bag.put {M : Mem} {b g c p : Addr} {N : Nat} {o : MO} (h : Bag M b g c N) (pb : p ≠ b) (pg : p ≠ g) (pc : p ≠ c) : Bag (updM M p o) b g c N :=
  h.frame (updM_ne pb.symm) (updM_ne pg.symm) (updM_ne pc.symm)
theorem Bag.un {M : Mem} {b g c p : Addr} {N : Nat} (h : Bag M b g c N) (pb : p ≠ b) (pg : p ≠ g) (pc : p ≠ c) : Bag (hideM M p) b g c N :=
  h.frame (hide_ne pb.symm) (hide_ne pg.symm) (hide_ne pc.symm)
theorem pick_new {Mx : Mem} {q b g c : Addr} {N : Nat} {xs : List D} {R : DK} (hB : Bag Mx b g c N) (hN : N ≤ 2 ^ 40) (hq : Mx q = none) (h1 : xs ≠ []) (h2 : xs.length < 2 ^ 60)
    (k : ∀ x M', x ∈ xs → Bag M' b g c (N + 1) → SubBut b g Mx M' → R x M') : spPick [.ref b, .ref q] (updM Mx q (.lst xs)) R := by
  obtain ⟨qb, qg, qc⟩ := hB.ne hq
  refine ⟨b, g, c, q, N, xs, rfl, hB.put qb qg qc, hN, updM_same, h1, h2, qb, qg, qc, fun x M' hx hB' hS => k x M' hx hB' fun a o z1 z2 z => ?_⟩
  rw [hS a z1 z2, updM_ne fun e => by rw [e, hq] at z; cases z]
  exact z
structure LpW (ns : List Str) (f : Po) : Prop where
  nd : (f.map (·.1)).Nodup
  nn : nnF f
  le : ∀ t ∈ f, t.1.1 ≤ 3 ∧ t.1.2.1 ≤ 3 ∧ t.1.2.2 ≤ 3
  c : ∀ t ∈ f, t.2.natAbs ≤ 9
  x : ("x" : Str) ∉ ns → ∀ t ∈ f, t.1.1 = 0
  y : ("y" : Str) ∉ ns → ∀ t ∈ f, t.1.2.1 = 0
  z : ("z" : Str) ∉ ns → ∀ t ∈ f, t.1.2.2 = 0
def tmT (f : Po) : List (D × D) := f.map fun t => (moD t.1, .int t.2)
/-- a monomial in names of ns -/
def MoIn (ns : List Str) (m : Mo) : Prop := ∀ k (s : Str), nXYZ[k]? = some s → 0 ≤ mAt m k ∧ mAt m k ≤ 3 ∧ (s ∉ ns → mAt m k = 0)
/-- what a drawn polynomial is: powers of names in ns alone, small numbers -/
structure LpOk (ns : List Str) (f : Po) : Prop where
  len : f.length ≤ 4
  nd : (f.map (·.1)).Nodup
  nn : nnF f
  le : ∀ t ∈ f, t.1.1 ≤ 3 ∧ t.1.2.1 ≤ 3 ∧ t.1.2.2 ≤ 3
  c : ∀ t ∈ f, t.2 ≠ 0 ∧ t.2.natAbs ≤ 9
  x : ("x" : Str) ∉ ns → ∀ t ∈ f, t.1.1 = 0
  y : ("y" : Str) ∉ ns → ∀ t ∈ f, t.1.2.1 = 0
  z : ("z" : Str) ∉ ns → ∀ t ∈ f, t.1.2.2 = 0
def spLpo : DSp := fun ds M R => ∃ (b g c l : Addr) (N : Nat) (ns : List Str), ds = [.ref b, .ref l, .int 9] ∧ Bag M b g c N ∧ N + 1000 ≤ 2 ^ 40 ∧ M l = some (.lst (ns.map D.str)) ∧ ns.length ≤ 3 ∧ l ≠ b ∧ l ≠ g ∧ l ≠ c ∧
  ∀ (f : Po) (M' : Mem), LpOk ns f → Bag M' b g c (N + 100) → SameBut b g M M' → R (poD true f) M'
theorem getK_tm (m : Mo) : ∀ f : Po, (∃ t ∈ f, t.1 = m ∧ getK (tmT f) (moD m) = some (.int t.2)) ∨ ((∀ t ∈ f, t.1 ≠ m) ∧ getK (tmT f) (moD m) = none)
  | [] => .inr ⟨fun t ht => (by cases ht), rfl⟩
  | u :: f => by
    show (∃ t ∈ u :: f, t.1 = m ∧ getK ((moD u.1, D.int u.2) :: tmT f) (moD m) = _) ∨ ((∀ t ∈ u :: f, t.1 ≠ m) ∧ getK ((moD u.1, D.int u.2) :: tmT f) (moD m) = none)
    rw [getK_cons]
    by_cases e : u.1 = m
    · exact .inl ⟨u, List.mem_cons_self, e, by simp [e]⟩
    · have e2 : ¬ (moD u.1 = moD m) := fun z => e (moD_inj.mp z)
      simp only [e2, if_false]
      rcases getK_tm m f with ⟨t, ht, h1, h2⟩ | ⟨h1, h2⟩
      · exact .inl ⟨t, List.mem_cons_of_mem _ ht, h1, h2⟩
      · refine .inr ⟨fun t ht => ?_, h2⟩
        rcases List.mem_cons.mp ht with rfl | ht
        · exact e
        · exact h1 t ht
theorem key_tm (m : Mo) (f : Po) : KeyOk (tmT f) (moD m) := .inr ⟨rfl, fun p hp => by
  obtain ⟨t, _, rfl⟩ := List.mem_map.mp hp
  rfl⟩
theorem put_tm {ns : List Str} {f : Po} {m : Mo} {c : Int} (hf : LpW ns f) (hm : MoIn ns m) (hc : c.natAbs ≤ 9) : ∃ f', putD' (tmT f) (moD m) (.int c) = tmT f' ∧ f'.length ≤ f.length + 1 ∧ LpW ns f' := by
  have m0 := hm 0 _ rfl
  have m1 := hm 1 _ rfl
  have m2 := hm 2 _ rfl
  have mk : ∀ f' : Po, (f'.map (·.1)).Nodup → (∀ t ∈ f', t ∈ f ∨ t = (m, c)) → LpW ns f' := fun f' nd hh => by
    have all : ∀ t ∈ f', (0 ≤ t.1.1 ∧ 0 ≤ t.1.2.1 ∧ 0 ≤ t.1.2.2) ∧ (t.1.1 ≤ 3 ∧ t.1.2.1 ≤ 3 ∧ t.1.2.2 ≤ 3) ∧ t.2.natAbs ≤ 9 ∧ (("x" : Str) ∉ ns → t.1.1 = 0) ∧ (("y" : Str) ∉ ns → t.1.2.1 = 0) ∧ (("z" : Str) ∉ ns → t.1.2.2 = 0) := fun t ht => by
      rcases hh t ht with q | rfl
      · exact ⟨hf.nn t q, hf.le t q, hf.c t q, fun z => hf.x z t q, fun z => hf.y z t q, fun z => hf.z z t q⟩
      · exact ⟨⟨m0.1, m1.1, m2.1⟩, ⟨m0.2.1, m1.2.1, m2.2.1⟩, hc, m0.2.2, m1.2.2, m2.2.2⟩
    exact ⟨nd, fun t ht => (all t ht).1, fun t ht => (all t ht).2.1, fun t ht => (all t ht).2.2.1, fun z t ht => (all t ht).2.2.2.1 z, fun z t ht => (all t ht).2.2.2.2.1 z, fun z t ht => (all t ht).2.2.2.2.2 z⟩
  rcases getK_tm m f with ⟨t, ht, h1, h2⟩ | ⟨h1, h2⟩
  · refine ⟨f.map fun t => if t.1 = m then (t.1, c) else t, ?_, by rw [List.length_map]; omega, mk _ ?_ ?_⟩
    · rw [put_old h2]
      unfold tmT
      rw [List.map_map, List.map_map]
      refine List.map_congr_left fun u _ => ?_
      simp only [Function.comp]
      by_cases e : u.1 = m
      · simp [e]
      · have e2 : ¬ (moD u.1 = moD m) := fun z => e (moD_inj.mp z)
        simp [e, e2]
    · have : (f.map fun t => if t.1 = m then (t.1, c) else t).map (·.1) = f.map (·.1) := by
        rw [List.map_map]
        refine List.map_congr_left fun u _ => ?_
        simp only [Function.comp]
        split <;> rfl
      rw [this]; exact hf.nd
    · intro t ht
      obtain ⟨u, hu, rfl⟩ := List.mem_map.mp ht
      by_cases e : u.1 = m
      · simp [e]
      · simp [e]; exact .inl hu
  · refine ⟨f ++ [(m, c)], ?_, by simp, mk _ ?_ ?_⟩
    · rw [put_new h2]; simp [tmT]
    · rw [List.map_append]
      refine List.nodup_append.mpr ⟨hf.nd, by simp, fun x hx y hy => ?_⟩
      obtain ⟨u, hu, rfl⟩ := List.mem_map.mp hx
      simp at hy
      subst hy
      exact h1 u hu
    · intro t ht
      rcases List.mem_append.mp ht with q | q
      · exact .inl q
      · exact .inr (List.mem_singleton.mp q)
theorem getK_tm_at {f : Po} (nd : (f.map (·.1)).Nodup) {t : Mo × Int} (ht : t ∈ f) : getK (tmT f) (moD t.1) = some (.int t.2) := by
  rcases getK_tm t.1 f with ⟨u, hu, h1, h2⟩ | ⟨h1, h2⟩
  · have : u = t := by
      obtain ⟨i, hi, e1⟩ := List.mem_iff_getElem.mp hu
      obtain ⟨j, hj, e2⟩ := List.mem_iff_getElem.mp ht
      have : i = j := by
        refine (List.getElem_inj (h₀ := by simpa using hi) (h₁ := by simpa using hj) nd).mp ?_
        simp [e1, e2, h1]
      subst this
      rw [← e1, ← e2]
    rw [h2, this]
  · exact absurd rfl (h1 t ht)
def nzF (f : Po) : Po := f.filter fun t => decide (t.2 ≠ 0)
noncomputable def pickF (f : Po) (d : D) : Option D := match getK (tmT f) d with
  | some (.int c) => if c = 0 then none else some (.tup [d, .int c])
  | _ => none
theorem pick_all {f : Po} (nd : (f.map (·.1)).Nodup) : ((tmT f).map (·.1)).filterMap (pickF f) = (nzF f).map tmD := by
  have gen : ∀ l : Po, (∀ t ∈ l, t ∈ f) → ((tmT l).map (·.1)).filterMap (pickF f) = (nzF l).map tmD := by
    intro l
    induction l with
    | nil => exact fun _ => rfl
    | cons t l ih =>
      intro h
      have e := getK_tm_at nd (h t List.mem_cons_self)
      have i := ih fun u hu => h u (List.mem_cons_of_mem _ hu)
      have e1 : ((tmT (t :: l)).map (·.1)) = moD t.1 :: (tmT l).map (·.1) := rfl
      rw [e1, List.filterMap_cons]
      unfold nzF at i ⊢
      rw [List.filter_cons]
      unfold pickF at i ⊢
      rw [e]
      by_cases z : t.2 = 0
      · simp [z]; simpa using i
      · simp [z, tmD]; simpa using i
  exact gen f fun t h => h
def unT (d : D) : Mo × Int := match d with
  | .tup [.tup [.int i, .int j, .int k], .int c] => ((i, j, k), c)
  | _ => ((0, 0, 0), 0)
theorem unT_tm (t : Mo × Int) : unT (tmD t) = t := rfl
theorem sorted_tms (k : Po) : ∃ l : Po, l.Perm k ∧ (k.map tmD).mergeSort dLe = l.map tmD := by
  have pm := List.mergeSort_perm (k.map tmD) dLe
  have back : ∀ L : List D, (∀ x ∈ L, ∃ t, x = tmD t) → L = (L.map unT).map tmD := by
    intro L
    induction L with
    | nil => exact fun _ => rfl
    | cons x L ih =>
      intro h
      obtain ⟨t, rfl⟩ := h _ List.mem_cons_self
      rw [List.map_cons, List.map_cons, unT_tm, ← ih fun y hy => h y (List.mem_cons_of_mem _ hy)]
  refine ⟨((k.map tmD).mergeSort dLe).map unT, ?_, back _ fun x hx => ?_⟩
  · have := pm.map unT
    simpa [List.map_map, Function.comp_def, unT_tm] using this
  · obtain ⟨t, _, rfl⟩ := List.mem_map.mp (pm.mem_iff.mp hx)
    exact ⟨t, rfl⟩
theorem toP_tm (t : Mo × Int) : toP (tmD t) = tmP t := by simp [toP, pyd, pyds, tmP, tmD, moD]
theorem sort_tms (l : Po) : (∃ ps, pyds (l.map tmD) = some ps) ∧ PySem.W.AllAlike ((l.map tmD).map toP) ∧ PySem.W.Sortable ((l.map tmD).map toP) ∧ (∀ y ∈ l.map tmD, (toP y).depth ≤ 60) := by
  refine ⟨⟨_, (pls_pyd (pl_tms l).1).1⟩, ?_, .inl ?_, ?_⟩
  · intro a ha b hb
    simp only [List.mem_map] at ha hb
    obtain ⟨_, ⟨f, hf, rfl⟩, rfl⟩ := ha
    obtain ⟨_, ⟨g, hg, rfl⟩, rfl⟩ := hb
    rw [toP_tm, toP_tm]
    exact alike_tm f g
  · intro a ha
    simp only [List.mem_map] at ha
    obtain ⟨_, ⟨f, hf, rfl⟩, rfl⟩ := ha
    rw [toP_tm]
    exact ⟨_, _, rfl⟩
  · intro y hy
    obtain ⟨f, hf, rfl⟩ := List.mem_map.mp hy
    rw [toP_tm]
    simp [tmP, PyData.depth, PyData.depthAll]
theorem sortA_lst {M : Mem} {R : DK} {a : Addr} {ys : List D} (ha : M a = some (.lst ys)) (h1 : ∃ ps, pyds ys = some ps) (h2 : PySem.W.AllAlike (ys.map toP)) (h3 : PySem.W.Sortable (ys.map toP)) (h4 : ∀ y ∈ ys, (toP y).depth ≤ 60) (h5 : ys.length ≤ sizeLine)
    (k : ∀ p, M p = none → R (.ref p) (updM M p (.lst (ys.mergeSort dLe)))) : gSortedA [.ref a] M R := by
  rw [eq_gSortedA]
  simp only [keyA_ref, ha]
  have e : itemsD M (.ref a) = some ys := by simp [itemsD, ha]
  unfold gSorted
  simp only [e]
  exact ⟨by simp [isLst, ha], h1, h2, h3, h4, h5, M, Sub.refl M, k⟩
theorem lp_end {ns : List Str} {f l : Po} (h : LpW ns f) (hl : f.length ≤ 4) (pm : l.Perm (nzF f)) : LpOk ns l := by
  have sub : ∀ t ∈ l, t ∈ f ∧ t.2 ≠ 0 := fun t ht => by
    have := List.mem_filter.mp (pm.mem_iff.mp ht)
    exact ⟨this.1, by simpa using this.2⟩
  refine ⟨?_, ?_, fun t ht => h.nn t (sub t ht).1, fun t ht => h.le t (sub t ht).1, fun t ht => ⟨(sub t ht).2, h.c t (sub t ht).1⟩, fun z t ht => h.x z t (sub t ht).1, fun z t ht => h.y z t (sub t ht).1, fun z t ht => h.z z t (sub t ht).1⟩
  · rw [pm.length_eq]
    exact Nat.le_trans (List.length_filter_le _ _) hl
  · have e1 : ((nzF f).map (·.1)).Nodup := by
      unfold nzF
      exact (List.filter_sublist.map (fun t : Mo × Int => t.1)).nodup h.nd
    exact (pm.map (·.1)).nodup_iff.mpr e1
theorem k_l_polynomial (ds : List D) (M : Mem) (R : DK) (h : spLpo ds M R) : r_l_polynomial spPick spDraw (endsF R) (startD N_l_polynomial ds) M := by
  obtain ⟨b, g, c, l, N, ns, rfl, hB, hN, hl, hns, lb, lg, lc, h⟩ := h
  unfold r_l_polynomial
  simp [size_line]
  intro p1 hp1 p2 hp2
  obtain ⟨n21, hp2'⟩ := updM_none hp2
  obtain ⟨p1b, p1g, p1c⟩ := hB.ne hp1
  have hB1 : Bag (updM M p1 (.dct [])) b g c N := hB.put p1b p1g p1c
  refine pick_new hB1 (by omega) (by simp [n21, hp2']) (by simp) (by decide) fun x M1 hx hB2 sub1 => ?_
  obtain ⟨n, rfl, hn⟩ : ∃ n : Nat, x = .int n ∧ n ≤ 4 := by
    simp at hx
    rcases hx with rfl | rfl | rfl | rfl | rfl
    · exact ⟨0, rfl, by omega⟩
    · exact ⟨1, rfl, by omega⟩
    · exact ⟨2, rfl, by omega⟩
    · exact ⟨3, rfl, by omega⟩
    · exact ⟨4, rfl, by omega⟩
  have l1 : l ≠ p1 := fun e => by rw [← e, hl] at hp1; cases hp1
  simp
  refine ⟨by omega, ?_⟩
  refine for_in (fun i δ M' => ∃ (x4 x5 x6 : Option D) (f : Po), δ = [some (.ref b), some (.ref l), some (.int 9), some (.ref p1), x4, x5, x6] ∧ M' p1 = some (.dct (tmT f)) ∧ f.length ≤ i ∧ LpW ns f ∧ Bag M' b g c (N + 1 + 10 * i) ∧ SubBut b g M M') ?_ ?_ ?_ ?_
  · refine ⟨none, none, none, [], rfl, sub1 p1 _ p1b p1g updM_same, Nat.zero_le _, ⟨by simp, ?_, ?_, ?_, ?_, ?_, ?_⟩, hB2, fun a o z1 z2 z => sub1 a o z1 z2 ?_⟩
    all_goals first
      | (intro t ht; exact absurd ht List.not_mem_nil)
      | (intro _ t ht; exact absurd ht List.not_mem_nil)
      | (rw [updM_ne fun e => by rw [e, hp1] at z; cases z]; exact z)
  · intros; trivial
  · rintro i x δ M' hx' ⟨x4, x5, x6, f, rfl, e1, hf, hw, hB', sub⟩
    obtain ⟨hi2, rfl⟩ := range_at hx'
    simp
    refine ⟨by decide, ?_⟩
    intro p3 hp3
    obtain ⟨p3b, p3g, p3c⟩ := hB'.ne hp3
    have n13 : p1 ≠ p3 := fun e => by rw [e, hp3] at e1; cases e1
    refine ⟨fun j acc M2 => ∃ es : List Int, acc = es.map D.int ∧ es.length = j ∧ (∀ (k : Nat) (e : Int) (s : Str), es[k]? = some e → nXYZ[k]? = some s → 0 ≤ e ∧ e ≤ 3 ∧ (s ∉ ns → e = 0)) ∧ Bag M2 b g c (N + 1 + 10 * i + j) ∧ SubBut b g M' M2 ∧ M2 p3 = none, ⟨[], rfl, rfl, fun k e s h => (by rw [List.getElem?_nil] at h; cases h), hB', SubBut.refl _, hp3⟩, ?_, ?_, ?_⟩
    · intros; trivial
    · rintro j x acc M2 hx ⟨es, rfl, hl', he, hB2', sub2, h3⟩
      obtain ⟨s, hs, rfl, hj⟩ : ∃ s, nXYZ[j]? = some s ∧ x = .str s ∧ j < 3 := by
        match j, hx with
        | 0, hx => simp at hx; exact ⟨_, rfl, hx.symm, by omega⟩
        | 1, hx => simp at hx; exact ⟨_, rfl, hx.symm, by omega⟩
        | 2, hx => simp at hx; exact ⟨_, rfl, hx.symm, by omega⟩
        | j + 3, hx => simp at hx
      have hlM : M2 l = some (.lst (ns.map D.str)) := sub2 l _ lb lg (sub l _ lb lg hl)
      have l3 : l ≠ p3 := fun e => by rw [e, h3] at hlM; cases hlM
      have ext : ∀ (e : Int), (0 ≤ e ∧ e ≤ 3 ∧ (s ∉ ns → e = 0)) → ∀ (k : Nat) (e' : Int) (s' : Str), (es ++ [e])[k]? = some e' → nXYZ[k]? = some s' → 0 ≤ e' ∧ e' ≤ 3 ∧ (s' ∉ ns → e' = 0) := fun e hh k e' s' h1 h2 => by
        by_cases hk : k < es.length
        · rw [List.getElem?_append_left hk] at h1
          exact he k e' s' h1 h2
        · rw [List.getElem?_append_right (by omega)] at h1
          have hk0 : k - es.length = 0 := by
            have := (List.getElem?_eq_some_iff.mp h1).1
            simp at this; omega
          rw [hk0] at h1
          simp at h1
          subst h1
          have : k = j := by omega
          subst this
          rw [hs] at h2
          cases h2
          exact hh
      simp [wipeD, size_line, l3, hlM, flDs_strs, inFl_strs]
      refine ⟨by omega, ?_⟩
      by_cases hin : s ∈ ns
      · simp [hin]
        intro p4 hp4
        obtain ⟨n43, hp4'⟩ := updM_none hp4
        refine pick_new (hB2'.put p3b p3g p3c) (by omega) hp4 (by simp) (by decide) fun x M4 hx4 hB4 sub4 => ?_
        obtain ⟨e, rfl, he0, he3⟩ : ∃ e : Int, x = .int e ∧ 0 ≤ e ∧ e ≤ 3 := by
          simp at hx4
          rcases hx4 with rfl | rfl | rfl | rfl
          · exact ⟨0, rfl, by omega, by omega⟩
          · exact ⟨1, rfl, by omega, by omega⟩
          · exact ⟨2, rfl, by omega, by omega⟩
          · exact ⟨3, rfl, by omega, by omega⟩
        refine ⟨hideM M4 p3, hide_put (sub4 p3 _ p3b p3g updM_same), es ++ [e], by simp, by simp [hl'], ext e ⟨he0, he3, fun z => absurd hin z⟩, ?_, fun a o z1 z2 z => ?_, hide_none⟩
        · have := hB4.un p3b p3g p3c
          exact this.mono (by omega)
        · have a3 : a ≠ p3 := fun e => by rw [e, hp3] at z; cases z
          rw [hide_ne a3]
          refine sub4 a o z1 z2 ?_
          rw [updM_ne a3]
          exact sub2 a o z1 z2 z
      · simp [hin]
        exact ⟨M2, rfl, es ++ [0], by simp, by simp [hl'], ext 0 ⟨by omega, by omega, fun _ => rfl⟩, hB2'.mono (by omega), sub2, h3⟩
    · rintro acc M2 ⟨es, rfl, hl', he, hB2', sub2, h3⟩
      obtain ⟨u, v, w, rfl⟩ : ∃ u v w, es = [u, v, w] := by
        match es, hl' with
        | [u, v, w], _ => exact ⟨u, v, w, rfl⟩
      have hm : MoIn ns (u, v, w) := fun k s hs => by
        match k, hs with
        | 0, hs => exact he 0 u s rfl hs
        | 1, hs => exact he 1 v s rfl hs
        | 2, hs => exact he 2 w s rfl hs
      simp
      refine ⟨M2, Sub.new h3, mul_ok 10 10 (by decide) (by decide) (by decide) (by decide) (by decide), ?_⟩
      refine ⟨b, g, c, N + 1 + 10 * i + 3, 19, rfl, hB2', by omega, by omega, by omega, fun x M4 h0 h1 hB4 hS => ?_⟩
      simp
      refine ⟨by decide, fun p4 hp4 => ?_⟩
      refine pick_new hB4 (by omega) hp4 (by simp) (by simp) fun d M5 hd hB5 sub5 => ?_
      obtain ⟨co, rfl, hco⟩ : ∃ co : Int, d = .int co ∧ co.natAbs ≤ 9 := by
        simp at hd
        rcases hd with rfl | rfl | rfl | rfl | rfl
        · exact ⟨_, rfl, by decide⟩
        · exact ⟨_, rfl, by decide⟩
        · exact ⟨_, rfl, by decide⟩
        · exact ⟨_, rfl, by decide⟩
        · exact ⟨_, rfl, by omega⟩
      have e5 : M5 p1 = some (.dct (tmT f)) := sub5 p1 _ p1b p1g (by rw [hS p1 p1b p1g]; exact sub2 p1 _ p1b p1g e1)
      obtain ⟨f', hf1, hf2, hf3⟩ := put_tm hw hm hco
      have kk : KeyOk (tmT f) (D.tup [.int u, .int v, .int w]) := key_tm (u, v, w) f
      have hf1' : putD' (tmT f) (D.tup [.int u, .int v, .int w]) (.int co) = tmT f' := hf1
      have hlt : (tmT f).length < 16777216 := by unfold tmT; rw [List.length_map]; omega
      simp [e5, kk, hf1', size_line, hlt]
      refine ⟨f', rfl, by omega, hf3, ?_, ?_⟩
      · exact (hB5.put p1b p1g p1c).mono (by omega)
      · intro a o z1 z2 z
        have a1 : a ≠ p1 := fun e => by rw [e, hp1] at z; cases z
        rw [updM_ne a1]
        refine sub5 a o z1 z2 ?_
        rw [hS a z1 z2]
        exact sub2 a o z1 z2 (sub a o z1 z2 z)
  · rintro δ M' ⟨x4, x5, x6, f, rfl, e1, hf, hw, hB', sub⟩
    rw [rangeD_length] at hf hB'
    simp
    refine ⟨p1, tmT f, e1, ?_⟩
    have hlen : f.length ≤ 4 := by omega
    simp
    refine lc_fm (pickF f) (by simp [tmT, size_line]; omega) (fun p acc hp => ?_) (fun x p acc RY RN hx hp q1 q2 => ?_) fun p hp => ?_
    · obtain ⟨n1, _⟩ := updM_none hp
      rw [updM_ne n1.symm]; exact updM_same
    · obtain ⟨n1, _⟩ := updM_none hp
      obtain ⟨q, hq, rfl⟩ := List.mem_map.mp hx
      obtain ⟨t, ht, rfl⟩ := List.mem_map.mp hq
      have e := getK_tm_at hw.nd ht
      have kk := key_tm t.1 f
      simp only [pickF, e] at q1 q2
      simp [wipeD, n1.symm, kk, e]
      by_cases z : t.2 = 0
      · rw [if_pos z]; exact q2 (if_pos z)
      · rw [if_neg z]; exact ⟨by decide, q1 _ (if_neg z)⟩
    · obtain ⟨n1, hp'⟩ := updM_none hp
      rw [pick_all hw.nd]
      obtain ⟨s1, s2, s3, s4⟩ := sort_tms (nzF f)
      obtain ⟨l', pm, el⟩ := sorted_tms (nzF f)
      refine sortA_lst (a := p) (by simp [n1]) s1 s2 s3 s4 ?_ fun p5 hp5 => ?_
      · have := List.length_filter_le (fun t : Mo × Int => decide (t.2 ≠ 0)) f
        unfold nzF
        rw [List.length_map, size_line]; omega
      · rw [el]
        simp
        have hp5b := hB'.ne hp'
        have sb : SubBut b g M (updM (updM (updM M' p1 (MO.fct (tmT f))) p (MO.lst (List.map tmD (nzF f)))) p1 (MO.dct (tmT f))) := by
          intro a o z1 z2 z
          have z' := sub a o z1 z2 z
          have a1 : a ≠ p1 := fun e => by rw [e, hp1] at z; cases z
          have a2 : a ≠ p := fun e => by rw [e, hp'] at z'; cases z'
          rw [updM_ne a1, updM_ne a2, updM_ne a1]; exact z'
        have hBx := ((hB'.put (o := MO.fct (tmT f)) p1b p1g p1c).put (o := MO.lst (List.map tmD (nzF f))) hp5b.1 hp5b.2.1 hp5b.2.2).put (o := MO.dct (tmT f)) p1b p1g p1c
        exact ⟨_, Sub.new hp5, _, keep_sub sb, h l' _ (lp_end hw hlen pm) ((keep_bag hB hBx sb).mono (by omega)) keep_same⟩
end DD
end
section
namespace DD
open PySem PySem.Spec PyProof.Rows L2
/-! ### a drawn sentence -/
theorem gNe_nil {M : Mem} {R : DK} {a p : Addr} {ys : List D} (ha : M a = some (.lst ys)) (hp : M p = some (.lst [])) (hy : plBs ys = true) (dy : deps ys ≤ 59) (h : R (.bl (decide (ys ≠ []))) M) : gNe (.ref a) (.ref p) M R := by
  show (match (match M a with
      | some (.lst xs) => (pyds xs).map PyData.list
      | _ => none), (match M p with
      | some (.lst xs) => (pyds xs).map PyData.list
      | _ => none) with
    | some a, some b => SeqAt.shaped a = true ∧ SeqAt.shaped b = true ∧ R (.bl (!PyData.eqv a b)) M
    | _, _ => False)
  obtain ⟨h1, h2, h3⟩ := pls_pyd hy
  rw [ha, hp]
  simp only
  rw [h1]
  refine ⟨?_, by decide, ?_⟩
  · unfold SeqAt.shaped
    simp [PyData.canLay0, PyData.depth, h2, h3]
    omega
  · have : (!PyData.eqv (.list (ys.map toP)) (.list [])) = decide (ys ≠ []) := by
      cases ys <;> simp [PyData.eqv, PyData.eqvAll]
    rw [this]; exact h
mutual
/-- a sentence drawn in the names op, where those of bd may each be bound once -/
def WfS : List Str → List Str → Sn → Prop
  | op, _, .at _ f => LpOk op f
  | _, _, .cst _ => True
  | op, bd, .neg s => WfS op bd s
  | op, bd, .jn _ l => l ≠ [] ∧ WfT op bd l
  | op, bd, .ov _ x s => ∃ rest, bd = x :: rest ∧ WfS (op ++ [x]) rest s
def WfT : List Str → List Str → List Sn → Prop
  | _, _, [] => True
  | op, bd, s :: l => WfS op bd s ∧ WfT op [] l
end
def spLse (n : Nat) : DSp := fun ds M R => ∃ (b g c lo lb : Addr) (N : Nat) (op bd : List Str), ds = [.ref b, .ref lo, .ref lb, .int ((n : Int) + 1), .int 9] ∧ n ≤ 4 ∧ Bag M b g c N ∧ N + 1000 * 5 ^ n + 1000 ≤ 2 ^ 40 ∧ M lo = some (.lst (op.map D.str)) ∧ M lb = some (.lst (bd.map D.str)) ∧ op.length + bd.length ≤ 3 ∧ (∀ a ∈ bd, a ∈ nXYZ) ∧
  lo ≠ b ∧ lo ≠ g ∧ lo ≠ c ∧ lb ≠ b ∧ lb ≠ g ∧ lb ≠ c ∧ ∀ (s : Sn) (M' : Mem), WfS op bd s → hS s ≤ n → sizeS s ≤ 5 ^ n → Bag M' b g c (N + 1000 * 5 ^ n) → SameBut b g M M' → R (snD true s) M'
theorem pl_strs : ∀ ns : List Str, (∀ a ∈ ns, a ∈ nXYZ) → plBs (ns.map D.str) = true ∧ deps (ns.map D.str) ≤ 1
  | [], _ => ⟨rfl, by simp [deps]⟩
  | n :: ns, hn => by
    obtain ⟨h1, h2⟩ := pl_strs ns fun a ha => hn a (List.mem_cons_of_mem _ ha)
    refine ⟨?_, ?_⟩
    · show (plB (D.str n) && plBs (ns.map D.str)) = true
      rw [h1]
      have := hn n List.mem_cons_self
      simp [nXYZ] at this
      rcases this with rfl | rfl | rfl <;> (rw [Bool.and_true]; decide +kernel)
    · rw [List.map_cons, deps]
      simp [dep]
      omega
theorem cut_head (x : D) (l : List D) : cutD (x :: l) none (some 1) = [x] := cut_to (by decide) (by simp; omega)
theorem wfT_snoc {op bd : List Str} {s : Sn} : ∀ {l : List Sn}, WfT op bd l → (if l = [] then WfS op bd s else WfS op [] s) → WfT op bd (l ++ [s])
  | [], _, h2 => ⟨by simpa using h2, trivial⟩
  | t :: l, h1, h2 => by
    refine ⟨h1.1, ?_⟩
    have h2 : WfS op [] s := by simpa using h2
    have := wfT_snoc (l := l) h1.2 (by split <;> exact h2)
    exact this
theorem hSs_le {m : Nat} : ∀ {l : List Sn}, (∀ s ∈ l, hS s ≤ m) → hSs l ≤ m
  | [], _ => Nat.zero_le _
  | s :: l, h => by
    have h1 := h s List.mem_cons_self
    have h2 := hSs_le (l := l) fun t ht => h t (List.mem_cons_of_mem _ ht)
    rw [hSs]; omega
def spLsw (k : Nat) : DSp := fun ds M R => ∃ n, n ≤ k ∧ spLse n ds M R
theorem kind_draw {n N : Nat} {b g c lo lb : Addr} {M : Mem} {K : DK} (hB : Bag M b g c N) (hN : N ≤ 2 ^ 40)
    (hK : ∀ x M1, 0 ≤ x → x < 9 → (n = 0 → x < 4) → Bag M1 b g c (N + 1) → SameBut b g M M1 → K (.int x) M1) :
    (dIf (dTest (dBin gGt (dVar 3) (dC (.int 1)))) (dCall spDraw (aCons (dVar 0) (aCons (dC (.int 9)) (aNil)))) (dCall spDraw (aCons (dVar 0) (aCons (dC (.int 4)) (aNil)))))
      [some (.ref b), some (.ref lo), some (.ref lb), some (.int ((n : Int) + 1)), some (.int 9), none, none, none, none] M K := by
  simp
  split
  · exact ⟨b, g, c, N, 9, rfl, hB, hN, by omega, by omega, fun x M1 h0 h1 hB1 hS => hK x M1 h0 h1 (fun z => by omega) hB1 hS⟩
  · exact ⟨b, g, c, N, 4, rfl, hB, hN, by omega, by omega, fun x M1 h0 h1 hB1 hS => hK x M1 h0 (by omega) (fun z => h1) hB1 hS⟩
theorem k_l_sentence (k' : Nat) (sp : DSp) (hsp : ∀ m, k' = m + 1 → sp = spLsw m) (ds : List D) (M : Mem) (R : DK) (h : spLsw k' ds M R) : r_l_sentence spDraw spPick sp spLpo (endsF R) (startD N_l_sentence ds) M := by
  obtain ⟨n, hnk, b, g, c, lo, lb, N, op, bd, rfl, hn, hB, hN, hlo, hlb, hlen, hbn, o1, o2, o3, q1, q2, q3, h⟩ := h
  have p5 : 0 < 5 ^ n := Nat.pow_pos (by decide)
  unfold r_l_sentence
  simp only [eq_sSeq, eq_sAsg]
  refine kind_draw hB (by omega) fun x M1 h0 h1 h2 hB1 hS1 => ?_
  have flo : ∀ {M'}, SubBut b g M M' → M' lo = some (.lst (op.map D.str)) := fun sub => sub lo _ o1 o2 hlo
  have flb : ∀ {M'}, SubBut b g M M' → M' lb = some (.lst (bd.map D.str)) := fun sub => sub lb _ q1 q2 hlb
  have sub1 : SubBut b g M M1 := .of_same hS1
  by_cases c8 : x = 8 ∧ bd ≠ []
  · obtain ⟨rfl, hbd⟩ := c8
    obtain ⟨m, rfl⟩ : ∃ m, n = m + 1 := ⟨n - 1, by have : n ≠ 0 := fun z => by have := h2 z; omega
                                                   omega⟩
    obtain ⟨k1, rfl⟩ : ∃ k1, k' = k1 + 1 := ⟨k' - 1, by omega⟩
    cases hsp k1 rfl
    obtain ⟨y, rest, rfl⟩ : ∃ y rest, bd = y :: rest := by
      cases bd with
      | nil => exact absurd rfl hbd
      | cons y rest => exact ⟨y, rest, rfl⟩
    simp [size_line]
    intro p hp
    have hlb1 := flb sub1
    have nlp : lb ≠ p := fun e => by rw [← e, hlb1] at hp; cases hp
    have pl := pl_strs (y :: rest) hbn
    refine gNe_nil (by rw [updM_ne nlp]; exact hlb1) updM_same pl.1 (by omega) ?_
    simp
    intro p2 hp2
    obtain ⟨n2p, hp2'⟩ := updM_none hp2
    obtain ⟨pb, pg, pc⟩ := hB1.ne hp
    refine pick_new (hB1.put pb pg pc) (by omega) hp2 (by simp) (by decide) fun w M2 hw hB2 sub2 => ?_
    obtain ⟨w, rfl⟩ : ∃ w' : OvW, w = .str w'.str := by
      simp at hw
      rcases hw with rfl | rfl
      · exact ⟨.some, rfl⟩
      · exact ⟨.all, rfl⟩
    have sub2' : SubBut b g M M2 := fun a o z1 z2 z => sub2 a o z1 z2 (by rw [updM_ne fun e => by rw [e, (sub1.none pb pg hp)] at z; cases z]; exact sub1 a o z1 z2 z)
    have e1 := flb sub2'
    have e2 := flo sub2'
    simp [e1, e2, cut_from1, cut_head]
    intro p3 hp3
    have a1 : lo ≠ p3 := fun e => by rw [e, hp3] at e2; cases e2
    have a2 : lb ≠ p3 := fun e => by rw [e, hp3] at e1; cases e1
    simp [a1, a2, e1, e2]
    refine ⟨by simp at hlen; omega, fun p4 hp4 => ?_⟩
    obtain ⟨n43, hp4'⟩ := updM_none hp4
    have a3 : lo ≠ p4 := fun e => by rw [e, hp4'] at e2; cases e2
    have a4 : lb ≠ p4 := fun e => by rw [e, hp4'] at e1; cases e1
    simp [a3, a4, a2, e1, cut_from1]
    intro p5' hp5
    obtain ⟨n54, hp5'⟩ := updM_none (M := updM M2 p3 (.lst [D.str y])) hp5
    obtain ⟨n53, hp5''⟩ := updM_none hp5'
    obtain ⟨b3, g3, c3⟩ := hB2.ne hp3
    obtain ⟨b4, g4, c4⟩ := hB2.ne hp4'
    obtain ⟨b5, g5, c5⟩ := hB2.ne hp5''
    have e5 : 5 ^ (m + 1) = 5 * 5 ^ m := by rw [Nat.pow_succ, Nat.mul_comm]
    have p5m : 0 < 5 ^ m := Nat.pow_pos (by decide)
    simp at hlen
    refine ⟨m, by omega, b, g, c, p4, p5', N + 2, op ++ [y], rest, by simp, by omega, ((hB2.put b3 g3 c3).put b4 g4 c4).put b5 g5 c5, by omega, by simp [n54.symm], by simp, by simp; omega, fun a ha => hbn a (List.mem_cons_of_mem _ ha), b4, g4, c4, b5, g5, c5, fun s M3 hs hh hz hB3 hS3 => ?_⟩
    have sb : SubBut b g M M3 := fun a o z1 z2 z => by
      have z' := sub2' a o z1 z2 z
      have a3 : a ≠ p3 := fun e => by rw [e, hp3] at z'; cases z'
      have a4 : a ≠ p4 := fun e => by rw [e, hp4'] at z'; cases z'
      have a5 : a ≠ p5' := fun e => by rw [e, hp5''] at z'; cases z'
      rw [hS3 a z1 z2, updM_ne a5, updM_ne a4, updM_ne a3]; exact z'
    refine ⟨keepM b g M M3, keep_sub sb, h (.ov w y s) _ ⟨rest, rfl, hs⟩ ?_ ?_ ((keep_bag hB hB3 sb).mono (by omega)) keep_same⟩
    · rw [hS]; omega
    · rw [sizeS]; omega
  have nolb : ∀ {M' : Mem} {p : Addr} {K : DK}, M' p = none → SubBut b g M M' → x = 8 → K (.bl false) (updM M' p (.lst [])) → gNe (.ref lb) (.ref p) (updM M' p (.lst [])) K := fun {M' p K} hp sub hx hK => by
    have hl := flb sub
    have hb : bd = [] := by
      by_cases z : bd = []
      · exact z
      · exact absurd ⟨hx, z⟩ c8
    subst hb
    have nlp : lb ≠ p := fun e => by rw [← e, hl] at hp; cases hp
    refine gNe_nil (ys := []) (by rw [updM_ne nlp]; exact hl) updM_same rfl (by decide) ?_
    simpa using hK
  by_cases c7 : x = 7 ∨ x = 8
  · obtain ⟨m, rfl⟩ : ∃ m, n = m + 1 := ⟨n - 1, by have : n ≠ 0 := fun z => by have := h2 z; omega
                                                   omega⟩
    obtain ⟨k1, rfl⟩ : ∃ k1, k' = k1 + 1 := ⟨k' - 1, by omega⟩
    cases hsp k1 rfl
    have e5 : 5 ^ (m + 1) = 5 * 5 ^ m := by rw [Nat.pow_succ, Nat.mul_comm]
    have p5m : 0 < 5 ^ m := Nat.pow_pos (by decide)
    have go : ∀ M' : Mem, SubBut b g M M' → Bag M' b g c (N + 1) → spLsw k1 [.ref b, .ref lo, .ref lb, .int ((m : Int) + 1), .int 9] M' fun x M1 => ∃ M0, Sub M0 M1 ∧ R (.tup [.str (Str.ofString "not"), x]) M0 := fun M' sub hB' =>
      ⟨m, by omega, b, g, c, lo, lb, N + 1, op, bd, rfl, by omega, hB', by omega, flo sub, flb sub, hlen, hbn, o1, o2, o3, q1, q2, q3, fun s M3 hs hh hz hB3 hS3 => by
        have sb : SubBut b g M M3 := sub.trans (.of_same hS3)
        refine ⟨keepM b g M M3, keep_sub sb, h (.neg s) _ hs ?_ ?_ ((keep_bag hB hB3 sb).mono (by omega)) keep_same⟩
        · rw [hS]; omega
        · rw [sizeS]; omega⟩
    rcases c7 with rfl | rfl
    · simp [size_line]
      exact go M1 sub1 hB1
    · simp [size_line]
      intro p hp
      refine nolb hp sub1 rfl ?_
      obtain ⟨pb, pg, pc⟩ := hB1.ne hp
      simp
      refine go _ (fun a o z1 z2 z => ?_) (hB1.put pb pg pc)
      have z' := sub1 a o z1 z2 z
      rw [updM_ne fun e => by rw [e, hp] at z'; cases z']; exact z'
  by_cases c3 : 3 < x
  · obtain ⟨m, rfl⟩ : ∃ m, n = m + 1 := ⟨n - 1, by have : n ≠ 0 := fun z => by have := h2 z; omega
                                                   omega⟩
    obtain ⟨k1, rfl⟩ : ∃ k1, k' = k1 + 1 := ⟨k' - 1, by omega⟩
    cases hsp k1 rfl
    have e5 : 5 ^ (m + 1) = 5 * 5 ^ m := by rw [Nat.pow_succ, Nat.mul_comm]
    have p5m : 0 < 5 ^ m := Nat.pow_pos (by decide)
    have x8 : ¬ x = 8 := fun z => c7 (.inr z)
    have x7 : ¬ x = 7 := fun z => c7 (.inl z)
    simp [size_line, x8, x7, c3]
    intro p hp
    refine pick_new hB1 (by omega) hp (by simp) (by decide) fun k M2 hk hB2 sub2 => ?_
    obtain ⟨k, rfl, hk0, hk4⟩ : ∃ k' : Nat, k = .int k' ∧ 0 < k' ∧ k' ≤ 4 := by
      simp at hk
      rcases hk with rfl | rfl | rfl
      · exact ⟨2, rfl, by omega, by omega⟩
      · exact ⟨3, rfl, by omega, by omega⟩
      · exact ⟨4, rfl, by omega, by omega⟩
    have sub2' : SubBut b g M M2 := sub1.trans sub2
    intro p8 hp8
    obtain ⟨b8, g8, c8'⟩ := hB2.ne hp8
    have hp8M : M p8 = none := sub2'.none b8 g8 hp8
    simp
    refine ⟨by omega, ?_⟩
    refine for_in (fun i δ M' => ∃ (l : List Sn) (y : Option D), δ = [some (.ref b), some (.ref lo), some (.ref lb), some (.int ((m : Int) + 1 + 1)), some (.int 9), some (.int x), y, some (.int k), some (.ref p8)] ∧ M' p8 = some (.lst (l.map (snD true))) ∧ l.length = i ∧ WfT op bd l ∧ (∀ s ∈ l, hS s ≤ m) ∧ sizesS l ≤ i * 5 ^ m ∧ Bag M' b g c (N + 2 + i * (1000 * 5 ^ m)) ∧ SubBut b g M M') ?_ ?_ ?_ ?_
    · refine ⟨[], none, rfl, updM_same, rfl, trivial, fun s hs => absurd hs List.not_mem_nil, Nat.zero_le _, (hB2.put b8 g8 c8').mono (by omega), fun a o z1 z2 z => ?_⟩
      rw [updM_ne fun e => by rw [e, hp8M] at z; cases z]; exact sub2' a o z1 z2 z
    · intros; trivial
    · rintro i x' δ M' hx' ⟨l, y, rfl, e8, hl, hw, hh, hz, hB', sub⟩
      obtain ⟨hi, rfl⟩ := range_at hx'
      have im : i * (1000 * 5 ^ m) ≤ 3 * (1000 * 5 ^ m) := Nat.mul_le_mul_right _ (by omega)
      have ez : (i + 1) * 5 ^ m = i * 5 ^ m + 5 ^ m := Nat.succ_mul _ _
      have ez2 : (i + 1) * (1000 * 5 ^ m) = i * (1000 * 5 ^ m) + 1000 * 5 ^ m := Nat.succ_mul _ _
      have fin : ∀ (lq : Addr) (bd' : List Str) (Mq : Mem), SubBut b g M' Mq → Bag Mq b g c (N + 2 + i * (1000 * 5 ^ m)) → Mq lq = some (.lst (bd'.map D.str)) → lq ≠ b → lq ≠ g → lq ≠ c → op.length + bd'.length ≤ 3 → (∀ a ∈ bd', a ∈ nXYZ) →
          (∀ s, WfS op bd' s → if l = [] then WfS op bd s else WfS op [] s) → ∀ K : DK, (∀ (s : Sn) (M3 : Mem), WfT op bd (l ++ [s]) → hS s ≤ m → sizeS s ≤ 5 ^ m → M3 p8 = some (.lst (l.map (snD true))) → Bag M3 b g c (N + 2 + (i + 1) * (1000 * 5 ^ m)) → SubBut b g M M3 → K (snD true s) M3) → spLsw k1 [.ref b, .ref lo, .ref lq, .int ((m : Int) + 1), .int 9] Mq K := fun lq bd' Mq sq hBq hq z1 z2 z3 hlq hbq hwf K hK =>
        ⟨m, by omega, b, g, c, lo, lq, N + 2 + i * (1000 * 5 ^ m), op, bd', rfl, by omega, hBq, by omega, sq lo _ o1 o2 (flo sub), hq, hlq, hbq, o1, o2, o3, z1, z2, z3, fun s M3 hs hh' hz' hB3 hS3 =>
          hK s M3 (wfT_snoc hw (hwf s hs)) hh' hz' (by rw [hS3 p8 b8 g8]; exact sq p8 _ b8 g8 e8) (hB3.mono (by omega)) ((sub.trans sq).trans (.of_same hS3))⟩
      have done : ∀ (s : Sn) (M3 : Mem), WfT op bd (l ++ [s]) → hS s ≤ m → sizeS s ≤ 5 ^ m → M3 p8 = some (.lst (l.map (snD true))) → Bag M3 b g c (N + 2 + (i + 1) * (1000 * 5 ^ m)) → SubBut b g M M3 →
          ∃ l' : List Sn, updM M3 p8 (.lst (l.map (snD true) ++ [snD true s])) p8 = some (.lst (l'.map (snD true))) ∧ l'.length = i + 1 ∧ WfT op bd l' ∧ (∀ s ∈ l', hS s ≤ m) ∧ sizesS l' ≤ (i + 1) * 5 ^ m ∧ Bag (updM M3 p8 (.lst (l.map (snD true) ++ [snD true s]))) b g c (N + 2 + (i + 1) * (1000 * 5 ^ m)) ∧ SubBut b g M (updM M3 p8 (.lst (l.map (snD true) ++ [snD true s]))) := fun s M3 hw' hh' hz' e3 hB3 sb3 => by
        refine ⟨l ++ [s], by rw [updM_same, List.map_append]; rfl, by simp [hl], hw', fun t ht => ?_, ?_, hB3.put b8 g8 c8', fun a o z1 z2 z => ?_⟩
        · rcases List.mem_append.mp ht with q | q
          · exact hh t q
          · rw [List.mem_singleton.mp q]; exact hh'
        · rw [sizes_append, sizesS, sizesS]; omega
        · rw [updM_ne fun e => by rw [e, hp8M] at z; cases z]; exact sb3 a o z1 z2 z
      by_cases hi0 : i = 0
      · subst hi0
        have hl0 : l = [] := List.length_eq_zero_iff.mp hl
        simp [e8]
        refine fin lb bd M' (.refl _) hB' (flb sub) q1 q2 q3 hlen hbn (fun s hs => by rw [if_pos hl0]; exact hs) _ fun s M3 w1 w2 w3 w4 w5 w6 => ?_
        have dn := done s M3 w1 w2 w3 w4 w5 w6
        simp [w4, size_line]
        exact ⟨by omega, by simpa using dn⟩
      · simp [e8, hi0]
        intro pq hpq
        obtain ⟨bq, gq, cq⟩ := hB'.ne hpq
        have sq : SubBut b g M' (updM M' pq (.lst [])) := fun a o z1 z2 z => by
          rw [updM_ne fun e => by rw [e, hpq] at z; cases z]; exact z
        refine fin pq [] _ sq (hB'.put bq gq cq) updM_same bq gq cq (by simp; omega) (fun a ha => absurd ha List.not_mem_nil) (fun s hs => ?_) _ fun s M3 w1 w2 w3 w4 w5 w6 => ?_
        · have : l ≠ [] := fun e => by rw [e] at hl; exact hi0 hl.symm
          rw [if_neg this]; exact hs
        · have dn := done s M3 w1 w2 w3 w4 w5 w6
          simp only [w4]
          exact ⟨by rw [List.length_map, size_line]; omega, by simpa using dn⟩
    · rintro δ M' ⟨l, y, rfl, e8, hl, hw, hh, hz, hB', sub⟩
      rw [rangeD_length] at hl hz hB'
      have km : k * (1000 * 5 ^ m) ≤ 4 * (1000 * 5 ^ m) := Nat.mul_le_mul_right _ hk4
      have km2 : k * 5 ^ m ≤ 4 * 5 ^ m := Nat.mul_le_mul_right _ hk4
      simp [size_line]
      intro p9 hp9
      refine pick_new hB' (by omega) hp9 (by simp) (by decide) fun w M9 hw9 hB9 sub9 => ?_
      obtain ⟨w, rfl⟩ : ∃ w' : JnW, w = .str w'.str := by
        simp at hw9
        rcases hw9 with rfl | rfl
        · exact ⟨.and, rfl⟩
        · exact ⟨.or, rfl⟩
      have e9 := sub9 p8 _ b8 g8 e8
      simp [e9]
      have sb : SubBut b g M M9 := sub.trans sub9
      refine ⟨M9, Sub.refl _, by omega, keepM b g M M9, keep_sub sb, ?_⟩
      have hR := h (.jn w l) (keepM b g M M9) ⟨fun e => by rw [e] at hl; simp at hl; omega, hw⟩ (by rw [hS]; have := hSs_le hh; omega) (by rw [sizeS]; omega) ((keep_bag hB hB9 sb).mono (by omega)) keep_same
      have e : snD true (.jn w l) = .tup (.str w.str :: l.map (snD true)) := by rw [snD, snDs_map]
      rw [e] at hR
      exact hR
  have hx4 : x ≤ 3 := by omega
  have x8 : ¬ x = 8 := fun z => c7 (.inr z)
  have x7 : ¬ x = 7 := fun z => c7 (.inl z)
  have atom : ∀ M', SubBut b g M M' → Bag M' b g c (N + 2) → ∀ p, M' p = none → spPick [.ref b, .ref p] (updM M' p (.lst [.str (Str.ofString "less"), .str (Str.ofString "most"), .str (Str.ofString "is")])) fun x M1 =>
      spLpo [.ref b, .ref lo, .int 9] M1 fun x_1 M1 => ∃ M0, Sub M0 M1 ∧ R (.tup [x, x_1]) M0 := fun M' sub hB' p hp => by
    refine pick_new hB' (by omega) hp (by simp) (by decide) fun w M2 hw hB2 sub2 => ?_
    obtain ⟨w, rfl⟩ : ∃ w' : AtW, w = .str w'.str := by
      simp at hw
      rcases hw with rfl | rfl | rfl
      · exact ⟨.less, rfl⟩
      · exact ⟨.most, rfl⟩
      · exact ⟨.is, rfl⟩
    have sub2' := sub.trans sub2
    refine ⟨b, g, c, lo, N + 3, op, rfl, hB2, by omega, flo sub2', by omega, o1, o2, o3, fun f M3 hf hB3 hS3 => ?_⟩
    have sb : SubBut b g M M3 := sub2'.trans (.of_same hS3)
    exact ⟨keepM b g M M3, keep_sub sb, h (.at w f) _ hf (Nat.zero_le _) (by rw [sizeS]; omega) ((keep_bag hB hB3 sb).mono (by omega)) keep_same⟩
  simp [size_line, x8, x7, c3]
  split
  · refine ⟨b, g, c, N + 1, 3, rfl, hB1, by omega, by omega, by omega, fun y M2 y0 y1 hB2 hS2 => ?_⟩
    have sub2 : SubBut b g M M2 := sub1.trans (.of_same hS2)
    simp
    split
    · intro p hp
      refine pick_new hB2 (by omega) hp (by simp) (by decide) fun w M3 hw hB3 sub3 => ?_
      have sb := sub2.trans sub3
      obtain ⟨v, rfl⟩ : ∃ v : Bool, w = .str (cstStr v) := by
        simp at hw
        rcases hw with rfl | rfl
        · exact ⟨true, rfl⟩
        · exact ⟨false, rfl⟩
      exact ⟨keepM b g M M3, keep_sub sb, h (.cst v) _ trivial (Nat.zero_le _) (by rw [sizeS]; omega) ((keep_bag hB hB3 sb).mono (by omega)) keep_same⟩
    · exact atom M2 sub2 hB2
  · exact atom M1 sub1 (hB1.mono (by omega))
end DD
end
section
namespace DD
open PySem PySem.Spec PyProof.Rows L2
/-! ### the law's many, atoms, bound -/
/-- a list comprehension over known things whose parts leave the memory -/
theorem lc_of {α : Type} {g : DG} {tt : DT} {te : DE} {vs : List Nat} {δ : DSt} {R : DK} {ok : Mem → Prop} {M1 : Mem} (l : List α) (F : α → D) (G : α → Option D) (hl : l.length ≤ sizeLine) (hok : ∀ p acc, M1 p = none → ok (updM M1 p (.lst acc)))
    (step : ∀ (t : α) (p : Addr) (acc : List D) (RY : D → Mem → Prop) (RN : Mem → Prop), t ∈ l → M1 p = none → (∀ y, G t = some y → RY y (updM M1 p (.lst acc))) → (G t = none → RN (updM M1 p (.lst acc))) →
      g (F t) (wipeD δ vs) (updM M1 p (.lst acc)) fun δ2 M2 => tt δ2 M2 fun b M3 => if b = true then te δ2 M3 RY else RN M3)
    (hR : ∀ p, M1 p = none → R (.ref p) (updM M1 p (.lst (l.filterMap G)))) : LcIn g tt te vs δ R (l.map F) ok M1 := by
  intro p hp
  refine ⟨fun i acc M => M = M1 ∧ acc = (l.take i).filterMap G, ⟨rfl, by simp⟩, ?_, ?_, ?_⟩
  · rintro i acc M ⟨rfl, rfl⟩
    exact hok p _ hp
  · rintro i x acc M hx ⟨rfl, rfl⟩
    rw [List.getElem?_map] at hx
    cases ht : l[i]? with
    | none => rw [ht] at hx; cases hx
    | some t =>
      rw [ht] at hx
      cases hx
      have hi : i < l.length := (List.getElem?_eq_some_iff.mp ht).1
      refine ⟨?_, step t p _ _ _ (List.mem_of_getElem? ht) hp ?_ ?_⟩
      · have h1 := List.length_filterMap_le G (l.take i)
        rw [List.length_take] at h1
        omega
      · intro y hy
        refine ⟨_, rfl, rfl, ?_⟩
        rw [List.take_add_one, ht, List.filterMap_append]
        simp [hy]
      · intro hy
        refine ⟨_, rfl, rfl, ?_⟩
        rw [List.take_add_one, ht, List.filterMap_append]
        simp [hy]
  · rintro acc M ⟨rfl, rfl⟩
    rw [List.length_map, List.take_length]
    exact hR p hp
/-- what stands behind the word -/
def tailS : Sn → List (Str ⊕ Sn)
  | .neg s => [.inr s]
  | .jn _ l => l.map .inr
  | .ov _ x s => [.inl x, .inr s]
  | _ => []
def tlD (b : Bool) : Str ⊕ Sn → D
  | .inl x => .str x
  | .inr s => snD b s
theorem tl_map (b : Bool) (l : List Sn) : (l.map (Sum.inr (α := Str))).map (tlD b) = l.map (snD b) := by rw [List.map_map]; rfl
mutual
def manyS : Sn → Nat
  | .at _ _ => 1
  | .cst _ => 1
  | .neg s => manyS s
  | .jn _ l => manyT l
  | .ov _ _ s => manyS s
def manyT : List Sn → Nat
  | [] => 0
  | s :: l => manyS s + manyT l
end
def tlMany : Str ⊕ Sn → Option Int
  | .inl _ => none
  | .inr s => some (manyS s)
def isLeaf : Sn → Bool
  | .at _ _ => true
  | .cst _ => true
  | _ => false
theorem many_tail : ∀ s : Sn, isLeaf s = false → ((tailS s).filterMap tlMany).sum = (manyS s : Int)
  | .neg s, _ => by simp [tailS, tlMany, manyS]
  | .ov w x s, _ => by
    have e : [Sum.inl x, Sum.inr s].filterMap tlMany = [(manyS s : Int)] := rfl
    rw [tailS, e, manyS]; simp
  | .jn w l, _ => by
    rw [tailS, manyS]
    have gen : ∀ l : List Sn, ((l.map (Sum.inr (α := Str))).filterMap tlMany).sum = (manyT l : Int) := fun l => by
      induction l with
      | nil => rfl
      | cons s l ih =>
        have e : ((s :: l).map (Sum.inr (α := Str))).filterMap tlMany = (manyS s : Int) :: (l.map (Sum.inr (α := Str))).filterMap tlMany := rfl
        rw [e, List.sum_cons, ih, manyT]; simp
    exact gen l
def wordS : Sn → Str
  | .at w _ => w.str
  | .cst v => cstStr v
  | .neg _ => "not"
  | .jn w _ => w.str
  | .ov w _ _ => w.str
theorem snD_tail (b : Bool) : ∀ s : Sn, isLeaf s = false → snD b s = .tup (.str (wordS s) :: (tailS s).map (tlD b))
  | .neg s, _ => rfl
  | .ov w x s, _ => rfl
  | .jn w l, _ => by rw [snD, snDs_map, tailS, tl_map]; rfl
theorem snD_tup (b : Bool) : ∀ s : Sn, ∃ xs, snD b s = .tup xs
  | .at w f => ⟨_, rfl⟩
  | .cst v => ⟨_, rfl⟩
  | .neg s => ⟨_, rfl⟩
  | .jn w l => ⟨_, rfl⟩
  | .ov w x s => ⟨_, rfl⟩
theorem tail_sub {s t : Sn} (h : Sum.inr t ∈ tailS s) : hS t + 1 ≤ hS s ∧ sizeS t + 1 ≤ sizeS s ∧ isLeaf s = false := by
  cases s with
  | «at» w f => cases h
  | cst v => cases h
  | neg s =>
    simp [tailS] at h
    subst h
    simp [hS, sizeS, isLeaf]
  | ov w x s =>
    simp [tailS] at h
    subst h
    simp [hS, sizeS, isLeaf]
  | jn w l =>
    simp [tailS] at h
    have h1 := hSs_mem h
    have h2 := size_mem h
    refine ⟨by rw [hS]; omega, by rw [sizeS]; omega, rfl⟩
theorem h_pos {s : Sn} (h : isLeaf s = false) : 0 < hS s := by
  cases s with
  | «at» w f => cases h
  | cst v => cases h
  | neg s => rw [hS]; omega
  | ov w x s => rw [hS]; omega
  | jn w l => rw [hS]; omega
theorem tail_len (s : Sn) : (tailS s).length ≤ 2 * sizeS s := by
  cases s with
  | jn w l =>
    have : ∀ l : List Sn, l.length ≤ sizesS l := fun l => by
      induction l with
      | nil => exact Nat.le_refl _
      | cons s l ih => rw [List.length_cons, sizesS]; have := size_pos s; omega
    have := this l
    rw [tailS, List.length_map, sizeS]; omega
  | _ => simp [tailS, sizeS]; try omega
def spLmany (n : Nat) : DSp := fun ds M R => ∃ b s, ds = [snD b s] ∧ hS s ≤ n ∧ sizeS s ≤ 100000 ∧ R (.int (manyS s)) M
theorem k_l_many (n : Nat) (sp : DSp) (hsp : ∀ m, n = m + 1 → sp = spLmany m) (ds : List D) (M : Mem) (R : DK) (h : spLmany n ds M R) : r_l_many sp (endsF R) (startD N_l_many ds) M := by
  obtain ⟨b, s, rfl, hh, hs, h⟩ := h
  unfold r_l_many
  cases hlf : isLeaf s with
  | true =>
    cases s with
    | «at» w f => cases w <;> simp [snD, manyS, AtW.str, size_line] at h ⊢ <;> exact ret_same h
    | cst v => cases v <;> simp [snD, manyS, cstStr, size_line] at h ⊢ <;> exact ret_same h
    | _ => cases hlf
  | false =>
    obtain ⟨m, rfl⟩ : ∃ m, n = m + 1 := ⟨n - 1, by have := h_pos hlf; omega⟩
    cases hsp m rfl
    rw [snD_tail b s hlf]
    have hw : ∀ l : List D, inFl (.str (wordS s)) [.str "less", .str "most", .str "is", .str "true", .str "false"] = false := fun _ => by
      cases s with
      | «at» w f => cases hlf
      | cst v => cases hlf
      | neg s => simp [wordS]
      | jn w l => cases w <;> simp [wordS, JnW.str]
      | ov w x s => cases w <;> simp [wordS, OvW.str]
    have hw := hw []
    simp [size_line] at hw ⊢
    simp [hw, cut_from1]
    refine lc_of (tailS s) (tlD b) (fun t => (tlMany t).map D.int) (by have := tail_len s; rw [size_line]; omega) (fun _ _ _ => trivial) (fun t p acc RY RN ht hp h1 h2 => ?_) fun p hp => ?_
    · cases t with
      | inl x =>
        have h2 := h2 rfl
        simp [wipeD, tlD]
        exact h2
      | inr t =>
        have h1 := h1 _ rfl
        have ⟨a1, a2, _⟩ := tail_sub ht
        obtain ⟨xs, e⟩ := snD_tup b t
        simp [wipeD, tlD, e]
        exact ⟨b, t, by rw [e], by omega, by omega, h1⟩
    · rw [← List.map_filterMap, gsum_ints updM_same, many_tail s hlf]
      exact ⟨M, Sub.new hp, ret_same h⟩
end DD
end
section
namespace DD
open PySem PySem.Spec PyProof.Rows L2
/-! ### lists gathered over a sentence's parts -/
def spGath (F : Bool → Sn → List D) (n : Nat) : DSp := fun ds M R => ∃ b s, ds = [snD b s] ∧ hS s ≤ n ∧ sizeS s ≤ 100000 ∧ NewL M (F b s) R
def flD' (F : Bool → Sn → List D) (b : Bool) : Str ⊕ Sn → List D
  | .inl _ => []
  | .inr t => F b t
theorem gath_len {F : Bool → Sn → List D} (hF : ∀ b t, (F b t).length ≤ sizeS t) (b : Bool) (s : Sn) (i : Nat) : (((tailS s).take i).flatMap (flD' F b)).length + 1 ≤ sizeS s := by
  have gen : ∀ l : List (Str ⊕ Sn), ∀ i, ((l.take i).flatMap (flD' F b)).length ≤ (l.flatMap (flD' F b)).length := fun l i => by
    have e := List.take_append_drop i l
    have : (l.flatMap (flD' F b)).length = ((l.take i).flatMap (flD' F b)).length + ((l.drop i).flatMap (flD' F b)).length := by
      rw [← List.length_append, ← List.flatMap_append, e]
    omega
  have h1 := gen (tailS s) i
  have h2 : ((tailS s).flatMap (flD' F b)).length + 1 ≤ sizeS s := by
    cases s with
    | «at» w f => simp [tailS, sizeS]
    | cst v => simp [tailS, sizeS]
    | neg s => simp [tailS, sizeS, flD']; exact hF b s
    | ov w x s => simp [tailS, sizeS, flD']; exact hF b s
    | jn w l =>
      have : ∀ l : List Sn, ((l.map (Sum.inr (α := Str))).flatMap (flD' F b)).length ≤ sizesS l := fun l => by
        induction l with
        | nil => exact Nat.le_refl _
        | cons t l ih =>
          rw [List.map_cons, List.flatMap_cons, List.length_append, sizesS]
          have := hF b t
          have e : flD' F b (Sum.inr t) = F b t := rfl
          rw [e]; omega
      have := this l
      rw [tailS, sizeS]; omega
  omega
theorem loop_lists {F : Bool → Sn → List D} (hF : ∀ b t, (F b t).length ≤ sizeS t) {m : Nat} {b : Bool} {s : Sn} {M M1 : Mem} {q : Addr} {x0 : Option D} {d0 : D} {init : List D} {E : DEnds} (hs : sizeS s ≤ 100000) (hm : hS s ≤ m + 1)
    (hq : M q = none) (e1 : M1 q = some (.lst init)) (sub1 : Sub M M1) (hi : init.length ≤ 1)
    (hE : ∀ (q' : Addr) (M' : Mem) (x : Option D), M q' = none → M' q' = some (.lst (init ++ (tailS s).flatMap (flD' F b))) → Sub M M' → E.nx [some d0, some (.ref q'), x] M') :
    ForIn (gNm 2) (sIf (dTru (dCB gIsi (aCons (dVar 2) (aCons (dC (.ty "tuple")) (aNil))))) (sAsg (dBin gAdd (dVar 1) (dCall (spGath F m) (aCons (dVar 2) (aNil)))) (gNm 1)) (sNext)) E [some d0, some (.ref q), x0] ((tailS s).map (tlD b)) (fun _ => True) M1 := by
  refine for_in (fun i δ M' => ∃ (q' : Addr) (x : Option D), δ = [some d0, some (.ref q'), x] ∧ M q' = none ∧ M' q' = some (.lst (init ++ ((tailS s).take i).flatMap (flD' F b))) ∧ Sub M M') ?_ ?_ ?_ ?_
  · exact ⟨q, x0, rfl, hq, by simpa using e1, sub1⟩
  · intros; trivial
  · rintro i x δ M' hx ⟨q', y, rfl, hq', e', sub⟩
    rw [List.getElem?_map] at hx
    cases ht : (tailS s)[i]? with
    | none => rw [ht] at hx; cases hx
    | some t =>
      rw [ht] at hx
      cases hx
      rw [List.take_add_one, ht, List.flatMap_append]
      cases t with
      | inl z =>
        simp [tlD]
        exact ⟨hq', by simpa [flD'] using e', sub⟩
      | inr t =>
        have hin := List.mem_of_getElem? ht
        obtain ⟨a1, a2, _⟩ := tail_sub hin
        obtain ⟨xs, e⟩ := snD_tup b t
        simp [tlD, e]
        refine ⟨b, t, by rw [e], by omega, by omega, fun p M2 hp e2 fr => ?_⟩
        have nq : q' ≠ p := fun z => by rw [z, hp] at e'; cases e'
        have e3 := (fr q' nq).trans e'
        have l1 := gath_len hF b s i
        have l2 := hF b t
        simp [e3, e2]
        refine ⟨by simp at l1; rw [size_line]; omega, fun r hr => ?_⟩
        have hrM' : M' r = none := by
          by_cases z : r = p
          · rw [z]; exact hp
          · rw [← fr r z]; exact hr
        have hrM : M r = none := Sub.un sub hrM'
        refine ⟨hrM, by simp [flD'], fun a o z => ?_⟩
        have z' := sub a o z
        have ar : a ≠ r := fun e => by rw [e, hrM] at z; cases z
        have ap : a ≠ p := fun e => by rw [e, hp] at z'; cases z'
        rw [updM_ne ar, fr a ap]
        exact z'
  · rintro δ M' ⟨q', y, rfl, hq', e', sub⟩
    rw [List.length_map, List.take_length] at e'
    exact hE q' M' y hq' e' sub
/-! ### the law's atoms -/
mutual
def latS : Sn → List Po
  | .at _ f => [f]
  | .cst _ => []
  | .neg s => latS s
  | .jn _ l => latT l
  | .ov _ _ s => latS s
def latT : List Sn → List Po
  | [] => []
  | s :: l => latS s ++ latT l
end
mutual
def bouS : Sn → List Str
  | .at _ f => []
  | .cst _ => []
  | .neg s => bouS s
  | .jn _ l => bouT l
  | .ov _ x s => x :: bouS s
def bouT : List Sn → List Str
  | [] => []
  | s :: l => bouS s ++ bouT l
end
mutual
theorem lat_len : ∀ s : Sn, (latS s).length ≤ sizeS s
  | .at _ f => Nat.le_refl _
  | .cst _ => Nat.zero_le _
  | .neg s => by rw [latS, sizeS]; have := lat_len s; omega
  | .jn _ l => by rw [latS, sizeS]; have := latT_len l; omega
  | .ov _ _ s => by rw [latS, sizeS]; have := lat_len s; omega
theorem latT_len : ∀ l : List Sn, (latT l).length ≤ sizesS l
  | [] => Nat.zero_le _
  | s :: l => by rw [latT, sizesS, List.length_append]; have := lat_len s; have := latT_len l; omega
end
mutual
theorem bou_len : ∀ s : Sn, (bouS s).length ≤ sizeS s
  | .at _ f => Nat.zero_le _
  | .cst _ => Nat.zero_le _
  | .neg s => by rw [bouS, sizeS]; have := bou_len s; omega
  | .jn _ l => by rw [bouS, sizeS]; have := bouT_len l; omega
  | .ov _ _ s => by rw [bouS, sizeS, List.length_cons]; have := bou_len s; omega
theorem bouT_len : ∀ l : List Sn, (bouT l).length ≤ sizesS l
  | [] => Nat.zero_le _
  | s :: l => by rw [bouT, sizesS, List.length_append]; have := bou_len s; have := bouT_len l; omega
end
def latD (b : Bool) (s : Sn) : List D := (latS s).map (poD b)
def bouD (_ : Bool) (s : Sn) : List D := (bouS s).map D.str
theorem latD_len (b : Bool) (t : Sn) : (latD b t).length ≤ sizeS t := by unfold latD; rw [List.length_map]; exact lat_len t
theorem bouD_len (b : Bool) (t : Sn) : (bouD b t).length ≤ sizeS t := by unfold bouD; rw [List.length_map]; exact bou_len t
theorem lat_tail (b : Bool) : ∀ s : Sn, isLeaf s = false → latD b s = (tailS s).flatMap (flD' latD b)
  | .neg s, _ => by simp [tailS, flD', latD, latS]
  | .ov w x s, _ => by simp [tailS, flD', latD, latS]
  | .jn w l, _ => by
    have gen : ∀ l : List Sn, (latT l).map (poD b) = (l.map (Sum.inr (α := Str))).flatMap (flD' latD b) := fun l => by
      induction l with
      | nil => rfl
      | cons s l ih =>
        rw [latT, List.map_append, ih, List.map_cons, List.flatMap_cons]; rfl
    exact gen l
theorem k_l_atoms (n : Nat) (sp : DSp) (hsp : ∀ m, n = m + 1 → sp = spGath latD m) (ds : List D) (M : Mem) (R : DK) (h : spGath latD n ds M R) : r_l_atoms sp (endsF R) (startD N_l_atoms ds) M := by
  obtain ⟨b, s, rfl, hh, hs, h⟩ := h
  unfold r_l_atoms
  have leaf : ∀ {p : Addr}, M p = none → (∀ M', M' p = some (.lst (latD b s)) → (∀ a, a ≠ p → M' a = M a) → R (.ref p) M') := fun {p} hp M' e fr => h p M' hp e fr
  cases hlf : isLeaf s with
  | true =>
    cases s with
    | «at» w f =>
      have e : poD b f = poD b f := rfl
      cases w <;> simp [snD, AtW.str, size_line] <;> intro p hp <;> exact newL_end h hp updM_same (Sub.new hp)
    | cst v => cases v <;> simp [snD, cstStr, size_line] <;> intro p hp <;> exact newL_end h hp updM_same (Sub.new hp)
    | _ => cases hlf
  | false =>
    obtain ⟨m, rfl⟩ : ∃ m, n = m + 1 := ⟨n - 1, by have := h_pos hlf; omega⟩
    cases hsp m rfl
    have hw : inFl (.str (wordS s)) [.str "true", .str "false"] = false ∧ inFl (.str (wordS s)) [.str "less", .str "most", .str "is"] = false := by
      cases s with
      | «at» w f => cases hlf
      | cst v => cases hlf
      | neg s => simp [wordS]
      | jn w l => cases w <;> simp [wordS, JnW.str]
      | ov w x s => cases w <;> simp [wordS, OvW.str]
    rw [snD_tail b s hlf]
    simp [size_line] at hw ⊢
    simp [hw, cut_from1]
    intro p hp
    refine loop_lists latD_len hs hh hp updM_same (Sub.new hp) (by simp) fun q' M' x hq e sub => ?_
    rw [List.nil_append, ← lat_tail b s hlf] at e
    simp
    exact newL_end h hq e sub
theorem k_l_bound (n : Nat) (sp : DSp) (hsp : ∀ m, n = m + 1 → sp = spGath bouD m) (ds : List D) (M : Mem) (R : DK) (h : spGath bouD n ds M R) : r_l_bound sp (endsF R) (startD N_l_bound ds) M := by
  obtain ⟨b, s, rfl, hh, hs, h⟩ := h
  unfold r_l_bound
  cases hlf : isLeaf s with
  | true =>
    cases s with
    | «at» w f =>
      cases w <;> simp [snD, AtW.str, size_line] <;> intro p hp <;> exact newL_end h hp updM_same (Sub.new hp)
    | cst v => cases v <;> simp [snD, cstStr, size_line] <;> intro p hp <;> exact newL_end h hp updM_same (Sub.new hp)
    | _ => cases hlf
  | false =>
    obtain ⟨m, rfl⟩ : ∃ m, n = m + 1 := ⟨n - 1, by have := h_pos hlf; omega⟩
    cases hsp m rfl
    have go : ∀ (p : Addr) (init : List D), init.length ≤ 1 → init ++ (tailS s).flatMap (flD' bouD b) = bouD b s → M p = none → ForIn (gNm 2) (sIf (dTru (dCB gIsi (aCons (dVar 2) (aCons (dC (.ty "tuple")) (aNil))))) (sAsg (dBin gAdd (dVar 1) (dCall (spGath bouD m) (aCons (dVar 2) (aNil)))) (gNm 1)) (sNext))
        ⟨sRet (dVar 1) (endsF R), (endsF R).rt, (endsF R).bk, (endsF R).ct⟩ [some (snD b s), some (.ref p), none] ((tailS s).map (tlD b)) (fun _ => True) (updM M p (.lst init)) := fun p init hi he hp => by
      refine loop_lists bouD_len hs hh hp updM_same (Sub.new hp) hi fun q' M' x hq e sub => ?_
      rw [he] at e
      simp
      exact newL_end h hq e sub
    cases s with
    | «at» w f => cases hlf
    | cst v => cases hlf
    | neg s =>
      simp [snD, size_line, cut_from1]
      intro p hp
      exact go p [] (by simp) (by simp [tailS, flD', bouD, bouS]) hp
    | ov w x s =>
      cases w <;> simp [snD, size_line, cut_from1, OvW.str]
      all_goals
        intro p hp
        exact go p [.str x] (by simp) (by simp [tailS, flD', bouD, bouS]) hp
    | jn w l =>
      have gen : ∀ l : List Sn, (l.map (Sum.inr (α := Str))).flatMap (flD' bouD b) = (bouT l).map D.str := fun l => by
        induction l with
        | nil => rfl
        | cons s l ih =>
          rw [bouT, List.map_append, ← ih, List.map_cons, List.flatMap_cons]; rfl
      rw [snD_tail b _ hlf] at go ⊢
      cases w <;> simp [size_line, cut_from1, wordS, JnW.str] at go ⊢
      all_goals
        intro p hp
        refine go p [] (by simp) (by simp only [tailS, bouD, bouS, List.nil_append]; exact gen l) hp
end DD
end
section
namespace DD
open PySem PySem.Spec PyProof.Rows L2
/-! ### the law's free names -/
theorem lc_grow {α : Type} {g : DG} {tt : DT} {te : DE} {vs : List Nat} {δ : DSt} {R : DK} {ok : Mem → Prop} {M1 : Mem} (l : List α) (F : α → D) (G : α → Option D) (hl : l.length ≤ sizeLine) (hok : ∀ M p acc, Sub M1 M → M p = none → ok (updM M p (.lst acc)))
    (step : ∀ (t : α) (p : Addr) (acc : List D) (RY : D → Mem → Prop) (RN : Mem → Prop) (M : Mem), t ∈ l → Sub M1 M → M p = none → (∀ y M', G t = some y → Sub (updM M p (.lst acc)) M' → RY y M') → (∀ M', G t = none → Sub (updM M p (.lst acc)) M' → RN M') →
      g (F t) (wipeD δ vs) (updM M p (.lst acc)) fun δ2 M2 => tt δ2 M2 fun b M3 => if b = true then te δ2 M3 RY else RN M3)
    (hR : ∀ p M, M1 p = none → Sub M1 M → M p = none → R (.ref p) (updM M p (.lst (l.filterMap G)))) : LcIn g tt te vs δ R (l.map F) ok M1 := by
  intro p hp
  have grow : ∀ {M M' : Mem} {acc : List D}, Sub M1 M → M p = none → Sub (updM M p (.lst acc)) M' → M' = updM (hideM M' p) p (.lst acc) ∧ Sub M1 (hideM M' p) := fun {M M' acc} h1 h2 h3 => by
    refine ⟨hide_put (h3 p _ updM_same), fun a o z => ?_⟩
    have ap : a ≠ p := fun e => by rw [e, hp] at z; cases z
    rw [hide_ne ap]
    exact h3 a o (by rw [updM_ne ap]; exact h1 a o z)
  refine ⟨fun i acc M => Sub M1 M ∧ M p = none ∧ acc = (l.take i).filterMap G, ⟨Sub.refl _, hp, by simp⟩, ?_, ?_, ?_⟩
  · rintro i acc M ⟨h1, h2, rfl⟩
    exact hok M p _ h1 h2
  · rintro i x acc M hx ⟨h1, h2, rfl⟩
    rw [List.getElem?_map] at hx
    cases ht : l[i]? with
    | none => rw [ht] at hx; cases hx
    | some t =>
      rw [ht] at hx
      cases hx
      have hi : i < l.length := (List.getElem?_eq_some_iff.mp ht).1
      refine ⟨?_, step t p _ _ _ M (List.mem_of_getElem? ht) h1 h2 ?_ ?_⟩
      · have h1 := List.length_filterMap_le G (l.take i)
        rw [List.length_take] at h1
        omega
      · intro y M' hy h3
        obtain ⟨g1, g2⟩ := grow h1 h2 h3
        refine ⟨_, g1, g2, hide_none, ?_⟩
        rw [List.take_add_one, ht, List.filterMap_append]
        simp [hy]
      · intro M' hy h3
        obtain ⟨g1, g2⟩ := grow h1 h2 h3
        refine ⟨_, g1, g2, hide_none, ?_⟩
        rw [List.take_add_one, ht, List.filterMap_append]
        simp [hy]
  · rintro acc M ⟨h1, h2, rfl⟩
    rw [List.length_map, List.take_length]
    exact hR p M hp h1 h2
def usesAny (s : Sn) (k : Nat) : Bool := (latS s).any fun f => usesF f k
def lfk (s : Sn) (k : Nat) (nm : Str) : Bool := !decide (nm ∈ bouS s) && usesAny s k
def lfree (s : Sn) : Nat → List Str → List Str
  | _, [] => []
  | k, n :: ns => (if lfk s k n then [n] else []) ++ lfree s (k + 1) ns
def spLfree (n : Nat) : DSp := fun ds M R => ∃ s, ds = [snD false s] ∧ hS s ≤ n ∧ sizeS s ≤ 100000 ∧ (∀ f ∈ latS s, f.length ≤ 100) ∧ R (.tup ((lfree s 0 nXYZ).map D.str)) M
theorem pl_mos : ∀ l : List Mo, plBs (l.map moD) = true ∧ deps (l.map moD) ≤ 1
  | [] => ⟨rfl, by simp [deps]⟩
  | m :: l => by
    obtain ⟨h1, h2⟩ := pl_mos l
    refine ⟨?_, ?_⟩
    · show (plB (moD m) && plBs (l.map moD)) = true
      rw [h1]; rfl
    · rw [List.map_cons, deps]
      simp [dep, deps]
      omega
theorem lfree_snoc (s : Sn) (n : Str) : ∀ (ns : List Str) (k : Nat), lfree s k (ns ++ [n]) = lfree s k ns ++ (if lfk s (k + ns.length) n then [n] else [])
  | [], k => by simp [lfree]
  | m :: ns, k => by
    rw [List.cons_append, lfree, lfree, lfree_snoc s n ns (k + 1), List.append_assoc]
    have : k + 1 + ns.length = k + (m :: ns).length := by simp; omega
    rw [this]
theorem xyz_at {i : Nat} (h : i < 3) : ∃ c nm, atI (Str.ofString "xyz").cps.toList (i : Int) = some c ∧ nXYZ[i]? = some nm ∧ (⟨#[c]⟩ : Str) = nm := by
  match i, h with
  | 0, _ => exact ⟨_, _, atI_nat (by decide) rfl, rfl, by decide +kernel⟩
  | 1, _ => exact ⟨_, _, atI_nat (by decide) rfl, rfl, by decide +kernel⟩
  | 2, _ => exact ⟨_, _, atI_nat (by decide) rfl, rfl, by decide +kernel⟩
theorem k_l_free (n : Nat) (ds : List D) (M : Mem) (R : DK) (h : spLfree n ds M R) : r_l_free (spGath bouD n) (spGath latD n) (endsF R) (startD N_l_free ds) M := by
  obtain ⟨s, rfl, hh, hs, hf, h⟩ := h
  unfold r_l_free
  simp [size_line]
  refine ⟨false, s, rfl, hh, hs, fun p1 M1 hp1 e1 fr1 => ?_⟩
  intro p2 hp2
  have n21 : p2 ≠ p1 := fun e => by rw [e, e1] at hp2; cases hp2
  have sub1 : Sub M M1 := fun a o z => by rw [fr1 a fun e => by rw [e, hp1] at z; cases z]; exact z
  have hp2M : M p2 = none := Sub.un sub1 hp2
  have atM : ∀ k, k < 3 → ∃ nm, nXYZ[k]? = some nm := fun k hk => ⟨nXYZ[k], List.getElem?_eq_getElem hk⟩
  refine for_in (fun i δ M' => ∃ x3 x4 x5 x6 x7, δ = [some (snD false s), some (.ref p1), some (.ref p2), x3, x4, x5, x6, x7] ∧ M' p1 = some (.lst (bouD false s)) ∧ M' p2 = some (.lst ((lfree s 0 (nXYZ.take i)).map D.str)) ∧ Sub M M') ?_ ?_ ?_ ?_
  · refine ⟨none, none, none, none, none, rfl, by rw [updM_ne n21.symm]; exact e1, updM_same, fun a o z => ?_⟩
    rw [updM_ne fun e => by rw [e, hp2M] at z; cases z]; exact sub1 a o z
  · intros; trivial
  · rintro i x δ M' hx ⟨x3, x4, x5, x6, x7, rfl, e1', e2', sub⟩
    obtain ⟨hi, rfl⟩ := range_at hx
    obtain ⟨c, nm, h1, h2, h3⟩ := xyz_at hi
    have hlen3 : (Str.ofString "xyz").length ≤ sizeLine := by decide +kernel
    have et : nXYZ.take (i + 1) = nXYZ.take i ++ [nm] := by rw [List.take_add_one, h2]; rfl
    have el : lfree s 0 (nXYZ.take (i + 1)) = lfree s 0 (nXYZ.take i) ++ (if lfk s i nm then [nm] else []) := by
      rw [et, lfree_snoc, List.length_take]
      have : min i nXYZ.length = i := by have : nXYZ.length = 3 := rfl
                                         omega
      rw [this, Nat.zero_add]
    rw [el]
    simp [h1, h3, hlen3, e1', bouD, flDs_strs, inFl_strs]
    by_cases hb : nm ∈ bouS s
    · have z : lfk s i nm = false := by simp [lfk, hb]
      simp [hb]
      exact ⟨by simpa [z] using e2', sub⟩
    have hix : ∀ m : Mo, atI [D.int m.1, D.int m.2.1, D.int m.2.2] (i : Int) = some (D.int (mAt m i)) := fun m => by
      match i, hi with
      | 0, _ => exact atI_0
      | 1, _ => exact atI_1
      | 2, _ => exact atI_2
    have cnt : (lfree s 0 (nXYZ.take i)).length ≤ i := by
      have gen : ∀ (ns : List Str) (k : Nat), (lfree s k ns).length ≤ ns.length := fun ns => by
        induction ns with
        | nil => exact fun k => Nat.le_refl _
        | cons n ns ih =>
          intro k
          rw [lfree, List.length_append, List.length_cons]
          have := ih (k + 1)
          split <;> simp <;> omega
      have := gen (nXYZ.take i) 0
      rw [List.length_take] at this
      omega
    simp [hb]
    refine ⟨false, s, rfl, hh, hs, fun p3 M3 hp3 e3 fr3 => ?_⟩
    have n13 : p1 ≠ p3 := fun e => by rw [e, hp3] at e1'; cases e1'
    have n23 : p2 ≠ p3 := fun e => by rw [e, hp3] at e2'; cases e2'
    have sub3 : Sub M' M3 := fun a o z => by rw [fr3 a fun e => by rw [e, hp3] at z; cases z]; exact z
    simp [e3]
    have len := lat_len s
    unfold latD
    refine lc_grow (latS s) (poD false) (fun f => if usesF f i then some (poD false f) else none) (by rw [size_line]; omega) (fun M p acc hS hp => ?_) (fun f p acc RY RN Mx hfm hS hp q1 q2 => ?_) fun p Mx hp hS hpx => ?_
    · have z := hS p3 _ e3
      rw [updM_ne fun e => by rw [← e, z] at hp; cases hp]
      exact z
    · simp [wipeD, poD]
      refine lc_of f tmD (fun t => if 0 < mAt t.1 i then some (moD t.1) else none) (by have := hf f hfm; rw [size_line]; omega) (fun _ _ _ => trivial) (fun t p4 acc4 RY4 RN4 ht hp4 q3 q4 => ?_) fun p4 hp4 => ?_
      · simp [wipeD, hix]
        by_cases z : 0 < mAt t.1 i
        · simp [z] at q3 ⊢; exact q3
        · simp [z] at q4 ⊢; exact q4
      · intro p5 hp5
        obtain ⟨n54, hp5'⟩ := updM_none hp5
        have e5 : f.filterMap (fun t => if 0 < mAt t.1 i then some (moD t.1) else none) = (f.filterMap fun t => if 0 < mAt t.1 i then some t.1 else none).map moD := by
          rw [List.map_filterMap]
          congr 1
          funext t
          split <;> rfl
        rw [e5] at hp5 ⊢
        have pl := pl_mos (f.filterMap fun t => if 0 < mAt t.1 i then some t.1 else none)
        refine gNe_nil (by rw [updM_ne n54.symm]; exact updM_same) updM_same pl.1 (by omega) ?_
        have eu : decide ((f.filterMap fun t => if 0 < mAt t.1 i then some t.1 else none).map moD ≠ []) = usesF f i := by
          unfold usesF
          rw [Bool.eq_iff_iff]
          simp
        rw [eu]
        have sb : Sub (updM Mx p (.lst acc)) (updM (updM (updM Mx p (.lst acc)) p4 (.lst ((f.filterMap fun t => if 0 < mAt t.1 i then some t.1 else none).map moD))) p5 (.lst [])) := (Sub.new hp4).trans (Sub.new hp5)
        cases hu : usesF f i with
        | true => exact q1 _ _ (by simp [hu]; rfl) sb
        | false => exact q2 _ (by simp [hu]) sb
    · have e6 : (latS s).filterMap (fun f => if usesF f i = true then some (poD false f) else none) = ((latS s).filter fun f => usesF f i).map (poD false) := by
        rw [← List.filterMap_eq_filter, List.map_filterMap]
        congr 1
        funext f
        simp [Option.guard]
      rw [e6]
      intro p6 hp6
      obtain ⟨n6, hp6'⟩ := updM_none hp6
      have pl := pl_pos ((latS s).filter fun f => usesF f i)
      refine gNe_nil (by rw [updM_ne n6.symm]; exact updM_same) updM_same pl.1 (by omega) ?_
      have eu : decide (((latS s).filter fun f => usesF f i).map (poD false) ≠ []) = usesAny s i := by
        unfold usesAny
        rw [Bool.eq_iff_iff]
        simp
      rw [eu]
      have sX : Sub M' Mx := sub3.trans hS
      have f1 := sX p1 _ e1'
      have f2 := sX p2 _ e2'
      have a1 : p1 ≠ p := fun e => by rw [e, hpx] at f1; cases f1
      have a2 : p2 ≠ p := fun e => by rw [e, hpx] at f2; cases f2
      have a3 : p1 ≠ p6 := fun e => by rw [e, hp6'] at f1; cases f1
      have a4 : p2 ≠ p6 := fun e => by rw [e, hp6'] at f2; cases f2
      have sF : Sub M (updM (updM Mx p (.lst (((latS s).filter fun f => usesF f i).map (poD false)))) p6 (.lst [])) := ((sub.trans sX).trans (Sub.new hpx)).trans (Sub.new hp6)
      cases hu : usesAny s i with
      | true =>
        have z : lfk s i nm = true := by simp [lfk, hb, hu]
        simp [a1, a2, a3, a4, f1, f2, z, n21.symm, size_line, bouD]
        refine ⟨by omega, fun a o z => ?_⟩
        rw [updM_ne fun e => by rw [e, hp2M] at z; cases z]
        exact sF a o z
      | false =>
        have z : lfk s i nm = false := by simp [lfk, hu]
        simp [a1, a2, a3, a4, f1, f2, z, bouD]
        exact sF
  · rintro δ M' ⟨x3, x4, x5, x6, x7, rfl, e1', e2', sub⟩
    rw [rangeD_length] at e2'
    simp [e2']
    exact ⟨M', Sub.refl _, M, sub, h⟩
end DD
end
section
namespace DD
open PySem PySem.Spec PyProof.Rows L2
/-! ### the law's polynomials -/
def polG (f : Po) : List Po := if isConstF f then [] else [primF f]
def lprims (s : Sn) : List Po := (latS s).flatMap polG
def spLpolys (n : Nat) : DSp := fun ds M R => ∃ s, ds = [snD false s] ∧ hS s ≤ n ∧ sizeS s ≤ 100000 ∧ (∀ f ∈ latS s, PoOk f ∧ (f.map (·.1)).Nodup) ∧ R (polsD (lprims s)) M
theorem ne_mo {M : Mem} {R : DK} {m n : Mo} (h : R (.bl (!decide (m = n))) M) : gNe (moD m) (moD n) M R := by
  refine gNe_pl rfl rfl (by simp [dep, deps]) (by simp [dep, deps]) ?_
  have : decide (moD m = moD n) = decide (m = n) := decide_eq_decide.mpr moD_inj
  rw [this]; exact h
def nzM (f : Po) : List Mo := f.filterMap fun t => if t.1 = (0, 0, 0) then none else some t.1
theorem nzM_const {f : Po} (nd : (f.map (·.1)).Nodup) : decide (nzM f ≠ []) = !isConstF f := by
  match f, nd with
  | [], _ => rfl
  | [(m, c)], _ =>
    unfold nzM isConstF
    by_cases z : m = (0, 0, 0) <;> simp [z]
  | t :: u :: l, nd =>
    have e : isConstF (t :: u :: l) = false := rfl
    rw [e]
    have tu : t.1 ≠ u.1 := fun z => by simp [z] at nd
    have : nzM (t :: u :: l) ≠ [] := by
      unfold nzM
      by_cases z : t.1 = (0, 0, 0)
      · have zu : u.1 ≠ (0, 0, 0) := fun q => tu (z.trans q.symm)
        simp [z, zu]
      · simp [z]
    simpa using this
theorem k_l_polys (n : Nat) (ds : List D) (M : Mem) (R : DK) (h : spLpolys n ds M R) : r_l_polys (spGath latD n) spContent (endsF R) (startD N_l_polys ds) M := by
  obtain ⟨s, rfl, hh, hs, hf, h⟩ := h
  have hlen := lat_len s
  unfold r_l_polys
  simp [size_line]
  intro p1 hp1
  refine ⟨false, s, rfl, hh, hs, fun p3 M1 hp3 e3 fr3 => ?_⟩
  obtain ⟨n31, hp3'⟩ := updM_none hp3
  have e1 : M1 p1 = some (.lst []) := by rw [fr3 p1 n31.symm]; simp
  simp [e3]
  refine for_in (fun i δ M' => ∃ x2 x3 x4 x5 x6, δ = [some (snD false s), some (.ref p1), x2, x3, x4, x5, x6] ∧ M' p1 = some (.lst ((uniq (((latS s).take i).flatMap polG)).map (poD false))) ∧ M' p3 = some (.lst (latD false s)) ∧ Sub M M') ?_ ?_ ?_ ?_
  · refine ⟨none, none, none, none, none, rfl, e1, e3, fun a o z => ?_⟩
    have a1 : a ≠ p1 := fun e => by rw [e, hp1] at z; cases z
    have a3 : a ≠ p3 := fun e => by rw [e, hp3'] at z; cases z
    rw [fr3 a a3, updM_ne a1]; exact z
  · rintro i δ M' _ ⟨x2, x3, x4, x5, x6, rfl, e1', e3', sub⟩
    exact e3'
  · rintro i x δ M' hx ⟨x2, x3, x4, x5, x6, rfl, e1', e3', sub⟩
    unfold latD at hx
    rw [List.getElem?_map] at hx
    cases ht : (latS s)[i]? with
    | none => rw [ht] at hx; cases hx
    | some f =>
      rw [ht] at hx
      cases hx
      obtain ⟨hpo, nd⟩ := hf f (List.mem_of_getElem? ht)
      have htake : (((latS s).take (i + 1)).flatMap polG) = ((latS s).take i).flatMap polG ++ polG f := by
        rw [List.take_add_one, ht]; simp
      rw [htake]
      have hp1M' : ∀ p, M' p = none → p1 ≠ p ∧ p3 ≠ p := fun p hp => ⟨fun e => by { rw [e, hp] at e1'; cases e1' }, fun e => by { rw [e, hp] at e3'; cases e3' }⟩
      have hul : (uniq (((latS s).take i).flatMap polG)).length ≤ 100000 := by
        have q1 := uniq_len (((latS s).take i).flatMap polG)
        have q2 : ∀ L : List Po, (L.flatMap polG).length ≤ L.length := fun L => by
          induction L with
          | nil => exact Nat.le_refl _
          | cons a L ih =>
            rw [List.flatMap_cons, List.length_append, List.length_cons]
            have : (polG a).length ≤ 1 := by unfold polG; split <;> simp
            omega
        have q3 := q2 ((latS s).take i)
        rw [List.length_take] at q3
        omega
      simp [poD]
      refine lc_of f tmD (fun t => if t.1 = (0, 0, 0) then none else some (moD t.1)) (by have := hpo.len; rw [size_line]; omega) (fun _ _ _ => trivial) (fun t p4 acc4 RY4 RN4 ht' hp4 q3 q4 => ?_) fun p4 hp4 => ?_
      · simp [wipeD]
        refine ⟨by decide, ne_mo (n := (0, 0, 0)) ?_⟩
        by_cases z : t.1 = (0, 0, 0)
        · simp [z] at q4 ⊢; exact q4
        · simp [z] at q3 ⊢; exact q3
      · intro p5 hp5
        obtain ⟨n54, hp5'⟩ := updM_none hp5
        have e5 : f.filterMap (fun t => if t.1 = (0, 0, 0) then none else some (moD t.1)) = (nzM f).map moD := by
          unfold nzM
          rw [List.map_filterMap]
          congr 1
          funext t
          split <;> rfl
        rw [e5] at hp5 ⊢
        have pl := pl_mos (nzM f)
        refine gNe_nil (by rw [updM_ne n54.symm]; exact updM_same) updM_same pl.1 (by omega) ?_
        have eu : decide ((nzM f).map moD ≠ []) = !isConstF f := by
          rw [← nzM_const nd]
          exact decide_eq_decide.mpr (by simp)
        rw [eu]
        have sb : Sub M' (updM (updM M' p4 (.lst ((nzM f).map moD))) p5 (.lst [])) := (Sub.new hp4).trans (Sub.new hp5)
        generalize updM (updM M' p4 (.lst ((nzM f).map moD))) p5 (.lst []) = M5 at sb ⊢
        cases hc : isConstF f with
        | true =>
          simp [polG, hc]
          exact ⟨sb p1 _ e1', sb p3 _ e3', sub.trans sb⟩
        | false =>
          have f0 := const_ne hc
          obtain ⟨b0, b1⟩ := by_ok hpo f0
          simp
          refine lc_of f tmD (fun t => some (.int t.2)) (by have := hpo.len; rw [size_line]; omega) (fun _ _ _ => trivial) (fun t p6 acc6 RY6 RN6 ht' hp6 q3 q4 => ?_) fun p6 hp6 => ?_
          · simp [wipeD]
            exact q3 _ rfl
          · have e6 : f.filterMap (fun t => some (D.int t.2)) = (f.map (·.2)).map D.int := by
              rw [List.map_map]; simp
            rw [e6]
            refine ⟨p6, f.map (·.2), rfl, updM_same, fun c hc => ?_, ?_⟩
            · obtain ⟨t, ht', rfl⟩ := List.mem_map.mp hc
              exact (hpo.c t ht').2
            · have sb6 : Sub M' (updM M5 p6 (.lst ((f.map (·.2)).map D.int))) := sb.trans (Sub.new hp6)
              generalize updM M5 p6 (.lst ((f.map (·.2)).map D.int)) = M6 at sb6 ⊢
              rcases List.eq_nil_or_concat f with z | ⟨l, t, hfl⟩
              · exact absurd z f0
              rw [List.concat_eq_append] at hfl
              have hl : (f.map tmD) = l.map tmD ++ [tmD t] := by rw [hfl]; simp
              have hlc : lastC f = t.2 := by rw [hfl]; simp [lastC]
              have tnz := (hpo.c t (by rw [hfl]; simp)).1
              have hb0 := by_ne hpo f0
              have fin : ∀ by' : Int, by' = byF f → ∀ K : DK, (∀ p7, M6 p7 = none → K (.ref p7) (updM M6 p7 (.lst ((primF f).map tmD)))) → LcIn (gUnp 2 (gsCons (gNm 5) (gsCons (gNm 6) gsNil))) tYesD (dTup (aCons (dVar 5) (aCons (dBin gDiv (dVar 6) (dVar 3)) aNil))) [5, 6]
                  [some (snD false s), some (.ref p1), some (.tup (f.map tmD)), some (.int by'), x4, x5, x6] K (f.map tmD) (fun _ => True) M6 := fun by' hby K hK => by
                subst hby
                have dv : ∀ i : Int, DivOk i (byF f) := fun i => div_ok 100 hb0 (by
                  unfold byF
                  split <;> omega) (by omega) (by omega)
                refine lc_of f tmD (fun t => some (tmD (t.1, t.2.fdiv (byF f)))) (by have := hpo.len; rw [size_line]; omega) (fun _ _ _ => trivial) (fun t p7 acc7 RY7 RN7 ht' hp7 q3 q4 => ?_) fun p7 hp7 => ?_
                · simp [wipeD, dv]
                  exact ⟨by decide, q3 _ rfl⟩
                · have e7 : f.filterMap (fun t => some (tmD (t.1, t.2.fdiv (byF f)))) = (primF f).map tmD := by
                    unfold primF
                    rw [List.map_map]; simp
                  rw [e7]
                  exact hK p7 hp7
              have hat : atI (f.map tmD) (-1) = some (tmD t) := by rw [hl]; exact atI_last
              have ex : uniq (((latS s).take i).flatMap polG ++ polG f) = if primF f ∈ uniq (((latS s).take i).flatMap polG) then uniq (((latS s).take i).flatMap polG) else uniq (((latS s).take i).flatMap polG) ++ [primF f] := by
                have : polG f = [primF f] := by simp [polG, hc]
                rw [this, uniq_step]
                by_cases hq : primF f ∈ uniq (((latS s).take i).flatMap polG)
                · rw [if_pos hq, if_pos hq]
                · rw [if_neg hq, if_neg hq]
              rw [ex]
              generalize uniq (((latS s).take i).flatMap polG) = U at e1' hul ⊢
              have plU := pl_pos U
              have plF := pl_po (primF f)
              have dm : decide (poD false (primF f) ∈ U.map (poD false)) = decide (primF f ∈ U) := by
                refine decide_eq_decide.mpr ⟨fun hm => ?_, fun hm => List.mem_map.mpr ⟨_, hm, rfl⟩⟩
                obtain ⟨g, hg, e⟩ := List.mem_map.mp hm
                rw [← poD_inj.mp e]; exact hg
              simp [hat]
              split
              all_goals
                refine fin _ (by unfold byF; rw [hlc]; first | (rw [if_neg (by omega)]) | (rw [if_pos (by omega)])) _ fun p7 hp7 => ?_
                have f1 := sb6 p1 _ e1'
                have f3 := sb6 p3 _ e3'
                have n17 : p1 ≠ p7 := fun e => by rw [e, hp7] at f1; cases f1
                have n37 : p3 ≠ p7 := fun e => by rw [e, hp7] at f3; cases f3
                have sf : Sub M (updM M6 p7 (.lst ((primF f).map tmD))) := (sub.trans sb6).trans (Sub.new hp7)
                simp
                refine ⟨_, Sub.refl _, ?_⟩
                simp [n17, f1]
                refine gNotIn_pl (x := poD false (primF f)) (by rw [updM_ne n17]; exact f1) plF.1 plU.1 (by omega) (by omega) ?_
                rw [dm]
                by_cases hm : primF f ∈ U
                · simp [hm, n17, n37, f1, f3]
                  exact sf
                · simp [hm, n17, n37, f1, f3, n31, size_line]
                  refine ⟨by omega, by simp [poD], fun a o z => ?_⟩
                  rw [updM_ne fun e => by rw [e, hp1] at z; cases z]
                  exact sf a o z
  · rintro δ M' ⟨x2, x3, x4, x5, x6, rfl, e1', e3', sub⟩
    unfold latD at e1'
    rw [List.length_map, List.take_length] at e1'
    simp
    have hne : ∀ f ∈ uniq (lprims s), f ≠ [] := fun f hf => by
      rw [uniq_mem] at hf
      obtain ⟨g, hg, hf⟩ := List.mem_flatMap.mp hf
      cases hc : isConstF g with
      | true => simp [polG, hc] at hf
      | false =>
        simp [polG, hc] at hf
        rw [hf]
        exact prim_ne (const_ne hc)
    have hul : (uniq (lprims s)).length ≤ 100000 := by
      have q1 := uniq_len (lprims s)
      have q2 : ∀ L : List Po, (L.flatMap polG).length ≤ L.length := fun L => by
        induction L with
        | nil => exact Nat.le_refl _
        | cons a L ih =>
          rw [List.flatMap_cons, List.length_append, List.length_cons]
          have : (polG a).length ≤ 1 := by unfold polG; split <;> simp
          omega
      have q3 := q2 (latS s)
      unfold lprims at *
      omega
    obtain ⟨s1, s2, s3, s4⟩ := sort_pos hne
    refine sortA_lst e1' s1 s2 s3 s4 (by rw [List.length_map, size_line]; exact Nat.le_trans hul (by decide)) fun p hp => ?_
    simp
    exact ⟨_, Sub.refl _, M, sub.trans (Sub.new hp), h⟩
end DD
end
section
set_option exponentiation.threshold 5000
namespace DD
open PySem PySem.Spec PyProof.Rows L2
/-! ### the law's worth -/
theorem mul_step {tn td X Y c a b n' d' : Int} (h1 : tn * Y = c * X * td) (h2 : n' * (td * b) = tn * a * d') (h0 : 0 < td) : n' * (Y * b) = c * (X * a) * d' := by
  refine Int.eq_of_mul_eq_mul_left (show td ≠ 0 by omega) ?_
  have e1 : td * (n' * (Y * b)) = (n' * (td * b)) * Y := by ac_rfl
  have e2 : td * (c * (X * a) * d') = (c * X * td) * (a * d') := by ac_rfl
  rw [e1, e2, h2, ← h1]
  ac_rfl
theorem add_step {n d tn td V Vt B n' d' : Int} (h1 : n * B = V * d) (h2 : tn * B = Vt * td) (h3 : n' * (d * td) = (n * td + tn * d) * d') (hd : 0 < d) (ht : 0 < td) : n' * B = (V + Vt) * d' := by
  have hdt : d * td ≠ 0 := by have := Int.mul_pos hd ht; omega
  refine Int.eq_of_mul_eq_mul_left hdt ?_
  have e1 : d * td * (n' * B) = (n' * (d * td)) * B := by ac_rfl
  rw [e1, h3]
  have e2 : (n * td + tn * d) * d' * B = (n * B) * (td * d') + (tn * B) * (d * d') := by
    rw [Int.add_mul, Int.add_mul]
    congr 1 <;> ac_rfl
  rw [e2, h1, h2, Int.add_mul, Int.mul_add]
  congr 1 <;> ac_rfl
theorem sign_of {n V B d : Int} (h : n * B = V * d) (hB : 0 < B) (hd : 0 < d) : n.sign = V.sign := by
  have := congrArg Int.sign h
  rw [Int.sign_mul, Int.sign_mul, Int.sign_eq_one_of_pos hB, Int.sign_eq_one_of_pos hd] at this
  simpa using this
/-- places with small fractions -/
def PlS (p : Pl) : Prop := ∀ k, (plAt p k).1.natAbs < 2 ^ 4 ∧ (plAt p k).2.natAbs < 2 ^ 4 ∧ 0 < (plAt p k).2
structure WoOk (f : Po) : Prop where
  len : f.length ≤ 4
  pw : PwOk f
  c : ∀ t ∈ f, t.2.natAbs < 2 ^ 4
def pX (p : Pl) (m : Mo) : Nat → Int
  | 0 => 1
  | k + 1 => pX p m k * (plAt p k).1 ^ (mAt m k).toNat
def pY (p : Pl) (m : Mo) : Nat → Int
  | 0 => 1
  | k + 1 => pY p m k * (plAt p k).2 ^ (mAt m k).toNat
def spLworth : DSp := fun ds M R => ∃ f p, ds = [poD false f, plD p] ∧ WoOk f ∧ PlS p ∧ ∀ n : Int, n.sign = (valF f p).sign → R (.int n) M
def bAll (f : Po) (p : Pl) : Int := p.1.2 ^ (hiF f 0).toNat * p.2.1.2 ^ (hiF f 1).toNat * p.2.2.2 ^ (hiF f 2).toNat
def vT (f : Po) (p : Pl) (t : Mo × Int) : Int := t.2 * powN p.1 (hiF f 0).toNat t.1.1 * powN p.2.1 (hiF f 1).toNat t.1.2.1 * powN p.2.2 (hiF f 2).toNat t.1.2.2
/-- the fraction of a term, brought to the common denominator -/
theorem term_all {f : Po} {p : Pl} {t : Mo × Int} (hw : PwOk f) (ht : t ∈ f) {tn td : Int} (h : tn * pY p t.1 3 = t.2 * pX p t.1 3 * td) : tn * bAll f p = vT f p t * td := by
  have sp : ∀ (q : Int) (h i : Int), 0 ≤ i → i ≤ h → q ^ h.toNat = q ^ i.toNat * q ^ (h.toNat - i.toNat) := fun q h i h0 h1 => by
    rw [← Int.pow_add]; congr 1; omega
  obtain ⟨n0, n1, n2⟩ := hw.nn t ht
  have m0 := (hi_le hw 0).2.2 t ht
  have m1 := (hi_le hw 1).2.2 t ht
  have m2 := (hi_le hw 2).2.2 t ht
  obtain ⟨⟨i, j, k⟩, c⟩ := t
  simp [mAt] at m0 m1 m2 n0 n1 n2
  simp only [pY, pX, plAt, mAt] at h
  unfold bAll vT powN
  rw [sp _ _ _ n0 m0, sp _ _ _ n1 m1, sp _ _ _ n2 m2]
  simp only
  generalize p.1.2 ^ ((hiF f 0).toNat - i.toNat) = u
  generalize p.2.1.2 ^ ((hiF f 1).toNat - j.toNat) = v
  generalize p.2.2.2 ^ ((hiF f 2).toNat - k.toNat) = w
  generalize p.1.2 ^ i.toNat = a at *
  generalize p.2.1.2 ^ j.toNat = b at *
  generalize p.2.2.2 ^ k.toNat = d at *
  generalize p.1.1 ^ i.toNat = x at *
  generalize p.2.1.1 ^ j.toNat = y at *
  generalize p.2.2.1 ^ k.toNat = z at *
  have e1 : tn * (a * u * (b * v) * (d * w)) = tn * (1 * a * b * d) * (u * v * w) := by rw [Int.one_mul]; ac_rfl
  have e2 : c * (x * u) * (y * v) * (z * w) * td = c * (1 * x * y * z) * td * (u * v * w) := by rw [Int.one_mul]; ac_rfl
  rw [e1, e2, h]
theorem k_l_worth (ds : List D) (M : Mem) (R : DK) (h : spLworth ds M R) : r_l_worth spLmul spLadd (endsF R) (startD N_l_worth ds) M := by
  obtain ⟨f, p, rfl, hf, hp, h⟩ := h
  unfold r_l_worth
  simp [size_line, poD]
  refine for_in (fun i δ M' => M' = M ∧ ∃ (n d : Int) (x3 x4 x5 x6 x7 : Option D), δ = [some (.tup (f.map tmD)), some (plD p), some (.tup [.int n, .int d]), x3, x4, x5, x6, x7] ∧ 0 < d ∧ n.natAbs < 2 ^ (50 * i + 1) ∧ d.natAbs < 2 ^ (50 * i + 1) ∧ n * bAll f p = ((f.take i).map (vT f p)).sum * d) ?_ ?_ ?_ ?_
  · exact ⟨rfl, 0, 1, none, none, none, none, none, rfl, by decide, by decide, by decide, by simp⟩
  · intros; trivial
  · rintro i x δ M' hx ⟨rfl, n, d, x3, x4, x5, x6, x7, rfl, d0, bn, bd, he⟩
    rw [List.getElem?_map] at hx
    cases ht : f[i]? with
    | none => rw [ht] at hx; cases hx
    | some t =>
      rw [ht] at hx
      cases hx
      have htm := List.mem_of_getElem? ht
      have hi : i < 4 := by have := (List.getElem?_eq_some_iff.mp ht).1; have := hf.len; omega
      have hmi : ∀ k : Nat, k < 3 → atI [D.int t.1.1, D.int t.1.2.1, D.int t.1.2.2] (k : Int) = some (D.int (mAt t.1 k)) := fun k hk => by
        match k, hk with
        | 0, _ => exact atI_0
        | 1, _ => exact atI_1
        | 2, _ => exact atI_2
      have hpi : ∀ k : Nat, k < 3 → atI [frD' p.1, frD' p.2.1, frD' p.2.2] (k : Int) = some (frD' (plAt p k)) := fun k hk => by
        match k, hk with
        | 0, _ => exact atI_0
        | 1, _ => exact atI_1
        | 2, _ => exact atI_2
      have hmb : ∀ k : Nat, 0 ≤ mAt t.1 k ∧ mAt t.1 k ≤ 3 := fun k => by
        obtain ⟨a0, a1, a2⟩ := hf.pw.nn t htm
        obtain ⟨b0, b1, b2⟩ := hf.pw.le t htm
        match k with
        | 0 => exact ⟨a0, b0⟩
        | 1 => exact ⟨a1, b1⟩
        | k + 2 => exact ⟨a2, b2⟩
      have up : ∀ {x : Int} {a b : Nat}, x.natAbs < 2 ^ a → a ≤ b → x.natAbs < 2 ^ b := fun h hab => Nat.lt_of_lt_of_le h (Nat.pow_le_pow_right (by decide) hab)
      simp
      refine ⟨by decide, ?_⟩
      refine for_in (fun k δ M'' => M'' = M' ∧ ∃ (tn td : Int) (x6 x7 : Option D), δ = [some (.tup (f.map tmD)), some (plD p), some (.tup [.int n, .int d]), some (moD t.1), some (.int t.2), some (.tup [.int tn, .int td]), x6, x7] ∧ 0 < td ∧ tn.natAbs < 2 ^ (4 * (3 * k + 1)) ∧ td.natAbs < 2 ^ (4 * (3 * k + 1)) ∧ tn * pY p t.1 k = t.2 * pX p t.1 k * td) ?_ ?_ ?_ ?_
      · exact ⟨rfl, t.2, 1, x6, x7, rfl, by decide, hf.c t htm, by decide, by simp [pX, pY]⟩
      · intros; trivial
      · rintro k x δ M'' hx ⟨rfl, tn, td, y6, y7, rfl, td0, btn, btd, het⟩
        obtain ⟨hk, rfl⟩ := range_at hx
        obtain ⟨hk0, hk3⟩ := hmb k
        simp [hmi k hk]
        refine ⟨by omega, ?_⟩
        refine for_in (fun r δ M3 => M3 = M'' ∧ ∃ (tn td : Int) (x7 : Option D), δ = [some (.tup (f.map tmD)), some (plD p), some (.tup [.int n, .int d]), some (moD t.1), some (.int t.2), some (.tup [.int tn, .int td]), some (.int k), x7] ∧ 0 < td ∧ tn.natAbs < 2 ^ (4 * (3 * k + 1 + r)) ∧ td.natAbs < 2 ^ (4 * (3 * k + 1 + r)) ∧ tn * (pY p t.1 k * (plAt p k).2 ^ r) = t.2 * (pX p t.1 k * (plAt p k).1 ^ r) * td) ?_ ?_ ?_ ?_
        · exact ⟨rfl, tn, td, y7, rfl, td0, btn, btd, by simpa using het⟩
        · intros; trivial
        · rintro r x δ M3 hx ⟨rfl, sn, sd, z7, rfl, sd0, bsn, bsd, hes⟩
          obtain ⟨hr, rfl⟩ := range_at hx
          obtain ⟨q1, q2, q3⟩ := hp k
          simp [hpi k hk]
          refine ⟨sn, sd, (plAt p k).1, (plAt p k).2, rfl, sd0, q3, up bsn (by omega), up bsd (by omega), up q1 (by omega), up q2 (by omega), fun n' m' hfr => ?_⟩
          obtain ⟨g0, g1, g2, g3⟩ := hfr
          have w1 := mul_bd bsn q1
          have w2 := mul_bd bsd q2
          refine ⟨rfl, n', m', rfl, g0, ?_, ?_, ?_⟩
          · exact Nat.lt_of_le_of_lt g2 (by rw [show 4 * (3 * k + 1 + (r + 1)) = 4 * (3 * k + 1 + r) + 4 by omega]; exact w1)
          · exact Nat.lt_of_le_of_lt g3 (by rw [show 4 * (3 * k + 1 + (r + 1)) = 4 * (3 * k + 1 + r) + 4 by omega]; exact w2)
          · have e := mul_step hes g1 sd0
            rw [Int.pow_succ, Int.pow_succ]
            simp only [Int.mul_assoc] at e ⊢
            exact e
        · rintro δ M3 ⟨rfl, sn, sd, z7, rfl, sd0, bsn, bsd, hes⟩
          rw [rangeD_length] at bsn bsd hes
          exact ⟨rfl, sn, sd, ⟨_, _, rfl⟩, sd0, up bsn (by omega), up bsd (by omega), hes⟩
      · rintro δ M'' ⟨rfl, tn, td, y6, y7, rfl, td0, btn, btd, het⟩
        rw [rangeD_length] at btn btd het
        have hall := term_all hf.pw htm het
        simp
        refine ⟨n, d, tn, td, rfl, d0, td0, up bn (by omega), up bd (by omega), up btn (by omega), up btd (by omega), fun n' m' hfr => ?_⟩
        obtain ⟨g0, g1, g2, g3⟩ := hfr
        have w1 := mul_bd bn btd
        have w2 := mul_bd btn bd
        have w3 := mul_bd bd btd
        have w4 : (n * td + tn * d).natAbs < 2 ^ (50 * i + 1 + 40 + 1) := add_bits w1 (by rw [Nat.add_comm (50 * i + 1) 40]; exact w2)
        refine ⟨rfl, n', m', rfl, g0, up (Nat.lt_of_le_of_lt g2 w4) (by omega), up (Nat.lt_of_le_of_lt g3 w3) (by omega), ?_⟩
        have es : ((f.map (vT f p)).take (i + 1)).sum = ((f.take i).map (vT f p)).sum + vT f p t := by
          rw [List.take_add_one, List.getElem?_map, ht, List.sum_append, List.map_take]
          simp
        rw [es]
        exact add_step he hall g1 d0 td0
  · rintro δ M' ⟨rfl, n, d, x3, x4, x5, x6, x7, rfl, d0, bn, bd, he⟩
    simp
    rw [List.length_map, List.take_length] at he
    have hB : 0 < bAll f p := Int.mul_pos (Int.mul_pos (Int.pow_pos (hp 0).2.2) (Int.pow_pos (hp 1).2.2)) (Int.pow_pos (hp 2).2.2)
    exact ret_same (h n (sign_of he hB d0))
end DD
end
section
set_option exponentiation.threshold 5000
namespace DD
open PySem PySem.Spec PyProof.Rows L2
/-! ### the law's own truth -/
theorem eqV_bb {a b : Bool} : eqV (.bl a) (.bl b) = decide (a = b) := by
  unfold eqV
  exact Bool.eq_iff_iff.mpr (by cases a <;> cases b <;> simp)
theorem inFl_bls (b : Bool) : ∀ ns : List Bool, inFl (.bl b) (ns.map V.bl) = decide (b ∈ ns)
  | [] => rfl
  | n :: ns => by
    rw [List.map_cons, inFl_cons, inFl_bls b ns, eqV_bb]
    by_cases e : n = b
    · simp [e]
    · simp [e, Ne.symm e]
def trV (p : Pl) (w : AtW) (f : Po) : Bool := holdsW w (valF f p).sign
def spLholds (n : Nat) : DSp := fun ds M R => ∃ s p, ds = [snD false s, plD p] ∧ noOv s = true ∧ hS s ≤ n ∧ sizeS s ≤ 100000 ∧ (∀ w f, Sn.at w f ∈ innerS s → WoOk f) ∧ PlS p ∧ R (.bl (evalS (trV p) s)) M
theorem k_l_holds (n : Nat) (sp : DSp) (hsp : ∀ m, n = m + 1 → sp = spLholds m) (ds : List D) (M : Mem) (R : DK) (h : spLholds n ds M R) : r_l_holds sp spLworth (endsF R) (startD N_l_holds ds) M := by
  obtain ⟨s, p, rfl, hno, hh, hs, hw, hp, h⟩ := h
  unfold r_l_holds
  have sg : ∀ n v : Int, n.sign = v.sign → (n < 0 ↔ v < 0) ∧ (n ≤ 0 ↔ v ≤ 0) ∧ (n = 0 ↔ v = 0) := fun n v e => by
    rcases Int.lt_trichotomy n 0 with z | z | z <;> rcases Int.lt_trichotomy v 0 with y | y | y
    all_goals first
      | omega
      | (exfalso
         first | rw [Int.sign_eq_neg_one_of_neg z] at e | rw [Int.sign_eq_one_of_pos z] at e | (subst z; rw [Int.sign_zero] at e)
         first | rw [Int.sign_eq_neg_one_of_neg y] at e | rw [Int.sign_eq_one_of_pos y] at e | (subst y; rw [Int.sign_zero] at e)
         omega)
  cases s with
  | «at» w f =>
    have hf := hw w f (by simp [innerS])
    cases w <;> simp [snD, AtW.str, size_line] <;> refine ⟨f, p, rfl, hf, hp, fun n hn => ?_⟩ <;> obtain ⟨s1, s2, s3⟩ := sg n _ hn <;> simp [evalS, trV, holdsW] at h ⊢ <;> first | (rw [decide_eq_decide.mpr s1]; exact ret_same h) | (rw [decide_eq_decide.mpr s2]; exact ret_same h) | (rw [decide_eq_decide.mpr s3]; exact ret_same h)
  | cst v => cases v <;> simp [snD, cstStr, size_line] <;> simp [evalS] at h <;> exact ret_same h
  | neg s =>
    rw [hS] at hh
    obtain ⟨m, rfl⟩ : ∃ m, n = m + 1 := ⟨n - 1, by omega⟩
    cases hsp m rfl
    rw [sizeS] at hs
    simp [snD, size_line]
    refine ⟨s, p, rfl, hno, by omega, by omega, fun w f hf => hw w f (by rw [innerS]; exact List.mem_cons_of_mem _ hf), hp, ?_⟩
    simp [evalS] at h ⊢
    exact ret_same h
  | jn w l =>
    rw [hS] at hh
    obtain ⟨m, rfl⟩ : ∃ m, n = m + 1 := ⟨n - 1, by omega⟩
    cases hsp m rfl
    rw [sizeS] at hs
    have hl : ∀ t ∈ l, noOv t = true ∧ hS t ≤ m ∧ sizeS t ≤ 100000 ∧ ∀ w f, Sn.at w f ∈ innerS t → WoOk f := fun t ht => by
      have h1 := hSs_mem ht
      have h2 := size_mem ht
      exact ⟨noOvs_mem hno ht, by omega, by omega, fun w' f hf => hw w' f (inner_part (s := .jn w l) ht hf)⟩
    have comp : ∀ (w' : Str) (x2 x3 x4 : Option D) (K : DK), (∀ p1, M p1 = none → K (.ref p1) (updM M p1 (.lst ((l.map (evalS (trV p))).map D.bl)))) → LcIn (gNm 3) tYesD (dCall (spLholds m) (aCons (dVar 3) (aCons (dVar 1) aNil))) [3] [some (.tup (.str w' :: l.map (snD false))), some (plD p), x2, x3, x4] K (l.map (snD false)) (fun _ => True) M := fun w' x2 x3 x4 K hK => by
      refine lc_of l (snD false) (fun t => some (.bl (evalS (trV p) t))) ?_ (fun _ _ _ => trivial) (fun t p1 acc RY RN ht hp1 q1 q2 => ?_) fun p1 hp1 => ?_
      · have : ∀ l : List Sn, l.length ≤ sizesS l := fun l => by
          induction l with
          | nil => exact Nat.le_refl _
          | cons s l ih => rw [List.length_cons, sizesS]; have := size_pos s; omega
        have := this l
        rw [size_line]; omega
      · obtain ⟨a1, a2, a3, a4⟩ := hl t ht
        simp [wipeD]
        exact ⟨t, p, rfl, a1, a2, a3, a4, hp, q1 _ rfl⟩
      · have e : l.filterMap (fun t => some (D.bl (evalS (trV p) t))) = (l.map (evalS (trV p))).map D.bl := by rw [List.map_map]; simp
        rw [e]
        exact hK p1 hp1
    cases w
    all_goals
      simp [snD, snDs_map, JnW.str, size_line, cut_from1]
      refine comp _ _ _ _ _ fun p1 hp1 => ?_
      rw [evalS] at h
      first | rw [evalAll_eq] at h | rw [evalAny_eq] at h
      generalize l.map (evalS (trV p)) = bs at h ⊢
      simp [flDs_bls, inFl_bls]
      refine ⟨M, Sub.new hp1, ?_⟩
      have e1 : (!decide (false ∈ bs)) = bs.all id := by
        rw [Bool.eq_iff_iff]
        simp
      have e2 : decide (true ∈ bs) = bs.any id := by
        rw [Bool.eq_iff_iff]
        simp
      first
        | (rw [e1]; exact h)
        | (rw [e2]; exact h)
  | ov w x s => cases hno
end DD
end
section
set_option exponentiation.threshold 5000
namespace DD
open PySem PySem.Spec PyProof.Rows L2
/-! ### the law's places -/
def FrS (q : Fr) : Prop := q.1.natAbs < 2 ^ 4 ∧ q.2.natAbs < 2 ^ 4 ∧ 0 < q.2
theorem plS_mk {a b c : Fr} (ha : FrS a) (hb : FrS b) (hc : FrS c) : PlS (a, b, c) := fun k => by
  match k with
  | 0 => exact ha
  | 1 => exact hb
  | k + 2 => exact hc
theorem pairs_tm : ∀ f : Po, pairsD (f.map tmD) = some (tmT f)
  | [] => rfl
  | t :: f => by
    rw [List.map_cons]
    show (pairsD (f.map tmD)).map ((moD t.1, D.int t.2) :: ·) = _
    rw [pairs_tm f]; rfl
theorem put_all : ∀ (f h : Po), ((h ++ f).map (·.1)).Nodup → putAll (tmT h) (tmT f) = tmT (h ++ f)
  | [], h, _ => by rw [List.append_nil]; rfl
  | t :: f, h, nd => by
    show putAll (putD' (tmT h) (moD t.1) (.int t.2)) (tmT f) = _
    have e : putD' (tmT h) (moD t.1) (.int t.2) = tmT (h ++ [t]) := by
      rcases getK_tm t.1 h with ⟨u, hu, h1, h2⟩ | ⟨h1, h2⟩
      · exfalso
        rw [List.map_append] at nd
        have := (List.nodup_append.mp nd).2.2 u.1 (List.mem_map.mpr ⟨u, hu, rfl⟩) t.1 (by simp)
        exact this h1
      · rw [put_new h2]; simp [tmT]
    rw [e, put_all f (h ++ [t]) (by simpa using nd)]
    simp
def oneAt (k j : Int) : Int := if j = k then 1 else 0
theorem range3 : rangeD 0 3 = ([0, 1, 2] : List Int).map D.int := rfl
theorem get_of {f : Po} (hc : ∀ t ∈ f, t.2.natAbs ≤ 9) (m : Mo) : ∃ v : Int, (getK (tmT f) (moD m)).getD (.int 0) = .int v ∧ v.natAbs ≤ 9 ∧ (v ≠ 0 → getK (tmT f) (moD m) = some (.int v)) := by
  rcases getK_tm m f with ⟨t, ht, h1, h2⟩ | ⟨h1, h2⟩
  · exact ⟨t.2, by rw [h2]; rfl, hc t ht, fun _ => h2⟩
  · exact ⟨0, by rw [h2]; rfl, by decide, fun z => absurd rfl z⟩
def spLplaces (n : Nat) : DSp := fun ds M R => ∃ (b g c : Addr) (N : Nat) (s : Sn), ds = [.ref b, snD true s] ∧ Bag M b g c N ∧ N + 1000 ≤ 2 ^ 40 ∧ hS s ≤ n ∧ sizeS s ≤ 100000 ∧ (∀ f ∈ latS s, f.length ≤ 4 ∧ (f.map (·.1)).Nodup ∧ ∀ t ∈ f, t.2.natAbs ≤ 9) ∧
  ∀ ps : List Pl, (∀ p ∈ ps, PlS p) → ps.length ≤ 100 → NewBL b g c (N + 100) M (ps.map plD) R
theorem k_l_places (n : Nat) (ds : List D) (M : Mem) (R : DK) (h : spLplaces n ds M R) : r_l_places spLfr spDraw (spGath latD n) (endsF R) (startD N_l_places ds) M := by
  obtain ⟨b, g, c, N, s, rfl, hB, hN, hh, hs, hf, h⟩ := h
  unfold r_l_places
  simp [size_line]
  intro p hp
  obtain ⟨pb, pg, pc⟩ := hB.ne hp
  have fr0 : FrS (0, 1) := ⟨by decide, by decide, by decide⟩
  refine for_in (fun i δ M' => ∃ (ps : List Pl) (x3 x4 x5 x6 x7 x8 : Option D), δ = [some (.ref b), some (snD true s), some (.ref p), x3, x4, x5, x6, x7, x8] ∧ M' p = some (.lst (ps.map plD)) ∧ (∀ q ∈ ps, PlS q) ∧ ps.length = i + 1 ∧ Bag M' b g c (N + 6 * i) ∧ SubBut b g M M') ?_ ?_ ?_ ?_
  · refine ⟨[((0, 1), (0, 1), (0, 1))], none, none, none, none, none, none, rfl, updM_same, fun q hq => ?_, rfl, hB.put pb pg pc, fun a o _ _ z => ?_⟩
    · rw [List.mem_singleton.mp hq]; exact plS_mk fr0 fr0 fr0
    · rw [updM_ne fun e => by rw [e, hp] at z; cases z]; exact z
  · intros; trivial
  · rintro i x δ M' hx ⟨ps, x3, x4, x5, x6, x7, x8, rfl, ep, hps, hlen, hB', sub⟩
    obtain ⟨hi, rfl⟩ := range_at hx
    simp [ep]
    intro p3 hp3
    obtain ⟨p3b, p3g, p3c⟩ := hB'.ne hp3
    have np3 : p ≠ p3 := fun e => by rw [e, hp3] at ep; cases ep
    refine ⟨fun j acc M2 => ∃ qs : List Fr, acc = qs.map frD' ∧ qs.length = j ∧ (∀ q ∈ qs, FrS q) ∧ Bag M2 b g c (N + 6 * i + 2 * j) ∧ SubBut b g M' M2 ∧ M2 p3 = none, ⟨[], rfl, rfl, fun q hq => absurd hq List.not_mem_nil, hB', .refl _, hp3⟩, ?_, ?_, ?_⟩
    · intros; trivial
    · rintro j x acc M2 hx2 ⟨qs, rfl, hl2, hqs, hB2, sub2, h3⟩
      obtain ⟨hj, rfl⟩ := range_at hx2
      simp [wipeD, size_line]
      refine ⟨by omega, b, g, c, N + 6 * i + 2 * j, 13, rfl, hB2.put p3b p3g p3c, by omega, by omega, by omega, fun y M4 y0 y1 hB4 hS4 => ?_⟩
      simp
      refine ⟨b, g, c, N + 6 * i + 2 * j + 1, 3, rfl, hB4, by omega, by omega, by omega, fun z M5 z0 z1 hB5 hS5 => ?_⟩
      simp
      refine ⟨y - 6, 1 + z, rfl, by omega, Nat.lt_of_lt_of_le (show (y - 6).natAbs < 2 ^ 4 by omega) (Nat.pow_le_pow_right (by decide) (by decide)), Nat.lt_of_lt_of_le (show (1 + z).natAbs < 2 ^ 4 by omega) (Nat.pow_le_pow_right (by decide) (by decide)), fun n' d' hfr => ?_⟩
      obtain ⟨g0, g1, g2, g3⟩ := hfr
      have sb : SubBut b g (updM M2 p3 (.lst (qs.map frD'))) M5 := (SubBut.of_same hS4).trans (.of_same hS5)
      refine ⟨hideM M5 p3, hide_put (sb p3 _ p3b p3g updM_same), qs ++ [(n', d')], by simp, by simp [hl2], fun q1' q2' hq => ?_, (hB5.un p3b p3g p3c).mono (by omega), fun a o w1 w2 w => ?_, hide_none⟩
      · rcases List.mem_append.mp hq with hq | hq
        · exact hqs _ hq
        · rw [List.mem_singleton.mp hq]; exact ⟨by show n'.natAbs < 2 ^ 4; omega, by show d'.natAbs < 2 ^ 4; omega, g0⟩
      · have a3 : a ≠ p3 := fun e => by rw [e, hp3] at w; cases w
        rw [hide_ne a3]
        refine sb a o w1 w2 ?_
        rw [updM_ne a3]; exact sub2 a o w1 w2 w
    · rintro acc M2 ⟨qs, rfl, hl2, hqs, hB2, sub2, h3⟩
      obtain ⟨u, v, w, rfl⟩ : ∃ u v w, qs = [u, v, w] := by
        match qs, hl2 with
        | [u, v, w], _ => exact ⟨u, v, w, rfl⟩
      have e2 := sub2 p _ pb pg ep
      have hp3M : M p3 = none := sub.none p3b p3g hp3
      simp
      refine ⟨_, Sub.refl _, ?_⟩
      simp [np3, e2, size_line]
      refine ⟨by omega, ps ++ [(u, v, w)], by simp, fun a1 b1 a2 b2 a3 b3 hq => ?_, by simp [hlen], (((hB2.put p3b p3g p3c).put pb pg pc)).mono (by rw [rangeD_length]; omega), fun a o w1 w2 w' => ?_⟩
      · rcases List.mem_append.mp hq with hq | hq
        · exact hps _ hq
        · rw [List.mem_singleton.mp hq]
          exact plS_mk (hqs u (by simp)) (hqs v (by simp)) (hqs w (by simp))
      · have a1 : a ≠ p := fun e => by rw [e, hp] at w'; cases w'
        have a2 : a ≠ p3 := fun e => by rw [e, hp3M] at w'; cases w'
        rw [updM_ne a1, updM_ne a2]
        exact sub2 a o w1 w2 (sub a o w1 w2 w')
  · rintro δ M' ⟨ps, x3, x4, x5, x6, x7, x8, rfl, ep, hps, hlen, hB', sub⟩
    rw [rangeD_length] at hlen hB'
    simp
    refine ⟨true, s, rfl, hh, hs, fun p9 M9 hp9 e9 fr9 => ?_⟩
    have n9 : p ≠ p9 := fun e => by rw [e, hp9] at ep; cases ep
    obtain ⟨p9b, p9g, p9c⟩ := hB'.ne hp9
    have sub9 : Sub M' M9 := fun a o z => by rw [fr9 a fun e => by rw [e, hp9] at z; cases z]; exact z
    have hB9 : Bag M9 b g c (N + 6 * 5) := hB'.frame (fr9 b p9b.symm) (fr9 g p9g.symm) (fr9 c p9c.symm)
    simp [e9]
    intro p10 hp10
    obtain ⟨p10b, p10g, p10c⟩ := hB9.ne hp10
    have hp10M' : M' p10 = none := Sub.un sub9 hp10
    have n10 : p ≠ p10 := fun e => by rw [e, hp10M'] at ep; cases ep
    have ec : cutD (latD true s) none (some 3) = ((latS s).take 3).map (poD true) := by
      unfold latD
      match latS s with
      | [] => rfl
      | [a] => rfl
      | [a, b] => rfl
      | a :: b :: c :: l => exact cut_to (by decide) (by simp; omega)
    rw [ec] at *
    have hsub10 : Sub M' (updM M9 p10 (.lst (((latS s).take 3).map (poD true)))) := sub9.trans (Sub.new hp10)
    have hB10 : Bag (updM M9 p10 (.lst (((latS s).take 3).map (poD true)))) b g c (N + 6 * 5) := hB9.put p10b p10g p10c
    have e10 : (updM M9 p10 (.lst (((latS s).take 3).map (poD true)))) p10 = some (.lst (((latS s).take 3).map (poD true))) := updM_same
    generalize updM M9 p10 (.lst (((latS s).take 3).map (poD true))) = M10 at hsub10 hB10 e10 ⊢
    have ef : ∀ f ∈ (latS s).take 3, f.length ≤ 4 ∧ (f.map (·.1)).Nodup ∧ ∀ t ∈ f, t.2.natAbs ≤ 9 := fun f hm => hf f (List.mem_of_mem_take hm)
    have el : ((latS s).take 3).length ≤ 3 := by rw [List.length_take]; omega
    generalize (latS s).take 3 = fs at *
    refine for_in (fun i δ M2 => ∃ (ps : List Pl) (x3 x4 x5 x6 x7 x8 : Option D), δ = [some (.ref b), some (snD true s), some (.ref p), x3, x4, x5, x6, x7, x8] ∧ M2 p = some (.lst (ps.map plD)) ∧ M2 p10 = some (.lst (fs.map (poD true))) ∧ (∀ q ∈ ps, PlS q) ∧ ps.length ≤ 6 + 3 * i ∧ Bag M2 b g c (N + 30) ∧ SubBut b g M M2) ?_ ?_ ?_ ?_
    · exact ⟨ps, x3, x4, x5, x6, x7, x8, rfl, hsub10 p _ ep, e10, hps, by omega, hB10, fun a o w1 w2 w => hsub10 a o (sub a o w1 w2 w)⟩
    · rintro i δ M2 _ ⟨ps, x3, x4, x5, x6, x7, x8, rfl, q1, q2, _⟩
      exact q2
    · rintro i x δ M2 hx ⟨ps, x3, x4, x5, x6, x7, x8, rfl, q1, q2, q3, q4, q5, q6⟩
      rw [List.getElem?_map] at hx
      cases ht : fs[i]? with
      | none => rw [ht] at hx; cases hx
      | some f =>
        rw [ht] at hx
        cases hx
        have hi : i < 3 := by have := (List.getElem?_eq_some_iff.mp ht).1; omega
        obtain ⟨f1, f2, f3⟩ := ef f (List.mem_of_getElem? ht)
        simp [poD]
        refine for_in (fun k δ M3 => ∃ (ps : List Pl) (x3 x4 x6 x7 x8 : Option D), δ = [some (.ref b), some (snD true s), some (.ref p), x3, x4, some (.pup (f.map tmD)), x6, x7, x8] ∧ M3 p = some (.lst (ps.map plD)) ∧ M3 p10 = some (.lst (fs.map (poD true))) ∧ (∀ q ∈ ps, PlS q) ∧ ps.length ≤ 6 + 3 * i + k ∧ Bag M3 b g c (N + 30) ∧ SubBut b g M M3) ?_ ?_ ?_ ?_
        · exact ⟨ps, x3, x4, x6, x7, x8, rfl, q1, q2, q3, q4, q5, q6⟩
        · intros; trivial
        · rintro k x δ M3 hx3 ⟨ps, y3, y4, y6, y7, y8, rfl, r1, r2, r3, r4, r5, r6⟩
          obtain ⟨hk, rfl⟩ := range_at hx3
          simp
          rw [range3]
          refine lc_of ([0, 1, 2] : List Int) D.int (fun j => some (.int (oneAt k j))) (by decide) (fun _ _ _ => trivial) (fun j p11 acc RY RN hj hp11 w1 w2 => ?_) fun p11 hp11 => ?_
          · have w1 := w1 _ rfl
            simp [wipeD]
            by_cases z : j = k
            · simp [z, oneAt] at w1 ⊢; exact w1
            · simp [z, oneAt] at w1 ⊢; exact w1
          · have tk : ∀ (a b : D), (a, b) ∈ tmT f → isTk a = true := fun a b hm => by
              obtain ⟨t, _, e⟩ := List.mem_map.mp hm
              cases e; rfl
            have pa : putAll [] (tmT f) = tmT f := put_all f [] (by simpa using f2)
            obtain ⟨b11, g11, c11⟩ := r5.ne hp11
            have hpe : ([0, 1, 2] : List Int).filterMap (fun j => some (D.int (oneAt k j))) = [.int (oneAt k 0), .int (oneAt k 1), .int (oneAt k 2)] := rfl
            rw [hpe]
            simp [pairs_tm]
            refine ⟨_, Sub.new hp11, fun a b hm => tk a b hm, fun p12 hp12 => ?_⟩
            rw [pa]
            obtain ⟨b12, g12, c12⟩ := r5.ne hp12
            have n12 : p ≠ p12 := fun e => by rw [e, hp12] at r1; cases r1
            have n1012 : p10 ≠ p12 := fun e => by rw [e, hp12] at r2; cases r2
            have hp12M : M p12 = none := r6.none b12 g12 hp12
            have n10p : p10 ≠ p := fun e => n10 e.symm
            have k1 : KeyOk (tmT f) (D.tup [.int (oneAt k 0), .int (oneAt k 1), .int (oneAt k 2)]) := key_tm (oneAt k 0, oneAt k 1, oneAt k 2) f
            have k0 : KeyOk (tmT f) (D.tup [.int 0, .int 0, .int 0]) := key_tm (0, 0, 0) f
            obtain ⟨v, v1, v2, v3⟩ := get_of f3 (oneAt k 0, oneAt k 1, oneAt k 2)
            obtain ⟨w, w1, w2, w3⟩ := get_of f3 (0, 0, 0)
            have v1 : (getK (tmT f) (D.tup [.int (oneAt k 0), .int (oneAt k 1), .int (oneAt k 2)])).getD (.int 0) = .int v := v1
            have v3 : v ≠ 0 → getK (tmT f) (D.tup [.int (oneAt k 0), .int (oneAt k 1), .int (oneAt k 2)]) = some (.int v) := v3
            have w1 : (getK (tmT f) (D.tup [.int 0, .int 0, .int 0])).getD (.int 0) = .int w := w1
            rw [v1]
            refine ⟨k1, ?_⟩
            simp
            have bag12 : Bag (updM M3 p12 (.dct (tmT f))) b g c (N + 30) := r5.put b12 g12 c12
            have sub12 : SubBut b g M (updM M3 p12 (.dct (tmT f))) := fun a o z1 z2 z => by
              rw [updM_ne fun e => by rw [e, hp12M] at z; cases z]; exact r6 a o z1 z2 z
            by_cases hv : v = 0
            · simp [hv, n12, n1012, r1, r2]
              exact ⟨ps, rfl, fun _ _ _ _ _ _ hq => r3 _ hq, by omega, bag12, sub12⟩
            · have v3 := v3 hv
              simp [hv, k1, k0, w1, v3, n12, r1]
              refine ⟨by decide, -w, v, rfl, hv, Nat.lt_of_lt_of_le (show (-w).natAbs < 2 ^ 4 by omega) (Nat.pow_le_pow_right (by decide) (by decide)), Nat.lt_of_lt_of_le (show v.natAbs < 2 ^ 4 by omega) (Nat.pow_le_pow_right (by decide) (by decide)), fun n' d' hfr => ?_⟩
              obtain ⟨g0, g1, g2, g3⟩ := hfr
              have fq : FrS (n', d') := ⟨by show n'.natAbs < 2 ^ 4; omega, by show d'.natAbs < 2 ^ 4; omega, g0⟩
              have r1' : (updM M3 p12 (.dct (tmT f))) p = some (.lst (ps.map plD)) := by rw [updM_ne n12]; exact r1
              have r2' : (updM M3 p12 (.dct (tmT f))) p10 = some (.lst (fs.map (poD true))) := by rw [updM_ne n1012]; exact r2
              simp [n12, r1]
              generalize updM M3 p12 (.dct (tmT f)) = M12 at bag12 sub12 r1' r2' ⊢
              have fe : ∀ j : Int, FrS (if j = k then (n', d') else (0, 1)) := fun j => by split; exact fq; exact fr0
              refine lc_of ([0, 1, 2] : List Int) D.int (fun j : Int => some (frD' (if j = (k : Int) then (n', d') else (0, 1)))) (by decide) (fun _ _ _ => trivial) (fun j p13 acc RY RN hj hp13 w1 w2 => ?_) fun p13 hp13 => ?_
              · have w1 := w1 _ rfl
                simp [wipeD]
                by_cases z : j = k
                · simp [z] at w1 ⊢; exact w1
                · simp [z] at w1 ⊢; exact ⟨by decide, w1⟩
              · obtain ⟨b13, g13, c13⟩ := bag12.ne hp13
                have n13 : p ≠ p13 := fun e => by rw [e, hp13] at r1'; cases r1'
                have n1013 : p10 ≠ p13 := fun e => by rw [e, hp13] at r2'; cases r2'
                have hp13M : M p13 = none := sub12.none b13 g13 hp13
                have e3 : ([0, 1, 2] : List Int).filterMap (fun j : Int => some (frD' (if j = k then (n', d') else (0, 1)))) = [frD' (if (0 : Int) = k then (n', d') else (0, 1)), frD' (if (1 : Int) = k then (n', d') else (0, 1)), frD' (if (2 : Int) = k then (n', d') else (0, 1))] := rfl
                rw [e3]
                have f0 := fe 0
                have f1 := fe 1
                have f2 := fe 2
                generalize (if (0 : Int) = k then (n', d') else (0, 1)) = qa at *
                generalize (if (1 : Int) = k then (n', d') else (0, 1)) = qb at *
                generalize (if (2 : Int) = k then (n', d') else (0, 1)) = qc at *
                simp
                refine ⟨_, Sub.refl _, ?_⟩
                simp [n13, n1013, n10p, r1', r2', size_line]
                refine ⟨by omega, ps ++ [(qa, qb, qc)], by simp, fun _ _ _ _ _ _ hq => ?_, by simp; omega, (bag12.put b13 g13 c13).put pb pg pc, fun a o z1 z2 z => ?_⟩
                · rcases List.mem_append.mp hq with hq | hq
                  · exact r3 _ hq
                  · rw [List.mem_singleton.mp hq]; exact plS_mk f0 f1 f2
                · have a1 : a ≠ p := fun e => by rw [e, hp] at z; cases z
                  have a2 : a ≠ p13 := fun e => by rw [e, hp13M] at z; cases z
                  rw [updM_ne a1, updM_ne a2]; exact sub12 a o z1 z2 z
        · rintro δ M3 ⟨ps, y3, y4, y6, y7, y8, rfl, r1, r2, r3, r4, r5, r6⟩
          rw [rangeD_length] at r4
          exact ⟨⟨_, _, _, _, _, _, rfl⟩, ps, r1, r2, fun _ _ _ _ _ _ hq => r3 _ hq, by omega, r5, r6⟩
    · rintro δ M2 ⟨ps, x3, x4, x5, x6, x7, x8, rfl, q1, q2, q3, q4, q5, q6⟩
      rw [List.length_map] at q4
      simp
      refine ret_same (h ps q3 (by omega) p M2 hp pb pg pc q1 (q5.mono (by omega)) q6)
end DD
end
section
set_option exponentiation.threshold 5000
namespace DD
open PySem PySem.Spec PyProof.Rows L2
/-! ### the plain law: polynomials -/
theorem filt_pol (l : List Sn) : (l.filter isAtS).flatMap polF = l.flatMap polF := by
  induction l with
  | nil => rfl
  | cons s l ih =>
    rw [List.filter_cons]
    cases s <;> simp [isAtS, polF, ih]
mutual
theorem prims_lat : ∀ s : Sn, (innerS s).flatMap polF = lprims s
  | .at w f => by simp [innerS, lprims, latS, polF, polG]
  | .cst v => by simp [innerS, lprims, latS, polF]
  | .neg s => by
    have := prims_lat s
    rw [innerS, List.flatMap_cons, this]; simp [lprims, latS, polF]
  | .jn w l => by
    have := prims_latT l
    rw [innerS, List.flatMap_cons, this]; simp [lprims, latS, polF]
  | .ov w x s => by
    have := prims_lat s
    rw [innerS, List.flatMap_cons, this]; simp [lprims, latS, polF]
theorem prims_latT : ∀ l : List Sn, (innersS l).flatMap polF = (latT l).flatMap polG
  | [] => rfl
  | s :: l => by
    have h1 := prims_lat s
    have h2 := prims_latT l
    rw [innersS, List.flatMap_append, h1, h2, latT, List.flatMap_append]; rfl
end
theorem prims_eq (s : Sn) : primsS s = lprims s := by
  unfold primsS atomsS
  rw [filt_pol, prims_lat]
/-! what the atoms are -/
mutual
theorem lat_inner : ∀ (s : Sn) (f : Po), f ∈ latS s ↔ ∃ w, Sn.at w f ∈ innerS s
  | .at w f, g => by simp [latS, innerS]
  | .cst v, g => by simp [latS, innerS]
  | .neg s, g => by simp [latS, innerS, lat_inner s g]
  | .jn w l, g => by simp [latS, innerS, latT_inner l g]
  | .ov w x s, g => by simp [latS, innerS, lat_inner s g]
theorem latT_inner : ∀ (l : List Sn) (f : Po), f ∈ latT l ↔ ∃ w, Sn.at w f ∈ innersS l
  | [], g => by simp [latT, innersS]
  | s :: l, g => by
    simp [latT, innersS, lat_inner s g, latT_inner l g]
    constructor
    · rintro (⟨w, h⟩ | ⟨w, h⟩)
      · exact ⟨w, .inl h⟩
      · exact ⟨w, .inr h⟩
    · rintro ⟨w, h | h⟩
      · exact .inl ⟨w, h⟩
      · exact .inr ⟨w, h⟩
end
mutual
theorem wf_lat : ∀ (s : Sn) (op bd : List Str), WfS op bd s → ∀ f ∈ latS s, ∃ op', LpOk op' f
  | .at w f, op, bd, h, g, hg => by
    simp [latS] at hg
    subst hg
    exact ⟨op, h⟩
  | .cst v, op, bd, h, g, hg => by simp [latS] at hg
  | .neg s, op, bd, h, g, hg => wf_lat s op bd h g hg
  | .jn w l, op, bd, h, g, hg => wf_latT l op bd h.2 g hg
  | .ov w x s, op, bd, h, g, hg => by
    obtain ⟨rest, _, h⟩ := h
    exact wf_lat s _ rest h g hg
theorem wf_latT : ∀ (l : List Sn) (op bd : List Str), WfT op bd l → ∀ f ∈ latT l, ∃ op', LpOk op' f
  | [], op, bd, h, g, hg => by simp [latT] at hg
  | s :: l, op, bd, h, g, hg => by
    rw [latT] at hg
    rcases List.mem_append.mp hg with hg | hg
    · exact wf_lat s op bd h.1 g hg
    · exact wf_latT l op [] h.2 g hg
end
theorem lp_po {op : List Str} {f : Po} (h : LpOk op f) : PoOk f ∧ PwOk f ∧ WoOk f :=
  ⟨⟨by have := h.len; omega, fun t ht => ⟨(h.c t ht).1, by have := (h.c t ht).2; omega⟩⟩, ⟨h.nn, h.le⟩, ⟨h.len, ⟨h.nn, h.le⟩, fun t ht => by have := (h.c t ht).2; omega⟩⟩
end DD
end
section
set_option exponentiation.threshold 5000
namespace DD
open PySem PySem.Spec PyProof.Rows L2
/-! ### the plain law: signs -/
theorem hi_prim (f : Po) (k : Nat) : hiF (primF f) k = hiF f k := by
  unfold hiF primF
  rw [List.map_map]; rfl
theorem val_prim {f : Po} (h : PoOk f) (h0 : f ≠ []) (p : Pl) : valF (primF f) p * byF f = valF f p := by
  unfold valF
  rw [hi_prim, hi_prim, hi_prim]
  generalize (hiF f 0).toNat = a
  generalize (hiF f 1).toNat = b
  generalize (hiF f 2).toNat = c
  have gen : ∀ l : Po, (∀ t ∈ l, t ∈ f) → ((l.map fun t => (t.1, t.2.fdiv (byF f))).map fun t => t.2 * powN p.1 a t.1.1 * powN p.2.1 b t.1.2.1 * powN p.2.2 c t.1.2.2).sum * byF f = (l.map fun t => t.2 * powN p.1 a t.1.1 * powN p.2.1 b t.1.2.1 * powN p.2.2 c t.1.2.2).sum := fun l => by
    induction l with
    | nil => intro _; simp
    | cons t l ih =>
      intro hl
      have e := prim_mul h h0 (hl t List.mem_cons_self)
      have i := ih fun u hu => hl u (List.mem_cons_of_mem _ hu)
      simp only [List.map_cons, List.sum_cons, Int.add_mul, i]
      congr 1
      have e2 : t.2.fdiv (byF f) * powN p.1 a t.1.1 * powN p.2.1 b t.1.2.1 * powN p.2.2 c t.1.2.2 * byF f = (t.2.fdiv (byF f) * byF f) * powN p.1 a t.1.1 * powN p.2.1 b t.1.2.1 * powN p.2.2 c t.1.2.2 := by ac_rfl
      rw [e2, e]
  exact gen f fun t ht => ht
theorem sgn_val {f : Po} (h : PoOk f) (p : Pl) : sgnBy (fun g => (valF g p).sign) f = (valF f p).sign := by
  unfold sgnBy
  cases hc : isConstF f with
  | false =>
    simp only [Bool.false_eq_true, if_false]
    rw [← val_prim h (const_ne hc) p, Int.sign_mul, Int.mul_comm]
  | true =>
    simp only [if_true]
    match f, hc with
    | [], _ => rfl
    | [(m, c)], hc =>
      have : m = (0, 0, 0) := by simpa [isConstF] using hc
      subst this
      simp [valF, constF, hiF, mAt, powN]
mutual
theorem eval_congr (t u : AtW → Po → Bool) : ∀ s : Sn, (∀ w f, Sn.at w f ∈ innerS s → t w f = u w f) → evalS t s = evalS u s
  | .at w f, h => h w f (by simp [innerS])
  | .cst v, h => rfl
  | .neg s, h => by
    have := eval_congr t u s fun w f hf => h w f (by rw [innerS]; exact List.mem_cons_of_mem _ hf)
    rw [evalS, evalS, this]
  | .jn .and l, h => by
    have := eval_congrT t u l fun w f hf => h w f (by rw [innerS]; exact List.mem_cons_of_mem _ hf)
    rw [evalS, evalS, this.1]
  | .jn .or l, h => by
    have := eval_congrT t u l fun w f hf => h w f (by rw [innerS]; exact List.mem_cons_of_mem _ hf)
    rw [evalS, evalS, this.2]
  | .ov w x s, h => rfl
theorem eval_congrT (t u : AtW → Po → Bool) : ∀ l : List Sn, (∀ w f, Sn.at w f ∈ innersS l → t w f = u w f) → evalAll' t l = evalAll' u l ∧ evalAny' t l = evalAny' u l
  | [], h => ⟨rfl, rfl⟩
  | s :: l, h => by
    have h1 := eval_congr t u s fun w f hf => h w f (by rw [innersS]; exact List.mem_append_left _ hf)
    have h2 := eval_congrT t u l fun w f hf => h w f (by rw [innersS]; exact List.mem_append_right _ hf)
    exact ⟨by rw [evalAll', evalAll', h1, h2.1], by rw [evalAny', evalAny', h1, h2.2]⟩
end
theorem eval_same {s : Sn} (h : PosOk s) (p : Pl) : evalS (trS fun f => (valF f p).sign) s = evalS (trV p) s :=
  eval_congr _ _ s fun w f hf => by unfold trS trV; rw [sgn_val (h w f hf)]
end DD
end
section
set_option exponentiation.threshold 5000
namespace DD
open PySem PySem.Spec PyProof.Rows L2
/-! ### the plain law: free names -/
mutual
theorem free_H : ∀ (s : Sn) (H : List Str) (n : Str), n ∈ H → n ∉ freeH H s
  | .at w f, H, n, h => by simp [freeH, h]
  | .cst v, H, n, h => by simp [freeH]
  | .neg s, H, n, h => by rw [freeH]; exact free_H s H n h
  | .jn w l, H, n, h => by rw [freeH]; exact free_HT l H n h
  | .ov w x s, H, n, h => by rw [freeH]; exact free_H s _ n (List.mem_append_left _ h)
theorem free_HT : ∀ (l : List Sn) (H : List Str) (n : Str), n ∈ H → n ∉ freesH H l
  | [], H, n, h => by simp [freesH]
  | s :: l, H, n, h => by
    rw [freesH, List.mem_append]
    rintro (q | q)
    · exact free_H s H n h q
    · exact free_HT l H n h q
end
mutual
theorem free_A : ∀ (s : Sn) (H : List Str) (n : Str), n ∉ bouS s → (n ∈ freeH H s ↔ n ∉ H ∧ ∃ f ∈ latS s, n ∈ namesF f)
  | .at w f, H, n, h => by simp [freeH, latS]; exact And.comm
  | .cst v, H, n, h => by simp [freeH, latS]
  | .neg s, H, n, h => by rw [freeH, latS]; exact free_A s H n h
  | .jn w l, H, n, h => by rw [freeH, latS]; exact free_AT l H n h
  | .ov w x s, H, n, h => by
    rw [bouS, List.mem_cons, not_or] at h
    rw [freeH, latS, free_A s _ n h.2]
    simp [h.1]
theorem free_AT : ∀ (l : List Sn) (H : List Str) (n : Str), n ∉ bouT l → (n ∈ freesH H l ↔ n ∉ H ∧ ∃ f ∈ latT l, n ∈ namesF f)
  | [], H, n, h => by simp [freesH, latT]
  | s :: l, H, n, h => by
    rw [bouT, List.mem_append, not_or] at h
    rw [freesH, latT, List.mem_append, free_A s H n h.1, free_AT l H n h.2]
    constructor
    · rintro (⟨a, f, hf, b⟩ | ⟨a, f, hf, b⟩)
      · exact ⟨a, f, List.mem_append_left _ hf, b⟩
      · exact ⟨a, f, List.mem_append_right _ hf, b⟩
    · rintro ⟨a, f, hf, b⟩
      rcases List.mem_append.mp hf with hf | hf
      · exact .inl ⟨a, f, hf, b⟩
      · exact .inr ⟨a, f, hf, b⟩
end
theorem names_op {op : List Str} {f : Po} (h : LpOk op f) {n : Str} (hn : n ∈ namesF f) : n ∈ op := by
  by_cases z : n ∈ op
  · exact z
  exfalso
  have no : ∀ k, usesF f k = true → ∃ t ∈ f, 0 < mAt t.1 k := fun k hk => by
    unfold usesF at hk
    obtain ⟨t, ht, q⟩ := List.any_eq_true.mp hk
    exact ⟨t, ht, by simpa using q⟩
  unfold namesF at hn
  simp only [List.mem_append] at hn
  rcases hn with (hn | hn) | hn
  · split at hn
    · rename_i hk
      obtain ⟨t, ht, q⟩ := no 0 hk
      simp at hn
      subst hn
      have := h.x z t ht
      simp [mAt] at q; omega
    · simp at hn
  · split at hn
    · rename_i hk
      obtain ⟨t, ht, q⟩ := no 1 hk
      simp at hn
      subst hn
      have := h.y z t ht
      simp [mAt] at q; omega
    · simp at hn
  · split at hn
    · rename_i hk
      obtain ⟨t, ht, q⟩ := no 2 hk
      simp at hn
      subst hn
      have := h.z z t ht
      simp [mAt] at q; omega
    · simp at hn
mutual
theorem free_B : ∀ (s : Sn) (op bd H : List Str) (n : Str), WfS op bd s → n ∉ op → n ∉ freeH H s
  | .at w f, op, bd, H, n, h, hn => by
    rw [freeH]
    intro q
    exact hn (names_op h (List.mem_filter.mp q).1)
  | .cst v, op, bd, H, n, h, hn => by simp [freeH]
  | .neg s, op, bd, H, n, h, hn => by rw [freeH]; exact free_B s op bd H n h hn
  | .jn w l, op, bd, H, n, h, hn => by rw [freeH]; exact free_BT l op bd H n h.2 hn
  | .ov w x s, op, bd, H, n, h, hn => by
    rw [freeH]
    obtain ⟨rest, _, h⟩ := h
    by_cases z : n = x
    · exact free_H s _ n (by simp [z])
    · exact free_B s _ rest _ n h (by simp [hn, z])
theorem free_BT : ∀ (l : List Sn) (op bd H : List Str) (n : Str), WfT op bd l → n ∉ op → n ∉ freesH H l
  | [], op, bd, H, n, h, hn => by simp [freesH]
  | s :: l, op, bd, H, n, h, hn => by
    rw [freesH, List.mem_append]
    rintro (q | q)
    · exact free_B s op bd H n h.1 hn q
    · exact free_BT l op [] H n h.2 hn q
end
mutual
theorem bou_bd : ∀ (s : Sn) (op bd : List Str) (n : Str), WfS op bd s → n ∈ bouS s → n ∈ bd
  | .at w f, op, bd, n, h, hn => by simp [bouS] at hn
  | .cst v, op, bd, n, h, hn => by simp [bouS] at hn
  | .neg s, op, bd, n, h, hn => bou_bd s op bd n h hn
  | .jn w l, op, bd, n, h, hn => bou_bdT l op bd n h.2 hn
  | .ov w x s, op, bd, n, h, hn => by
    obtain ⟨rest, rfl, h⟩ := h
    rw [bouS] at hn
    rcases List.mem_cons.mp hn with rfl | hn
    · exact List.mem_cons_self
    · exact List.mem_cons_of_mem _ (bou_bd s _ rest n h hn)
theorem bou_bdT : ∀ (l : List Sn) (op bd : List Str) (n : Str), WfT op bd l → n ∈ bouT l → n ∈ bd
  | [], op, bd, n, h, hn => by simp [bouT] at hn
  | s :: l, op, bd, n, h, hn => by
    rw [bouT] at hn
    rcases List.mem_append.mp hn with hn | hn
    · exact bou_bd s op bd n h.1 hn
    · exact absurd (bou_bdT l op [] n h.2 hn) List.not_mem_nil
end
theorem names_at (f : Po) {k : Nat} {n : Str} (h : nXYZ[k]? = some n) : n ∈ namesF f ↔ usesF f k = true := by
  match k, h with
  | 0, h => simp [nXYZ] at h; subst h; unfold namesF; cases usesF f 0 <;> cases usesF f 1 <;> cases usesF f 2 <;> decide +kernel
  | 1, h => simp [nXYZ] at h; subst h; unfold namesF; cases usesF f 0 <;> cases usesF f 1 <;> cases usesF f 2 <;> decide +kernel
  | 2, h => simp [nXYZ] at h; subst h; unfold namesF; cases usesF f 0 <;> cases usesF f 1 <;> cases usesF f 2 <;> decide +kernel
  | k + 3, h => simp [nXYZ] at h
theorem lfk_free {s : Sn} {op bd : List Str} (h : WfS op bd s) (dis : ∀ n ∈ bd, n ∉ op) {k : Nat} {n : Str} (hk : nXYZ[k]? = some n) : lfk s k n = decide (n ∈ freeH [] s) := by
  unfold lfk
  by_cases hb : n ∈ bouS s
  · have := free_B s op bd [] n h (dis n (bou_bd s op bd n h hb))
    simp [hb, this]
  · have e := free_A s [] n hb
    simp [hb]
    rw [Bool.eq_iff_iff, decide_eq_true_eq, e]
    unfold usesAny
    rw [List.any_eq_true]
    simp [names_at _ hk]
theorem lfree_eq {s : Sn} {op bd : List Str} (h : WfS op bd s) (dis : ∀ n ∈ bd, n ∉ op) : lfree s 0 nXYZ = nXYZ.filter fun n => decide (n ∈ freeH [] s) := by
  have e0 := lfk_free h dis (k := 0) (n := "x") rfl
  have e1 := lfk_free h dis (k := 1) (n := "y") rfl
  have e2 := lfk_free h dis (k := 2) (n := "z") rfl
  simp only [nXYZ, lfree, List.filter_cons, List.filter_nil, e0, e1, e2]
  cases decide (("x" : Str) ∈ freeH [] s) <;> cases decide (("y" : Str) ∈ freeH [] s) <;> cases decide (("z" : Str) ∈ freeH [] s) <;> simp
end DD
end
section
set_option exponentiation.threshold 5000
namespace DD
open PySem PySem.Spec PyProof.Rows L2
/-! ### the law on its drawn rows -/
theorem free_or (s : Sn) : (nXYZ.filter fun n => decide (n ∈ freeH [] (.jn .or [s, .neg s]))) = nXYZ.filter fun n => decide (n ∈ freeH [] s) := by
  refine List.filter_congr fun n _ => ?_
  simp [freeH, freesH]
theorem uniq_dbl {α : Type} [DecidableEq α] (l : List α) : uniq (l ++ l) = uniq l := by
  have gen : ∀ (l acc : List α), (∀ x ∈ l, x ∈ acc) → l.foldl (fun acc x => if x ∈ acc then acc else acc ++ [x]) acc = acc := fun l => by
    induction l with
    | nil => intro acc _; rfl
    | cons a l ih =>
      intro acc h
      rw [List.foldl_cons, if_pos (h a List.mem_cons_self)]
      exact ih acc fun x hx => h x (List.mem_cons_of_mem _ hx)
  unfold uniq
  rw [List.foldl_append]
  exact gen _ _ fun x hx => (uniq_mem x l).mpr hx
theorem lprims_or (s : Sn) : polsD (lprims (.jn .or [s, .neg s])) = polsD (lprims s) := by
  have e : lprims (.jn .or [s, .neg s]) = lprims s ++ lprims s := by simp [lprims, latS, latT]
  have this := uniq_dbl (lprims s)
  unfold polsD
  rw [e, this]
theorem eval_rev (t : AtW → Po → Bool) (w : JnW) (l : List Sn) : evalS t (.jn w l.reverse) = evalS t (.jn w l) := by
  cases w
  · rw [evalS, evalS, evalAll_eq, evalAll_eq, List.map_reverse]; simp
  · rw [evalS, evalS, evalAny_eq, evalAny_eq, List.map_reverse]; simp
end DD
end
section
set_option exponentiation.threshold 5000
namespace DD
open PySem PySem.Spec PyProof.Rows L2
/-! ### one turn of the law -/
def spTold (P : Addr) : DSp := fun ds M R => ∃ (b g c : Addr) (N : Nat) (v : Bool), ds = [.ref b, .bl v] ∧ Bag M b g c N ∧ N + 2000000 ≤ 2 ^ 40 ∧ M P = some .tbl ∧ P ≠ b ∧ P ≠ g ∧
  ∀ M', Bag M' b g c (N + 2000000) → M' P = some .tbl → SubBut b g M M' → R (.bl true) M'
theorem some_told {b g c : Addr} {N : Nat} {M : Mem} {v : Bool} {K : DK} (hB : Bag M b g c N) (hN : N + 1000 ≤ 2 ^ 40)
    (hK : ∀ (ys : List Str) (p : Addr) (M' : Mem), ys.Perm nXYZ → M p = none → p ≠ b → p ≠ g → p ≠ c → M' p = some (.lst (ys.map D.str)) → Bag M' b g c (N + 3) → SubBut b g M M' → K (.ref p) M') :
    (dCall spSome (aCons (dVar 0) (aCons (dLst (aCons (dC (.str "x")) (aCons (dC (.str "y")) (aCons (dC (.str "z")) (aNil))))) (aCons (dC (.int 3)) (aNil)))))
      [some (.ref b), some (.bl v), none, none, none, none, none, none, none, none] M K := by
  simp [size_line]
  intro q hq
  obtain ⟨qb, qg, qc⟩ := hB.ne hq
  refine ⟨b, g, c, q, N, nXYZ.map D.str, rfl, hB.put qb qg qc, hN, updM_same, by decide, qb, qg, qc, fun ys pm p M' hp pb pg pc e hB' sub => ?_⟩
  obtain ⟨zs, rfl, hz⟩ : ∃ zs : List Str, ys = zs.map D.str ∧ zs.Perm nXYZ := by
    let un : D → Str := fun d => match d with
      | .str z => z
      | _ => "x"
    have back : ∀ L : List D, (∀ x ∈ L, ∃ z, x = D.str z) → L = (L.map un).map D.str := fun L => by
      induction L with
      | nil => exact fun _ => rfl
      | cons x L ih =>
        intro h
        obtain ⟨z, rfl⟩ := h _ List.mem_cons_self
        rw [List.map_cons, List.map_cons, ← ih fun y hy => h y (List.mem_cons_of_mem _ hy)]
    refine ⟨ys.map un, back ys fun x hx => ?_, ?_⟩
    · obtain ⟨z, _, rfl⟩ := List.mem_map.mp (pm.mem_iff.mp hx)
      exact ⟨z, rfl⟩
    · have := pm.map un
      simpa [List.map_map, Function.comp_def, un] using this
  obtain ⟨npq, hpM⟩ := updM_none hp
  refine hK zs p M' hz hpM pb pg pc e hB' fun a o z1 z2 z => ?_
  refine sub a o z1 z2 ?_
  rw [updM_ne fun e => by rw [e, hq] at z; cases z]; exact z
theorem perm_facts {ys : List Str} (h : ys.Perm nXYZ) (k : Nat) : (ys.take k).length + (ys.drop k).length ≤ 3 ∧ (∀ a ∈ ys.take k, a ∈ nXYZ) ∧ (∀ a ∈ ys.drop k, a ∈ nXYZ) ∧ ∀ a ∈ ys.drop k, a ∉ ys.take k := by
  have nd : ys.Nodup := h.nodup_iff.mpr (by decide +kernel)
  have e := List.take_append_drop k ys
  have hl := h.length_eq
  have hl3 : nXYZ.length = 3 := rfl
  refine ⟨?_, fun a ha => h.mem_iff.mp (List.mem_of_mem_take ha), fun a ha => h.mem_iff.mp (List.mem_of_mem_drop ha), fun a h1 h2 => ?_⟩
  · rw [← List.length_append, e]; omega
  · rw [← e] at nd
    exact (List.nodup_append.mp nd).2.2 a h2 a h1 rfl
end DD
end
section
set_option exponentiation.threshold 5000
namespace DD
open PySem PySem.Spec PyProof.Rows L2
theorem st_asg {e : DE} {i : Nat} {rest : DS} {E : DEnds} {δ : DSt} {M : Mem} (h : e δ M fun d M1 => rest E (δ.set i (some d)) M1) : sSeq (sAsg e (gNm i)) rest E δ M := h
theorem st_if {c : DT} {t u rest : DS} {E : DEnds} {δ : DSt} {M : Mem} (h : c δ M fun b M1 => if b = true then t { E with nx := rest E } δ M1 else u { E with nx := rest E } δ M1) : sSeq (sIf c t u) rest E δ M := h
theorem draw_c {b g c : Addr} {N : Nat} {M : Mem} {m : Int} {δ : DSt} {K : DK} (hB : Bag M b g c N) (hN : N ≤ 2 ^ 40) (h0 : 0 < m) (h1 : m < 2 ^ 200) (hδ : δ[0]? = some (some (.ref b)))
    (hK : ∀ x M', 0 ≤ x → x < m → Bag M' b g c (N + 1) → SameBut b g M M' → K (.int x) M') : (dCall spDraw (aCons (dVar 0) (aCons (dC (.int m)) aNil))) δ M K := by
  simp [hδ]
  exact ⟨b, g, c, N, m, rfl, hB, hN, h0, h1, hK⟩
theorem cut_drop {xs : List D} {k : Int} (h0 : 0 ≤ k) (h1 : k ≤ xs.length) : cutD xs (some k) none = xs.drop k.toNat := by
  unfold cutD HT.sIx
  have : ¬ k < 0 := by omega
  have m : min k.toNat xs.length = k.toNat := Nat.min_eq_left (by omega)
  simp [this, m]
  exact List.take_of_length_le (by simp)
/-- one sentence drawn -/
theorem lse_c {b g c lo lb : Addr} {N : Nat} {M : Mem} {op bd : List Str} {y : Int} {K : DK} (hB : Bag M b g c N) (hN : N + 700000 ≤ 2 ^ 40) (hlo : M lo = some (.lst (op.map D.str))) (hlb : M lb = some (.lst (bd.map D.str))) (hl : op.length + bd.length ≤ 3) (hbd : ∀ a ∈ bd, a ∈ nXYZ)
    (o1 : lo ≠ b) (o2 : lo ≠ g) (o3 : lo ≠ c) (q1 : lb ≠ b) (q2 : lb ≠ g) (q3 : lb ≠ c) (y0 : 0 ≤ y) (y1 : y < 5)
    (hK : ∀ s M', WfS op bd s → hS s ≤ 4 → sizeS s ≤ 625 → Bag M' b g c (N + 625000) → SameBut b g M M' → K (snD true s) M') : spLsw 4 [.ref b, .ref lo, .ref lb, .int (1 + y), .int 9] M K := by
  have e : (1 + y) = ((y.toNat : Nat) : Int) + 1 := by omega
  have pw : 5 ^ y.toNat ≤ 625 := Nat.le_trans (Nat.pow_le_pow_right (by decide) (show y.toNat ≤ 4 by omega)) (by decide)
  exact ⟨y.toNat, by omega, b, g, c, lo, lb, N, op, bd, by rw [e], by omega, hB, by omega, hlo, hlb, hl, hbd, o1, o2, o3, q1, q2, q3, fun s M' w1 w2 w3 w4 w5 => hK s M' w1 (by omega) (by omega) (w4.mono (by omega)) w5⟩
theorem st_no {c : DT} {t rest : DS} {E : DEnds} {δ : DSt} {M : Mem} (h : ∀ KT : Bool → Mem → Prop, KT false M → c δ M KT) (k : rest E δ M) : sSeq (sIf c t sNext) rest E δ M := st_if (h _ k)
theorem st_ret {c : DT} {rest : DS} {E : DEnds} {δ : DSt} {M : Mem} (h : ∀ KT : Bool → Mem → Prop, (∀ b, KT b M) → c δ M KT) (r : E.rt (.bl true) M) (k : rest E δ M) : sSeq (sIf c (sRet (dC (.bl true))) sNext) rest E δ M := st_if (h _ fun b => by
  cases b
  · exact k
  · exact r)
/-! ### what a drawn sentence is -/
/-- a sentence that all the law's functions take -/
structure Fit (s : Sn) : Prop where
  hh : hS s ≤ 6
  sz : sizeS s ≤ 100000
  la : ∀ f ∈ latS s, ∃ op, LpOk op f
theorem Fit.po {s : Sn} (h : Fit s) {w : AtW} {f : Po} (hf : Sn.at w f ∈ innerS s) : PoOk f ∧ PwOk f ∧ WoOk f := by
  obtain ⟨op, k⟩ := h.la f ((lat_inner s f).mpr ⟨w, hf⟩)
  exact lp_po k
theorem fit_wf {s : Sn} {op bd : List Str} (w : WfS op bd s) (h1 : hS s ≤ 4) (h2 : sizeS s ≤ 625) : Fit s := ⟨by omega, by omega, wf_lat s op bd w⟩
theorem ok_names {l : List Str} : okD 4 (.tup ((nXYZ.filter fun n => decide (n ∈ l)).map D.str)) := by
  refine ⟨?_, fun x hx => ?_⟩
  · have h := List.length_filter_le (fun n => decide (n ∈ l)) nXYZ
    have e : nXYZ.length = 3 := rfl
    rw [List.length_map]
    omega
  · obtain ⟨n, hn, rfl⟩ := List.mem_map.mp hx
    have hn := (List.mem_filter.mp hn).1
    simp [nXYZ] at hn
    rcases hn with rfl | rfl | rfl <;> (show SeqAt.shaped _ = true; decide +kernel)
mutual
theorem lat_lens : ∀ s : Sn, (latS s).length ≤ sizeS s
  | .at w f => by simp [latS, sizeS]
  | .cst v => by simp [latS]
  | .neg s => by have := lat_lens s; rw [latS, sizeS]; omega
  | .jn w l => by have := lat_lensT l; rw [latS, sizeS]; omega
  | .ov w x s => by have := lat_lens s; rw [latS, sizeS]; omega
theorem lat_lensT : ∀ l : List Sn, (latT l).length ≤ sizesS l
  | [] => Nat.zero_le _
  | s :: l => by
    have h1 := lat_lens s
    have h2 := lat_lensT l
    rw [latT, sizesS, List.length_append]; omega
end
theorem uniq_lens {α : Type} [DecidableEq α] (l : List α) : (uniq l).length ≤ l.length := by
  have gen : ∀ (l acc : List α), (l.foldl (fun acc x => if x ∈ acc then acc else acc ++ [x]) acc).length ≤ acc.length + l.length := fun l => by
    induction l with
    | nil => intro acc; exact Nat.le_refl _
    | cons a l ih =>
      intro acc
      rw [List.foldl_cons]
      refine Nat.le_trans (ih _) ?_
      split <;> simp <;> omega
  simpa [uniq] using gen l []
theorem polG_len (l : List Po) : (l.flatMap polG).length ≤ l.length := by
  induction l with
  | nil => exact Nat.le_refl _
  | cons f l ih =>
    rw [List.flatMap_cons, List.length_append, List.length_cons]
    have : (polG f).length ≤ 1 := by unfold polG; split <;> simp
    omega
theorem ok_po {f : Po} (h : f.length ≤ 100) : okD 3 (poD false f) := by
  refine ⟨by rw [List.length_map]; omega, fun x hx => ?_⟩
  obtain ⟨t, _, rfl⟩ := List.mem_map.mp hx
  refine ⟨by simp, fun y hy => ?_⟩
  rcases List.mem_cons.mp hy with rfl | hy
  · refine ⟨by simp, fun z hz => ?_⟩
    simp at hz
    rcases hz with rfl | rfl | rfl <;> trivial
  · simp at hy
    subst hy; trivial
theorem ok_pols {s : Sn} (h : Fit s) : okD 4 (polsD (lprims s)) := by
  refine ⟨?_, fun x hx => ?_⟩
  · rw [List.length_mergeSort, List.length_map]
    have h1 := uniq_lens (lprims s)
    have h2 := polG_len (latS s)
    have h3 := lat_lens s
    have h4 := h.sz
    have e : lprims s = (latS s).flatMap polG := rfl
    rw [← e] at h2
    omega
  · have hx := List.mem_mergeSort.mp hx
    obtain ⟨f, hf, rfl⟩ := List.mem_map.mp hx
    have hf := (uniq_mem f _).mp hf
    obtain ⟨g, hg, hf⟩ := List.mem_flatMap.mp hf
    obtain ⟨op, k⟩ := h.la g hg
    unfold polG at hf
    split at hf
    · cases hf
    · simp at hf
      subst hf
      refine ok_po ?_
      have := k.len
      unfold primF
      rw [List.length_map]; omega
theorem ok_two {s : Sn} {l : List Str} (h : Fit s) : okD 5 (.tup [.tup ((nXYZ.filter fun n => decide (n ∈ l)).map D.str), polsD (lprims s)]) ∧ okD 5 (.tup [polsD (lprims s), .tup ((nXYZ.filter fun n => decide (n ∈ l)).map D.str)]) := by
  have a := ok_names (l := l)
  have b := ok_pols h
  refine ⟨⟨by simp, fun x hx => ?_⟩, ⟨by simp, fun x hx => ?_⟩⟩
  · simp at hx
    rcases hx with rfl | rfl
    · exact a
    · exact b
  · simp at hx
    rcases hx with rfl | rfl
    · exact b
    · exact a
end DD
end
section
set_option exponentiation.threshold 5000
namespace DD
open PySem PySem.Spec PyProof.Rows L2
/-! ### the parts of one turn -/
section
variable {P b g c : Addr} {N : Nat} {M : Mem} {δ : DSt} {v : Bool}
theorem many_c {i : Nat} {s : Sn} (h : Fit s) (hi : δ[i]? = some (some (snD true s))) {op : D2} {k : Int} {K : DK} (hK : op (.int (manyS s)) (.int k) M K) : (dBin op (dCall (spLmany 6) (aCons (dWk (dVar i)) aNil)) (dC (.int k))) δ M K := by
  simp [hi]
  exact ⟨snD true s, wk_refl _, true, s, rfl, h.hh, h.sz, hK⟩
theorem gt_c {i : Nat} {s : Sn} (h : Fit s) (hi : δ[i]? = some (some (snD true s))) {k : Int} (KT : Bool → Mem → Prop) (hK : ∀ t, KT t M) : (dTest (dBin gGt (dCall (spLmany 6) (aCons (dWk (dVar i)) aNil)) (dC (.int k)))) δ M KT := by
  simp only [eq_dTest]
  refine many_c h hi ?_
  simp
  exact hK _
theorem lt_c {i : Nat} {s : Sn} (h : Fit s) (hi : δ[i]? = some (some (snD true s))) {k : Int} (KT : Bool → Mem → Prop) (hK : ∀ t, KT t M) : (dTest (dBin gLt (dCall (spLmany 6) (aCons (dWk (dVar i)) aNil)) (dC (.int k)))) δ M KT := by
  simp only [eq_dTest]
  refine many_c h hi ?_
  simp
  exact hK _
theorem same_no {ta : DA} {x : D} (ok : okD 5 x) {KT : Bool → Mem → Prop} (hK : KT false M) (h : ∀ RA : List D → Mem → Prop, RA [x, x] M → ta δ M RA) : (dNot (dTru (dCall (spSame 5) ta))) δ M KT := by
  simp only [eq_dNot, eq_dTru, eq_dCall]
  refine h _ ⟨x, rfl, ok, ?_⟩
  simp
  exact hK
/-- the pair of names and polynomials, by the program and by the law -/
theorem pair_k {i : Nat} {s : Sn} {op bd : List Str} (h : Fit s) (w : WfS op bd s) (dis : ∀ n ∈ bd, n ∉ op) (hi : δ[i]? = some (some (snD true s))) (hP : M P = some .tbl) {KT : Bool → Mem → Prop} (hK : KT false M) :
    (dNot (dTru (dCall (spSame 5) (aCons (dTup (aCons (dCallK (spFreeN P) [0] 1 (aCons (dWk (dVar i)) (aNil))) (aCons (dCallK spPolsOf [0] 1 (aCons (dWk (dVar i)) (aNil))) (aNil)))) (aCons (dTup (aCons (dCall (spLfree 6) (aCons (dWk (dVar i)) (aNil))) (aCons (dCall (spLpolys 6) (aCons (dWk (dVar i)) (aNil))) (aNil)))) (aNil)))))) δ M KT := by
  refine same_no (ok_two (l := freeH [] s) h).1 hK fun RA hR => ?_
  simp [hi, permL, size_line]
  refine ⟨snD false s, wk_sn s, s, rfl, h.sz, hP, snD false s, wk_sn s, s, rfl, h.sz, fun w f hf => (h.po hf).1, snD false s, wk_sn s, s, rfl, h.hh, h.sz, fun f hf => ?_, snD false s, wk_sn s, s, rfl, h.hh, h.sz, fun f hf => ?_, ?_⟩
  · obtain ⟨op, k⟩ := h.la f hf
    have := k.len; omega
  · obtain ⟨op, k⟩ := h.la f hf
    exact ⟨(lp_po k).1, k.nd⟩
  · rw [lfree_eq w dis, prims_eq]
    exact hR
theorem pair_c {i : Nat} {s : Sn} {op bd : List Str} (h : Fit s) (w : WfS op bd s) (dis : ∀ n ∈ bd, n ∉ op) (hi : δ[i]? = some (some (snD true s))) (hP : M P = some .tbl) {KT : Bool → Mem → Prop} (hK : KT false M) :
    (dNot (dTru (dCall (spSame 5) (aCons (dTup (aCons (dCall (spFreeN P) (aCons (dWk (dVar i)) (aNil))) (aCons (dCall spPolsOf (aCons (dWk (dVar i)) (aNil))) (aNil)))) (aCons (dTup (aCons (dCall (spLfree 6) (aCons (dWk (dVar i)) (aNil))) (aCons (dCall (spLpolys 6) (aCons (dWk (dVar i)) (aNil))) (aNil)))) (aNil)))))) δ M KT := by
  refine same_no (ok_two (l := freeH [] s) h).1 hK fun RA hR => ?_
  simp [hi, size_line]
  refine ⟨snD false s, wk_sn s, s, rfl, h.sz, hP, snD false s, wk_sn s, s, rfl, h.sz, fun w f hf => (h.po hf).1, snD false s, wk_sn s, s, rfl, h.hh, h.sz, fun f hf => ?_, snD false s, wk_sn s, s, rfl, h.hh, h.sz, fun f hf => ?_, ?_⟩
  · obtain ⟨op, k⟩ := h.la f hf
    have := k.len; omega
  · obtain ⟨op, k⟩ := h.la f hf
    exact ⟨(lp_po k).1, k.nd⟩
  · rw [lfree_eq w dis, prims_eq]
    exact hR
theorem fit_dbl {s : Sn} (h : Fit s) (h4 : hS s ≤ 4) (h5 : sizeS s ≤ 625) : Fit (.jn .or [s, .neg s]) := by
  refine ⟨by simp [hS, hSs]; omega, by simp [sizeS, sizesS]; omega, fun f hf => h.la f ?_⟩
  simp [latS, latT] at hf
  exact hf
theorem dbl_c {i j : Nat} {s : Sn} {op bd : List Str} (h : Fit s) (h4 : hS s ≤ 4) (h5 : sizeS s ≤ 625) (w : WfS op bd s) (dis : ∀ n ∈ bd, n ∉ op) (hi : δ[i]? = some (some (snD true s))) (hj : δ[j]? = some (some (snD false (.jn .or [s, .neg s])))) (hP : M P = some .tbl) {KT : Bool → Mem → Prop} (hK : KT false M) :
    (dNot (dTru (dCall (spSame 5) (aCons (dTup (aCons (dCall spPolsOf (aCons (dVar j) (aNil))) (aCons (dCall (spFreeN P) (aCons (dVar j) (aNil))) (aNil)))) (aCons (dTup (aCons (dCall (spLpolys 6) (aCons (dWk (dVar i)) (aNil))) (aCons (dCall (spLfree 6) (aCons (dWk (dVar i)) (aNil))) (aNil)))) (aNil)))))) δ M KT := by
  refine same_no (ok_two (l := freeH [] s) h).2 hK fun RA hR => ?_
  have hd := fit_dbl h h4 h5
  simp [hi, hj, size_line]
  refine ⟨_, rfl, hd.sz, fun w f hf => (hd.po hf).1, _, rfl, hd.sz, hP, snD false s, wk_sn s, s, rfl, h.hh, h.sz, fun f hf => ?_, snD false s, wk_sn s, s, rfl, h.hh, h.sz, fun f hf => ?_, ?_⟩
  · obtain ⟨op, k⟩ := h.la f hf
    exact ⟨(lp_po k).1, k.nd⟩
  · obtain ⟨op, k⟩ := h.la f hf
    have := k.len; omega
  · rw [lfree_eq w dis, prims_eq, free_or, lprims_or]
    exact hR
theorem mk_dbl {i : Nat} {s : Sn} (hi : δ[i]? = some (some (snD true s))) {K : DK} (hK : K (snD false (.jn .or [s, .neg s])) M) : (dTup (aCons (dC (.str "or")) (aCons (dWk (dVar i)) (aCons (dTup (aCons (dC (.str "not")) (aCons (dWk (dVar i)) (aNil)))) (aNil))))) δ M K := by
  simp [hi, size_line]
  exact ⟨snD false s, wk_sn s, snD false s, wk_sn s, hK⟩
end
end DD
end
section
set_option exponentiation.threshold 5000
namespace DD
open PySem PySem.Spec PyProof.Rows L2
section
variable {P b g c p : Addr} {N : Nat} {M : Mem} {δ : DSt} {v : Bool}
theorem sent_c {ys : List Str} {m : Int} (hB : Bag M b g c N) (hN : N + 1000000 ≤ 2 ^ 40) (pm : ys.Perm nXYZ) (m0 : 0 ≤ m) (m1 : m < 4) (hp : M p = some (.lst (ys.map D.str))) (pb : p ≠ b) (pg : p ≠ g) (pc : p ≠ c)
    (h0 : δ[0]? = some (some (.ref b))) (h2 : δ[2]? = some (some (.ref p))) (h3 : δ[3]? = some (some (.int m))) {K : DK}
    (hK : ∀ s M', WfS (ys.take m.toNat) (ys.drop m.toNat) s → hS s ≤ 4 → sizeS s ≤ 625 → Bag M' b g c (N + 700000) → SubBut b g M M' → K (snD true s) M') :
    (dCall (spLsw 4) (aCons (dVar 0) (aCons (dSl (dVar 2) (oNone) (oSome (dVar 3))) (aCons (dSl (dVar 2) (oSome (dVar 3)) (oNone)) (aCons (dBin gAdd (dC (.int 1)) (dCall spDraw (aCons (dVar 0) (aCons (dC (.int 5)) (aNil))))) (aCons (dC (.int 9)) (aNil))))))) δ M K := by
  have hl : ys.length = 3 := pm.length_eq
  simp [h0, h2, h3, hp]
  intro p1 hp1
  have np1 : p1 ≠ p := fun e => by rw [e, hp] at hp1; cases hp1

  have hml : m ≤ ((ys.map D.str).length : Nat) := by rw [List.length_map, hl]; omega
  simp only [if_neg np1.symm]
  rw [cut_to m0 hml, cut_drop m0 hml, ← List.map_take, ← List.map_drop]
  intro p2 hp2
  have np2 : p2 ≠ p1 := fun e => by rw [if_pos e] at hp2; cases hp2
  rw [if_neg np2] at hp2
  obtain ⟨b1, g1, c1⟩ := hB.ne hp1
  obtain ⟨b2, g2, c2⟩ := hB.ne hp2
  refine ⟨b, g, c, N, 5, rfl, (hB.put b1 g1 c1).put b2 g2 c2, by omega, by decide, by decide, fun y M2 y0 y1 hB2 hS => ?_⟩
  simp
  obtain ⟨f1, f2, f3, f4⟩ := perm_facts pm m.toNat
  have e1 : M2 p1 = some (.lst ((ys.take m.toNat).map D.str)) := by
    rw [hS p1 b1 g1, updM_ne np2.symm, updM_same]
  have e2 : M2 p2 = some (.lst ((ys.drop m.toNat).map D.str)) := by
    rw [hS p2 b2 g2, updM_same]
  refine lse_c hB2 (by omega) e1 e2 f1 f3 b1 g1 c1 b2 g2 c2 y0 y1 fun s M' w w1 w2 w3 w4 => hK s M' w w1 w2 (w3.mono (by omega)) fun a o z1 z2 z => ?_
  rw [w4 a z1 z2, hS a z1 z2, updM_ne (fun e => by rw [e, hp2] at z; cases z), updM_ne (fun e => by rw [e, hp1] at z; cases z)]
  exact z
theorem plain_c {ys : List Str} {m : Int} (hB : Bag M b g c N) (hN : N + 1000000 ≤ 2 ^ 40) (pm : ys.Perm nXYZ) (m0 : 0 ≤ m) (m1 : m < 4) (hp : M p = some (.lst (ys.map D.str))) (pb : p ≠ b) (pg : p ≠ g) (pc : p ≠ c)
    (h0 : δ[0]? = some (some (.ref b))) (h2 : δ[2]? = some (some (.ref p))) (h3 : δ[3]? = some (some (.int m))) {K : DK}
    (hK : ∀ s M', WfS (ys.take m.toNat) [] s → hS s ≤ 4 → sizeS s ≤ 625 → Bag M' b g c (N + 700000) → SubBut b g M M' → K (snD true s) M') :
    (dCall (spLsw 4) (aCons (dVar 0) (aCons (dSl (dVar 2) (oNone) (oSome (dVar 3))) (aCons (dLst (aNil)) (aCons (dBin gAdd (dC (.int 1)) (dCall spDraw (aCons (dVar 0) (aCons (dC (.int 4)) (aNil))))) (aCons (dC (.int 9)) (aNil))))))) δ M K := by
  have hl : ys.length = 3 := pm.length_eq
  simp [h0, h2, h3, hp]
  intro p1 hp1
  have np1 : p1 ≠ p := fun e => by rw [e, hp] at hp1; cases hp1
  have hml : m ≤ ((ys.map D.str).length : Nat) := by rw [List.length_map, hl]; omega
  rw [cut_to m0 hml, ← List.map_take]
  intro p2 hp2
  have np2 : p2 ≠ p1 := fun e => by rw [if_pos e] at hp2; cases hp2
  rw [if_neg np2] at hp2
  obtain ⟨b1, g1, c1⟩ := hB.ne hp1
  obtain ⟨b2, g2, c2⟩ := hB.ne hp2
  refine ⟨b, g, c, N, 4, rfl, (hB.put b1 g1 c1).put b2 g2 c2, by omega, by decide, by decide, fun y M2 y0 y1 hB2 hS => ?_⟩
  simp
  obtain ⟨f1, f2, f3, f4⟩ := perm_facts pm m.toNat
  have e1 : M2 p1 = some (.lst ((ys.take m.toNat).map D.str)) := by
    rw [hS p1 b1 g1, updM_ne np2.symm, updM_same]
  have e2 : M2 p2 = some (.lst (([] : List Str).map D.str)) := by
    rw [hS p2 b2 g2, updM_same]; rfl
  refine lse_c hB2 (by omega) e1 e2 (by simp at f1 ⊢; omega) (fun a ha => by cases ha) b1 g1 c1 b2 g2 c2 y0 (by omega) fun s M' w w1 w2 w3 w4 => hK s M' w w1 w2 (w3.mono (by omega)) fun a o z1 z2 z => ?_
  rw [w4 a z1 z2, hS a z1 z2, updM_ne (fun e => by rw [e, hp2] at z; cases z), updM_ne (fun e => by rw [e, hp1] at z; cases z)]
  exact z
end
/-! ### a sentence without overs -/
mutual
theorem wf_noOv : ∀ (s : Sn) (op : List Str), WfS op [] s → noOv s = true
  | .at _ _, _, _ => rfl
  | .cst _, _, _ => rfl
  | .neg s, op, h => wf_noOv s op h
  | .jn _ l, op, h => wf_noOvs l op h.2
  | .ov _ x s, op, h => by
    obtain ⟨rest, e, _⟩ := h
    cases e
theorem wf_noOvs : ∀ (l : List Sn) (op : List Str), WfT op [] l → noOvs l = true
  | [], _, _ => rfl
  | s :: l, op, h => by rw [noOvs, wf_noOv s op h.1, wf_noOvs l op h.2]; rfl
end
theorem lat_rev (l : List Sn) (f : Po) : f ∈ latT l.reverse ↔ f ∈ latT l := by
  have gen : ∀ l : List Sn, f ∈ latT l ↔ ∃ s ∈ l, f ∈ latS s := fun l => by
    induction l with
    | nil => simp [latT]
    | cons s l ih => simp [latT, ih]
  rw [gen, gen]
  simp
theorem size_rev (l : List Sn) : sizesS l.reverse = sizesS l := by
  have gen : ∀ l m : List Sn, sizesS (l ++ m) = sizesS l + sizesS m := fun l m => by
    induction l with
    | nil => simp [sizesS]
    | cons s l ih => rw [List.cons_append, sizesS, sizesS, ih]; omega
  induction l with
  | nil => rfl
  | cons s l ih =>
    rw [List.reverse_cons, gen, ih, sizesS, sizesS, sizesS]; omega
theorem fit_rev {w : JnW} {l : List Sn} (h : Fit (.jn w l)) : Fit (.jn w l.reverse) := by
  refine ⟨?_, ?_, fun f hf => h.la f ((lat_rev l f).mp hf)⟩
  · have := h.hh
    rw [hS] at this ⊢
    have k : hSs l.reverse ≤ hSs l := hSs_le fun s hs => hSs_mem (List.mem_reverse.mp hs)
    omega
  · have := h.sz
    rw [sizeS] at this ⊢
    rw [size_rev]; exact this
theorem noOv_rev {l : List Sn} (h : noOvs l = true) : noOvs l.reverse = true := by
  have gen : ∀ l : List Sn, (∀ s ∈ l, noOv s = true) → noOvs l = true := fun l => by
    induction l with
    | nil => intro _; rfl
    | cons s l ih =>
      intro k
      rw [noOvs, k s List.mem_cons_self, ih fun t ht => k t (List.mem_cons_of_mem _ ht)]; rfl
  exact gen _ fun s hs => noOvs_mem h (List.mem_reverse.mp hs)
theorem pl_ok {p : Pl} (h : PlS p) : PlOk p := ⟨fun k => by
  obtain ⟨a, b, c⟩ := h k
  exact ⟨by omega, by omega, c⟩⟩
/-- holds_at's promise, met -/
theorem hat_c {s : Sn} {p : Pl} {M : Mem} {K : DK} (h : Fit s) (no : noOv s = true) (hp : PlS p) (hK : K (.bl (evalS (trV p) s)) M) : spHat 6 [snD false s, plD p] M K :=
  ⟨s, p, rfl, no, h.hh, h.sz, fun w f hf => (h.po hf).1, fun w f hf => (h.po hf).2.1, pl_ok hp, by rw [eval_same fun w f hf => (h.po hf).1]; exact hK⟩
theorem holds_c {s : Sn} {p : Pl} {M : Mem} {K : DK} (h : Fit s) (no : noOv s = true) (hp : PlS p) (hK : K (.bl (evalS (trV p) s)) M) : spLholds 6 [snD false s, plD p] M K :=
  ⟨s, p, rfl, no, h.hh, h.sz, fun w f hf => (h.po hf).2.2, hp, hK⟩
theorem fit_neg {s : Sn} (h : Fit s) (h4 : hS s ≤ 4) (h5 : sizeS s ≤ 625) : Fit (.neg s) := ⟨by rw [hS]; omega, by rw [sizeS]; omega, fun f hf => h.la f hf⟩
end DD
end
section
set_option exponentiation.threshold 5000
namespace DD
open PySem PySem.Spec PyProof.Rows L2
section
variable {P b g c p : Addr} {N : Nat} {M : Mem} {δ : DSt} {v : Bool} {s : Sn} {q : Pl}
theorem seen_c (h : Fit s) (no : noOv s = true) (hq : PlS q) (h1 : δ[1]? = some (some (.bl v))) (h5 : δ[5]? = some (some (snD true s))) (h7 : δ[7]? = some (some (plD q))) {K : DK} (hK : K (.bl (evalS (trV q) s)) M) :
    (dIf (dTru (dVar 1)) (dCallK (spHat 6) [1, 0] 2 (aCons (dVar 7) (aCons (dWk (dVar 5)) (aNil)))) (dCall (spHat 6) (aCons (dWk (dVar 5)) (aCons (dVar 7) (aNil))))) δ M K := by
  simp [h1, h5, h7, permL]
  cases v
  · exact ⟨snD false s, wk_sn s, hat_c h no hq hK⟩
  · exact ⟨snD false s, wk_sn s, hat_c h no hq hK⟩
theorem due_c (h : Fit s) (no : noOv s = true) (hq : PlS q) (h5 : δ[5]? = some (some (snD true s))) (h7 : δ[7]? = some (some (plD q))) {K : DK} (hK : K (.bl (evalS (trV q) s)) M) :
    (dCall (spLholds 6) (aCons (dWk (dVar 5)) (aCons (dVar 7) (aNil)))) δ M K := by
  simp [h5, h7]
  exact ⟨snD false s, wk_sn s, holds_c h no hq hK⟩
theorem rev_c (h : Fit s) (no : noOv s = true) (hq : PlS q) (h5 : δ[5]? = some (some (snD true s))) (h7 : δ[7]? = some (some (plD q))) (h9 : δ[9]? = some (some (.bl (evalS (trV q) s)))) {KT : Bool → Mem → Prop} (hK : KT false M) :
    (dAnd (dTest (dBin (gInA false) (dBin gIxA (dWk (dVar 5)) (dC (.int 0))) (dTup (aCons (dC (.str "and")) (aCons (dC (.str "or")) (aNil)))))) (dNot (dTru (dCall (spSame 5) (aCons (dCall (spHat 6) (aCons (dBin gAdd (dSl (dWk (dVar 5)) (oNone) (oSome (dC (.int 1)))) (dRevA (dSl (dWk (dVar 5)) (oSome (dC (.int 1))) (oNone)))) (aCons (dVar 7) (aNil)))) (aCons (dVar 9) (aNil))))))) δ M KT := by
  simp only [eq_dAnd, eq_dTest, eq_dBin, eq_dWk, eq_dVar]
  simp only [h5]
  refine ⟨snD false s, wk_sn s, ?_⟩
  cases s with
  | «at» w f => cases w <;> simp [snD, AtW.str, size_line] <;> exact hK
  | cst w => cases w <;> simp [snD, cstStr, size_line] <;> exact hK
  | neg s => simp [snD, size_line]; exact hK
  | ov w x s => cases no
  | jn w l =>
    have a : noOv (.jn w l.reverse) = true := noOv_rev no
    have len : 1 + (snDs false l).length ≤ sizeLine := by
      have : ∀ l : List Sn, l.length ≤ sizesS l := fun l => by
        induction l with
        | nil => exact Nat.le_refl _
        | cons s l ih => rw [List.length_cons, sizesS]; have := size_pos s; omega
      have := this l
      have k := h.sz
      rw [sizeS] at k
      rw [snDs_map, List.length_map, size_line]; omega
    have e : snD false (.jn w l.reverse) = .tup ([.str w.str] ++ (snDs false l).reverse) := by
      rw [snD, snDs_map, snDs_map, List.map_reverse]; rfl
    have fin : ∀ (K2 : DK), K2 (.bl true) M → spHat 6 [.tup ([.str w.str] ++ (snDs false l).reverse), plD q] M fun x M1 => spSame 5 [x, .bl (evalS (trV q) (.jn w l))] M1 K2 := fun K2 h2 => by
      rw [← e]
      refine hat_c (fit_rev h) a hq ?_
      rw [eval_rev]
      exact ⟨_, rfl, trivial, h2⟩
    cases w <;> simp [snD, JnW.str, size_line, h5, h7, h9]
    · refine ⟨snD false (.jn .and l), wk_sn (.jn .and l), ?_⟩
      simp [snD, cut_head]
      refine ⟨snD false (.jn .and l), wk_sn (.jn .and l), ?_⟩
      simp [snD, cut_from1]
      exact ⟨len, fin _ (by simp; exact hK)⟩
    · refine ⟨snD false (.jn .or l), wk_sn (.jn .or l), ?_⟩
      simp [snD, cut_head]
      refine ⟨snD false (.jn .or l), wk_sn (.jn .or l), ?_⟩
      simp [snD, cut_from1]
      exact ⟨len, fin _ (by simp; exact hK)⟩
theorem not_c (h : Fit s) (h4 : hS s ≤ 4) (h6 : sizeS s ≤ 625) (no : noOv s = true) (hq : PlS q) (h5 : δ[5]? = some (some (snD true s))) (h7 : δ[7]? = some (some (plD q))) (h8 : δ[8]? = some (some (.bl (evalS (trV q) s)))) (h9 : δ[9]? = some (some (.bl (evalS (trV q) s)))) {KT : Bool → Mem → Prop} (hK : KT false M) :
    (dOr (dNot (dTru (dCall (spSame 5) (aCons (dVar 8) (aCons (dVar 9) (aNil)))))) (dNot (dTru (dCall (spSame 5) (aCons (dCall (spHat 6) (aCons (dTup (aCons (dC (.str "not")) (aCons (dWk (dVar 5)) (aNil)))) (aCons (dVar 7) (aNil)))) (aCons (dNotV (dVar 9)) (aNil))))))) δ M KT := by
  have e : snD false (.neg s) = .tup [.str "not", snD false s] := rfl
  simp only [eq_dOr, eq_dNot, eq_dTru, eq_dCall, eq_aCons, eq_aNil, eq_dVar]
  simp only [h8, h9]
  refine ⟨_, rfl, trivial, ?_⟩
  simp [h5, h7, h9, size_line]
  refine ⟨snD false s, wk_sn s, ?_⟩
  rw [← e]
  refine hat_c (fit_neg h h4 h6) no hq ⟨_, rfl, trivial, ?_⟩
  simp
  exact hK
end
end DD
end
section
set_option exponentiation.threshold 5000
namespace DD
open PySem PySem.Spec PyProof.Rows L2
theorem some_c {b g c : Addr} {N : Nat} {M : Mem} {δ : DSt} {K : DK} (hB : Bag M b g c N) (hN : N + 1000 ≤ 2 ^ 40) (h0 : δ[0]? = some (some (.ref b)))
    (hK : ∀ (ys : List Str) (p : Addr) (M' : Mem), ys.Perm nXYZ → M p = none → p ≠ b → p ≠ g → p ≠ c → M' p = some (.lst (ys.map D.str)) → Bag M' b g c (N + 3) → SubBut b g M M' → K (.ref p) M') :
    (dCall spSome (aCons (dVar 0) (aCons (dLst (aCons (dC (.str "x")) (aCons (dC (.str "y")) (aCons (dC (.str "z")) (aNil))))) (aCons (dC (.int 3)) (aNil))))) δ M K := by
  have := some_told (v := true) hB hN hK
  simp at this ⊢
  simp [h0]
  exact this
theorem st_for {it : DI} {g : DG} {body rest : DS} {E : DEnds} {δ : DSt} {M : Mem} (h : it δ M (ForIn g body { E with nx := rest E } δ)) : sSeq (sFor it g body) rest E δ M := h
theorem last_if {c : DT} {t : DS} {E : DEnds} {δ : DSt} {M : Mem} (h : ∀ KT : Bool → Mem → Prop, KT false M → c δ M KT) (k : E.nx δ M) : sIf c t sNext E δ M := h _ k
theorem places_c {b g c : Addr} {N : Nat} {M : Mem} {δ : DSt} {s : Sn} {K : List D → (Mem → Prop) → Mem → Prop} (hB : Bag M b g c N) (hN : N + 1000 ≤ 2 ^ 40) (h : Fit s) (h0 : δ[0]? = some (some (.ref b))) (h5 : δ[5]? = some (some (snD true s)))
    (hK : ∀ (ps : List Pl) (q : Addr) (M' : Mem), (∀ p ∈ ps, PlS p) → M' q = some (.lst (ps.map plD)) → Bag M' b g c (N + 100) → SubBut b g M M' → K (ps.map plD) (fun M'' => M'' q = some (.lst (ps.map plD))) M') :
    (iSeqA (dCall (spLplaces 6) (aCons (dVar 0) (aCons (dWk (dVar 5)) (aNil))))) δ M K := by
  simp [h0, h5]
  refine ⟨snD true s, wk_refl _, b, g, c, N, s, rfl, hB, hN, h.hh, h.sz, fun f hf => ?_, fun ps hps _ q M' _ _ _ _ hq hB' hS => ?_⟩
  · obtain ⟨op, k⟩ := h.la f hf
    exact ⟨k.len, k.nd, fun t ht => (k.c t ht).2⟩
  · simp [hq, srcD]
    exact hK ps q M' hps hq hB' hS
theorem k_l_is_told (P : Addr) (ds : List D) (M : Mem) (R : DK) (h : spTold P ds M R) : r_l_is_told spSome spDraw (spLsw 4) (spLmany 6) (spSame 5) (spFreeN P) spPolsOf (spLfree 6) (spLpolys 6) (spLplaces 6) (spHat 6) (spLholds 6) (endsF R) (startD N_l_is_told ds) M := by
  obtain ⟨b, g, c, N, v, rfl, hB, hN, hP, Pb, Pg, h⟩ := h
  have hd : startD N_l_is_told [.ref b, .bl v] = [some (.ref b), some (.bl v), none, none, none, none, none, none, none, none] := rfl
  rw [hd]
  unfold r_l_is_told
  refine st_asg ?_
  refine some_c hB (by omega) rfl fun ys p M1 pm hpM pb pg pc hp hB1 s1 => ?_
  refine st_asg ?_
  refine draw_c hB1 (by omega) (by decide) (by decide) rfl fun m M2 m0 m1 hB2 s2 => ?_
  have hp2 : M2 p = some (.lst (ys.map D.str)) := (s2 p pb pg).trans hp
  refine st_asg ?_
  refine sent_c hB2 (by omega) pm m0 m1 hp2 pb pg pc rfl rfl rfl fun s0 M3 w w1 w2 hB3 s3 => ?_
  have S3 : SubBut b g M M3 := s1.trans ((SubBut.of_same s2).trans s3)
  have P3 : M3 P = some .tbl := S3 P _ Pb Pg hP
  have fin3 : (endsF R).rt (.bl true) M3 := ⟨M3, Sub.refl _, h M3 (hB3.mono (by omega)) P3 S3⟩
  obtain ⟨f1, f2, f3, f4⟩ := perm_facts pm m.toNat
  have F3 := fit_wf w w1 w2
  refine st_ret (fun KT hK => gt_c F3 rfl KT hK) fin3 ?_
  refine st_no (fun KT hK => ?_) ?_
  · simp only [eq_dAnd, eq_dTru, eq_dVar]
    show (match truD M3 (.bl v) with
      | some b => if b = true then _ else _
      | none => False)
    simp only [tru_bl]
    cases v
    · exact hK
    · exact pair_k (P := P) F3 w f4 rfl P3 hK
  refine st_no (fun KT hK => pair_c (P := P) F3 w f4 rfl P3 hK) ?_
  have hp3 : M3 p = some (.lst (ys.map D.str)) := s3 p _ pb pg hp2
  refine st_asg ?_
  refine plain_c hB3 (by omega) pm m0 m1 hp3 pb pg pc rfl rfl rfl fun s M4 w w1 w2 hB4 s4 => ?_
  have S4 : SubBut b g M M4 := S3.trans s4
  have P4 : M4 P = some .tbl := S4 P _ Pb Pg hP
  have fin4 : (endsF R).rt (.bl true) M4 := ⟨M4, Sub.refl _, h M4 (hB4.mono (by omega)) P4 S4⟩
  have F4 := fit_wf w w1 w2
  have no := wf_noOv s _ w
  refine st_ret (fun KT hK => gt_c F4 rfl KT hK) fin4 ?_
  refine st_asg ?_
  refine mk_dbl (s := s) rfl ?_
  refine st_no (fun KT hK => ?_) ?_
  · simp only [eq_dAnd]
    refine lt_c F4 rfl _ fun t => ?_
    cases t
    · exact hK
    · exact dbl_c (P := P) F4 w1 w2 w (fun _ h => by cases h) rfl rfl P4 hK
  refine st_for ?_
  refine places_c hB4 (by omega) F4 rfl rfl fun ps q M5 hps hq hB5 s5 => ?_
  have S5 : SubBut b g M M5 := S4.trans s5
  have P5 : M5 P = some .tbl := S5 P _ Pb Pg hP
  refine for_in (fun _ δ M' => M' = M5 ∧ ∃ x7 x8 x9 : Option D, δ = [some (.ref b), some (.bl v), some (.ref p), some (.int m), some (snD true s0), some (snD true s), some (snD false (.jn .or [s, .neg s])), x7, x8, x9]) ?_ ?_ ?_ ?_
  · exact ⟨rfl, none, none, none, rfl⟩
  · rintro i δ M' _ ⟨rfl, _⟩
    exact hq
  · rintro i x δ M' hx ⟨rfl, x7, x8, x9, rfl⟩
    obtain ⟨pl, hpl, rfl⟩ := List.mem_map.mp (List.mem_of_getElem? hx)
    have hpl := hps pl hpl
    refine st_asg ?_
    refine seen_c F4 no hpl rfl rfl rfl ?_
    refine st_asg ?_
    refine due_c F4 no hpl rfl rfl ?_
    refine st_no (fun KT hK => rev_c F4 no hpl rfl rfl rfl hK) ?_
    refine last_if (fun KT hK => not_c F4 w1 w2 no hpl rfl rfl rfl rfl hK) ?_
    exact ⟨rfl, _, _, _, rfl⟩
  · rintro δ M' ⟨rfl, _⟩
    exact ⟨M', Sub.refl _, h M' (hB5.mono (by omega)) P5 S5⟩
end DD
end
section
namespace DD
open PySem PySem.Spec PyProof.Rows L2
theorem k_law (P : Addr) (ds : List D) (M : Mem) (R : DK) (h : spLaw [P] ds M R) : r_law spBag (spTold P) (endsF R) (startD N_law ds) M := by
  obtain ⟨d, cells, rfl, hit, hsc, hl, hbits, hT, k⟩ := h
  have hP : M P = some .tbl := hT P (by simp)
  have sl := size_line
  obtain ⟨ok, hsrc, hok⟩ : ∃ ok, srcD M d = some (cells.map D.int, ok) ∧ ∀ p o, M p = none → ok (updM M p o) := by
    cases d with
    | rol xs => cases hit; exact ⟨_, rfl, fun _ _ _ => trivial⟩
    | ref a =>
      obtain ⟨xs, hx⟩ := hsc
      simp [hx] at hit
      subst hit
      exact ⟨fun M' => M' a = some (.lst (cells.map D.int)), by simp [hx], fun p o hp => (updM_ne (ne_none hp hx)).trans hx⟩
    | _ => exact hsc.elim
  unfold r_law
  simp
  refine ⟨d, cells, ok, rfl, hsrc, hok, hl, fun b g c M1 nb ng nc hB hS => ?_⟩
  have hdb : ∀ (M : Mem), ∃ M0, Sub M0 M ∧ R (.bl true) M0 := fun M => ⟨M, Sub.refl _, k M⟩
  have Pb : P ≠ b := fun e => by rw [← e, hP] at nb; cases nb
  have Pg : P ≠ g := fun e => by rw [← e, hP] at ng; cases ng
  have P1 : M1 P = some .tbl := hS _ _ hP
  clear hS hok hsrc hsc hit hT
  simp
  refine for_in (fun i δ M' => Bag M' b g c (2000000 * i) ∧ M' P = some .tbl ∧ ∃ o2, δ = [some d, some (.ref b), o2]) ⟨hB, P1, _, rfl⟩ (fun _ _ _ _ _ => trivial) ?_ ?_
  · rintro i x δ M' hx ⟨hB, P2, o2, rfl⟩
    obtain ⟨hi, rfl⟩ := range_at hx
    simp
    refine ⟨b, g, c, 2000000 * i, _, rfl, hB, by omega, P2, Pb, Pg, fun M2 B2 P3 S2 => ?_⟩
    have trT : truD M2 (.bl true) = some true := rfl
    simp only [trT]
    simp
    exact ⟨B2.mono (by omega), P3⟩
  · rintro δ M' ⟨hB, P2, o2, rfl⟩
    simp
    exact hdb _
end DD
end
section
namespace DD
open PySem PySem.Spec PyProof.Rows L2
/-! ### a module's tuples of texts -/
def strsB : List Value → List Str → Bool
  | [], [] => true
  | .str y _ :: vs, w :: ws => decide (y = w) && strsB vs ws
  | _, _ => false
def tupB (K : PySem.W.Frag) (x : Str) (ws : List Str) : Bool := He.eqO (PySem.W.nsIn K mainGlobals x) (some (some (.ref (He.ga K x)))) && (match K.lookup (He.ga K x) with
  | some o => decide (o.cls = .type "tuple") && (match o.data with
    | .seq its _ => strsB its.toList ws && decide (its.toList.length ≤ 100)
    | _ => false)
  | none => false)
theorem strs_vals : ∀ {us : List Value} {ws : List Str}, strsB us ws = true → Vals (ws.map V.str) us
  | [], [], _ => .nil
  | [], _ :: _, h => by simp [strsB] at h
  | .str y t :: vs, w :: ws, h => by
    rw [strsB, Bool.and_eq_true] at h
    obtain ⟨h1, h2⟩ := h
    have e := of_decide_eq_true h1
    subst e
    exact .cons ⟨t, rfl⟩ (strs_vals h2)
  | .str y t :: vs, [], h => by simp [strsB] at h
  | .none :: vs, _, h => by simp [strsB] at h
  | .bool _ :: vs, _, h => by simp [strsB] at h
  | .int _ _ :: vs, _, h => by simp [strsB] at h
  | .ref _ :: vs, _, h => by simp [strsB] at h
  | .bytes _ _ :: vs, _, h => by simp [strsB] at h
  | .float _ _ :: vs, _, h => by simp [strsB] at h
  | .type _ :: vs, _, h => by simp [strsB] at h
  | .builtin _ :: vs, _, h => by simp [strsB] at h
theorem strs_rvs {K : PySem.W.Frag} {H : Hp} : ∀ ws : List Str, RVs K H (ws.map D.str) (ws.map V.str)
  | [] => rfl
  | w :: ws => ⟨_, _, rfl, rfl, strs_rvs ws⟩
theorem gconst_tup {W : Wd} {h : Heap} (X : W.K.In h) (G : h.Ns mainGlobals W.mg) {x : Str} {ws : List Str} (c : tupB W.K x ws = true) : GConst W x (.tup (ws.map D.str)) := by
  unfold tupB at c
  rw [Bool.and_eq_true] at c
  obtain ⟨c1, c2⟩ := c
  have hm : W.mg x = some (.ref (He.ga W.K x)) := PySem.W.mg_of X G (He.eqO_ok c1)
  cases e : W.K.lookup (He.ga W.K x) with
  | none => rw [e] at c2; cases c2
  | some o =>
    rw [e] at c2
    simp only [Bool.and_eq_true] at c2
    obtain ⟨c3, c4⟩ := c2
    cases d : o.data with
    | seq its n =>
      rw [d] at c4
      simp only [Bool.and_eq_true] at c4
      obtain ⟨c5, c6⟩ := c4
      have c6 := of_decide_eq_true c6
      refine ⟨_, .ref (He.ga W.K x), hm, rfl, fun H => ⟨_, ws.map V.str, rfl, .inr ⟨o, its, n, e, of_decide_eq_true c3, d, ?_, strs_vals c5⟩, strs_rvs ws⟩⟩
      have : its.toList.length = its.size := by simp
      have sl : sizeLine = 16777216 := by decide
      omega
    | _ => rw [d] at c4; cases c4
end DD
end
section
namespace DD
open PySem PySem.Spec PyProof.Rows L2
/-! ### the head: facts by names -/
def d_sign_of : He.DefD := ⟨("sign_of", none), "sign_of", "sign_of", defArgs s_sign_of, defBody s_sign_of, defScope s_sign_of, [], []⟩
def d_common_divisor : He.DefD := ⟨("common_divisor", none), "common_divisor", "common_divisor", defArgs s_common_divisor, defBody s_common_divisor, defScope s_common_divisor, [], []⟩
def d_parts_of : He.DefD := ⟨("parts_of", none), "parts_of", "parts_of", defArgs s_parts_of, defBody s_parts_of, defScope s_parts_of, [], []⟩
def d_inner_of : He.DefD := ⟨("inner_of", none), "inner_of", "inner_of", defArgs s_inner_of, defBody s_inner_of, defScope s_inner_of, [], []⟩
def d_atoms_of : He.DefD := ⟨("atoms_of", none), "atoms_of", "atoms_of", defArgs s_atoms_of, defBody s_atoms_of, defScope s_atoms_of, [], []⟩
def d_names_in : He.DefD := ⟨("names_in", none), "names_in", "names_in", defArgs s_names_in, defBody s_names_in, defScope s_names_in, [], []⟩
def d_free_names : He.DefD := ⟨("free_names", none), "free_names", "free_names", defArgs s_free_names, defBody s_free_names, defScope s_free_names, [], []⟩
def d_is_constant : He.DefD := ⟨("is_constant", none), "is_constant", "is_constant", defArgs s_is_constant, defBody s_is_constant, defScope s_is_constant, [], []⟩
def d_constant_of : He.DefD := ⟨("constant_of", none), "constant_of", "constant_of", defArgs s_constant_of, defBody s_constant_of, defScope s_constant_of, [], []⟩
def d_primitive_of : He.DefD := ⟨("primitive_of", none), "primitive_of", "primitive_of", defArgs s_primitive_of, defBody s_primitive_of, defScope s_primitive_of, [], []⟩
def d_polynomials_of : He.DefD := ⟨("polynomials_of", none), "polynomials_of", "polynomials_of", defArgs s_polynomials_of, defBody s_polynomials_of, defScope s_polynomials_of, [], []⟩
def d_holds_for : He.DefD := ⟨("holds_for", none), "holds_for", "holds_for", defArgs s_holds_for, defBody s_holds_for, defScope s_holds_for, [], []⟩
def d_sign_by : He.DefD := ⟨("sign_by", none), "sign_by", "sign_by", defArgs s_sign_by, defBody s_sign_by, defScope s_sign_by, [], []⟩
def d_joined_by : He.DefD := ⟨("joined_by", none), "joined_by", "joined_by", defArgs s_joined_by, defBody s_joined_by, defScope s_joined_by, [], []⟩
def d_holds_by : He.DefD := ⟨("holds_by", none), "holds_by", "holds_by", defArgs s_holds_by, defBody s_holds_by, defScope s_holds_by, [], []⟩
def d_highest_powers : He.DefD := ⟨("highest_powers", none), "highest_powers", "highest_powers", defArgs s_highest_powers, defBody s_highest_powers, defScope s_highest_powers, [], []⟩
def d_powers_up_to : He.DefD := ⟨("powers_up_to", none), "powers_up_to", "powers_up_to", defArgs s_powers_up_to, defBody s_powers_up_to, defScope s_powers_up_to, [], []⟩
def d_sign_at_place : He.DefD := ⟨("sign_at_place", none), "sign_at_place", "sign_at_place", defArgs s_sign_at_place, defBody s_sign_at_place, defScope s_sign_at_place, [], []⟩
def d_holds_at : He.DefD := ⟨("holds_at", none), "holds_at", "holds_at", defArgs s_holds_at, defBody s_holds_at, defScope s_holds_at, [], []⟩
def d_l_bag : He.DefD := ⟨("_law_bag", none), "_law_bag", "_law_bag", defArgs s_l_bag, defBody s_l_bag, defScope s_l_bag, [], []⟩
def d_l_draw : He.DefD := ⟨("_law_draw", none), "_law_draw", "_law_draw", defArgs s_l_draw, defBody s_l_draw, defScope s_l_draw, [], []⟩
def d_l_pick : He.DefD := ⟨("_law_pick", none), "_law_pick", "_law_pick", defArgs s_l_pick, defBody s_l_pick, defScope s_l_pick, [], []⟩
def d_l_some : He.DefD := ⟨("_law_some", none), "_law_some", "_law_some", defArgs s_l_some, defBody s_l_some, defScope s_l_some, [], []⟩
def d_l_same : He.DefD := ⟨("_law_same", none), "_law_same", "_law_same", defArgs s_l_same, defBody s_l_same, defScope s_l_same, [], []⟩
def d_l_gcd : He.DefD := ⟨("_law_gcd", none), "_law_gcd", "_law_gcd", defArgs s_l_gcd, defBody s_l_gcd, defScope s_l_gcd, [], []⟩
def d_l_fr : He.DefD := ⟨("_law_fr", none), "_law_fr", "_law_fr", defArgs s_l_fr, defBody s_l_fr, defScope s_l_fr, [], []⟩
def d_l_add : He.DefD := ⟨("_law_add", none), "_law_add", "_law_add", defArgs s_l_add, defBody s_l_add, defScope s_l_add, [], []⟩
def d_l_mul : He.DefD := ⟨("_law_mul", none), "_law_mul", "_law_mul", defArgs s_l_mul, defBody s_l_mul, defScope s_l_mul, [], []⟩
def d_l_content : He.DefD := ⟨("_law_content", none), "_law_content", "_law_content", defArgs s_l_content, defBody s_l_content, defScope s_l_content, [], []⟩
def d_l_polynomial : He.DefD := ⟨("_law_polynomial", none), "_law_polynomial", "_law_polynomial", defArgs s_l_polynomial, defBody s_l_polynomial, defScope s_l_polynomial, [], []⟩
def d_l_sentence : He.DefD := ⟨("_law_sentence", none), "_law_sentence", "_law_sentence", defArgs s_l_sentence, defBody s_l_sentence, defScope s_l_sentence, [], []⟩
def d_l_many : He.DefD := ⟨("_law_many", none), "_law_many", "_law_many", defArgs s_l_many, defBody s_l_many, defScope s_l_many, [], []⟩
def d_l_atoms : He.DefD := ⟨("_law_atoms", none), "_law_atoms", "_law_atoms", defArgs s_l_atoms, defBody s_l_atoms, defScope s_l_atoms, [], []⟩
def d_l_bound : He.DefD := ⟨("_law_bound", none), "_law_bound", "_law_bound", defArgs s_l_bound, defBody s_l_bound, defScope s_l_bound, [], []⟩
def d_l_free : He.DefD := ⟨("_law_free", none), "_law_free", "_law_free", defArgs s_l_free, defBody s_l_free, defScope s_l_free, [], []⟩
def d_l_polys : He.DefD := ⟨("_law_polys", none), "_law_polys", "_law_polys", defArgs s_l_polys, defBody s_l_polys, defScope s_l_polys, [], []⟩
def d_l_worth : He.DefD := ⟨("_law_worth", none), "_law_worth", "_law_worth", defArgs s_l_worth, defBody s_l_worth, defScope s_l_worth, [], []⟩
def d_l_holds : He.DefD := ⟨("_law_holds", none), "_law_holds", "_law_holds", defArgs s_l_holds, defBody s_l_holds, defScope s_l_holds, [], []⟩
def d_l_places : He.DefD := ⟨("_law_places", none), "_law_places", "_law_places", defArgs s_l_places, defBody s_l_places, defScope s_l_places, [], []⟩
def d_l_is_told : He.DefD := ⟨("_law_is_told", none), "_law_is_told", "_law_is_told", defArgs s_l_is_told, defBody s_l_is_told, defScope s_l_is_told, [], []⟩
def d_law : He.DefD := ⟨("law", none), "law", "law", defArgs s_law, defBody s_law, defScope s_law, [], []⟩
def fnAll0 : List He.DefD := [d_sign_of, d_common_divisor, d_parts_of, d_inner_of, d_atoms_of, d_names_in, d_free_names, d_is_constant, d_constant_of, d_primitive_of, d_polynomials_of, d_holds_for, d_sign_by, d_joined_by, d_holds_by, d_highest_powers, d_powers_up_to, d_sign_at_place, d_holds_at, d_l_bag, d_l_draw, d_l_pick, d_l_some, d_l_same, d_l_gcd, d_l_fr, d_l_add, d_l_mul, d_l_content, d_l_polynomial]
def fnAll1 : List He.DefD := [d_l_sentence, d_l_many, d_l_atoms, d_l_bound, d_l_free, d_l_polys, d_l_worth, d_l_holds, d_l_places, d_l_is_told, d_law]
def fnAll : List He.DefD := fnAll0 ++ fnAll1
def faAll0 : List He.Fa := [.glo "sign_of", .glo "common_divisor", .glo "parts_of", .glo "inner_of", .glo "atoms_of", .glo "names_in", .glo "free_names", .glo "is_constant", .glo "constant_of", .glo "primitive_of", .glo "polynomials_of", .glo "holds_for", .glo "sign_by", .glo "joined_by", .glo "holds_by", .glo "highest_powers", .glo "powers_up_to", .glo "sign_at_place", .glo "holds_at", .glo "_law_bag", .glo "_law_draw", .glo "_law_pick", .glo "_law_some", .glo "_law_same", .glo "_law_gcd", .glo "_law_fr", .glo "_law_add", .glo "_law_mul", .glo "_law_content", .glo "_law_polynomial"]
def faAll1 : List He.Fa := [.glo "_law_sentence", .glo "_law_many", .glo "_law_atoms", .glo "_law_bound", .glo "_law_free", .glo "_law_polys", .glo "_law_worth", .glo "_law_holds", .glo "_law_places", .glo "_law_is_told", .glo "law", .free "len", .free "abs", .free "sum", .free "min", .free "max", .free "any", .free "all", .free "sorted", .free "isinstance", .free "int", .free "bool", .free "str", .free "list", .free "tuple", .free "dict", .free "set", .free "range", .free "enumerate", .free "zip"]
def faAll2 : List He.Fa := [.free "reversed"]
def faAll : List He.Fa := faAll0 ++ faAll1 ++ faAll2
def tfAll : List He.Defn := [("names_in", none)]
def exAll : PySem.W.Frag → Bool := fun K => He.eqO (PySem.W.nsIn K mainGlobals "gcd") (some (some (.builtin "math.gcd"))) && (tupB K "NAMES" ["x", "y", "z"] && (tupB K "ATOM_WORDS" ["less", "most", "is"] && (tupB K "JOIN_WORDS" ["and", "or"] && (tupB K "OVER_WORDS" ["some", "all"]))))
theorem told_gcd {K : PySem.W.Frag} {h : Heap} {mg : Str → Option Value} (X : K.In h) (G : h.Ns mainGlobals mg) (c : exAll K = true) : mg "gcd" = some (.builtin "math.gcd") := PySem.W.mg_of X G (He.eqO_ok (Bool.and_eq_true_iff.mp c).1)
theorem told_tups {W : Wd} {h : Heap} (X : W.K.In h) (G : h.Ns mainGlobals W.mg) (c : exAll W.K = true) : GConst W "NAMES" c_NAMES ∧ GConst W "ATOM_WORDS" c_ATOM_WORDS ∧ GConst W "JOIN_WORDS" c_JOIN_WORDS ∧ GConst W "OVER_WORDS" c_OVER_WORDS := ⟨gconst_tup X G (Bool.and_eq_true_iff.mp (Bool.and_eq_true_iff.mp c).2).1, gconst_tup X G (Bool.and_eq_true_iff.mp (Bool.and_eq_true_iff.mp (Bool.and_eq_true_iff.mp c).2).2).1, gconst_tup X G (Bool.and_eq_true_iff.mp (Bool.and_eq_true_iff.mp (Bool.and_eq_true_iff.mp (Bool.and_eq_true_iff.mp c).2).2).2).1, gconst_tup X G (Bool.and_eq_true_iff.mp (Bool.and_eq_true_iff.mp (Bool.and_eq_true_iff.mp (Bool.and_eq_true_iff.mp c).2).2).2).2⟩
def looseAll0 : List Str := ["sign_of", "common_divisor", "NAMES", "ATOM_WORDS", "JOIN_WORDS", "OVER_WORDS", "parts_of", "inner_of", "atoms_of", "names_in", "free_names", "is_constant", "constant_of", "primitive_of", "polynomials_of", "holds_for", "sign_by", "joined_by", "holds_by", "highest_powers", "powers_up_to", "sign_at_place", "holds_at", "_law_bag", "_law_draw", "_law_pick", "_law_some", "_law_same", "_law_gcd", "_law_fr"]
def looseAll1 : List Str := ["_law_add", "_law_mul", "_law_content", "_law_polynomial", "_law_sentence", "_law_many", "_law_atoms", "_law_bound", "_law_free", "_law_polys", "_law_worth", "_law_holds", "_law_places", "_law_is_told"]
def looseAll : List Str := looseAll0 ++ looseAll1
abbrev Rw : PySem.W.OpenRow := PySem.W.OpenLaw.row PySem.Challenge.rw_wayorring_k11_names_polynomials_places
abbrev hkAll : PySem.W.Hook := He.hookX 5 faAll fnAll [] tfAll exAll
def obAll (s : PySem.W.SharedT) : He.AlX := He.obsX 5 faAll fnAll [] tfAll exAll (HandSHeadRun.getT s)
theorem obAll_eq (s : PySem.W.SharedT) : obAll s = hkAll.obs s.abs := He.obsX_eq (HandSHeadRun.getT_eq s)
theorem runAll (w : World) : HandSHeadRun.RunEqI Rw (PySem.W.view Rw.prog [0, 48]) hkAll obAll 20000 looseAll w := by
  unfold HandSHeadRun.RunEqI
  kernel_rfl
structure Told (K : PySem.W.Frag) (mg : Str → Option Value) : Prop where
  t_sign_of : ∃ fd, FnP K "sign_of" "sign_of" s_sign_of (He.fAd K d_sign_of.at_) fd
  g_sign_of : mg "sign_of" = some (.ref (He.fAd K d_sign_of.at_))
  t_common_divisor : ∃ fd, FnP K "common_divisor" "common_divisor" s_common_divisor (He.fAd K d_common_divisor.at_) fd
  g_common_divisor : mg "common_divisor" = some (.ref (He.fAd K d_common_divisor.at_))
  t_parts_of : ∃ fd, FnP K "parts_of" "parts_of" s_parts_of (He.fAd K d_parts_of.at_) fd
  g_parts_of : mg "parts_of" = some (.ref (He.fAd K d_parts_of.at_))
  t_inner_of : ∃ fd, FnP K "inner_of" "inner_of" s_inner_of (He.fAd K d_inner_of.at_) fd
  g_inner_of : mg "inner_of" = some (.ref (He.fAd K d_inner_of.at_))
  t_atoms_of : ∃ fd, FnP K "atoms_of" "atoms_of" s_atoms_of (He.fAd K d_atoms_of.at_) fd
  g_atoms_of : mg "atoms_of" = some (.ref (He.fAd K d_atoms_of.at_))
  t_names_in : ∃ fd, FnP K "names_in" "names_in" s_names_in (He.fAd K d_names_in.at_) fd
  g_names_in : mg "names_in" = some (.ref (He.fAd K d_names_in.at_))
  t_free_names : ∃ fd, FnP K "free_names" "free_names" s_free_names (He.fAd K d_free_names.at_) fd
  g_free_names : mg "free_names" = some (.ref (He.fAd K d_free_names.at_))
  t_is_constant : ∃ fd, FnP K "is_constant" "is_constant" s_is_constant (He.fAd K d_is_constant.at_) fd
  g_is_constant : mg "is_constant" = some (.ref (He.fAd K d_is_constant.at_))
  t_constant_of : ∃ fd, FnP K "constant_of" "constant_of" s_constant_of (He.fAd K d_constant_of.at_) fd
  g_constant_of : mg "constant_of" = some (.ref (He.fAd K d_constant_of.at_))
  t_primitive_of : ∃ fd, FnP K "primitive_of" "primitive_of" s_primitive_of (He.fAd K d_primitive_of.at_) fd
  g_primitive_of : mg "primitive_of" = some (.ref (He.fAd K d_primitive_of.at_))
  t_polynomials_of : ∃ fd, FnP K "polynomials_of" "polynomials_of" s_polynomials_of (He.fAd K d_polynomials_of.at_) fd
  g_polynomials_of : mg "polynomials_of" = some (.ref (He.fAd K d_polynomials_of.at_))
  t_holds_for : ∃ fd, FnP K "holds_for" "holds_for" s_holds_for (He.fAd K d_holds_for.at_) fd
  g_holds_for : mg "holds_for" = some (.ref (He.fAd K d_holds_for.at_))
  t_sign_by : ∃ fd, FnP K "sign_by" "sign_by" s_sign_by (He.fAd K d_sign_by.at_) fd
  g_sign_by : mg "sign_by" = some (.ref (He.fAd K d_sign_by.at_))
  t_joined_by : ∃ fd, FnP K "joined_by" "joined_by" s_joined_by (He.fAd K d_joined_by.at_) fd
  g_joined_by : mg "joined_by" = some (.ref (He.fAd K d_joined_by.at_))
  t_holds_by : ∃ fd, FnP K "holds_by" "holds_by" s_holds_by (He.fAd K d_holds_by.at_) fd
  g_holds_by : mg "holds_by" = some (.ref (He.fAd K d_holds_by.at_))
  t_highest_powers : ∃ fd, FnP K "highest_powers" "highest_powers" s_highest_powers (He.fAd K d_highest_powers.at_) fd
  g_highest_powers : mg "highest_powers" = some (.ref (He.fAd K d_highest_powers.at_))
  t_powers_up_to : ∃ fd, FnP K "powers_up_to" "powers_up_to" s_powers_up_to (He.fAd K d_powers_up_to.at_) fd
  g_powers_up_to : mg "powers_up_to" = some (.ref (He.fAd K d_powers_up_to.at_))
  t_sign_at_place : ∃ fd, FnP K "sign_at_place" "sign_at_place" s_sign_at_place (He.fAd K d_sign_at_place.at_) fd
  g_sign_at_place : mg "sign_at_place" = some (.ref (He.fAd K d_sign_at_place.at_))
  t_holds_at : ∃ fd, FnP K "holds_at" "holds_at" s_holds_at (He.fAd K d_holds_at.at_) fd
  g_holds_at : mg "holds_at" = some (.ref (He.fAd K d_holds_at.at_))
  t_l_bag : ∃ fd, FnP K "_law_bag" "_law_bag" s_l_bag (He.fAd K d_l_bag.at_) fd
  g_l_bag : mg "_law_bag" = some (.ref (He.fAd K d_l_bag.at_))
  t_l_draw : ∃ fd, FnP K "_law_draw" "_law_draw" s_l_draw (He.fAd K d_l_draw.at_) fd
  g_l_draw : mg "_law_draw" = some (.ref (He.fAd K d_l_draw.at_))
  t_l_pick : ∃ fd, FnP K "_law_pick" "_law_pick" s_l_pick (He.fAd K d_l_pick.at_) fd
  g_l_pick : mg "_law_pick" = some (.ref (He.fAd K d_l_pick.at_))
  t_l_some : ∃ fd, FnP K "_law_some" "_law_some" s_l_some (He.fAd K d_l_some.at_) fd
  g_l_some : mg "_law_some" = some (.ref (He.fAd K d_l_some.at_))
  t_l_same : ∃ fd, FnP K "_law_same" "_law_same" s_l_same (He.fAd K d_l_same.at_) fd
  g_l_same : mg "_law_same" = some (.ref (He.fAd K d_l_same.at_))
  t_l_gcd : ∃ fd, FnP K "_law_gcd" "_law_gcd" s_l_gcd (He.fAd K d_l_gcd.at_) fd
  g_l_gcd : mg "_law_gcd" = some (.ref (He.fAd K d_l_gcd.at_))
  t_l_fr : ∃ fd, FnP K "_law_fr" "_law_fr" s_l_fr (He.fAd K d_l_fr.at_) fd
  g_l_fr : mg "_law_fr" = some (.ref (He.fAd K d_l_fr.at_))
  t_l_add : ∃ fd, FnP K "_law_add" "_law_add" s_l_add (He.fAd K d_l_add.at_) fd
  g_l_add : mg "_law_add" = some (.ref (He.fAd K d_l_add.at_))
  t_l_mul : ∃ fd, FnP K "_law_mul" "_law_mul" s_l_mul (He.fAd K d_l_mul.at_) fd
  g_l_mul : mg "_law_mul" = some (.ref (He.fAd K d_l_mul.at_))
  t_l_content : ∃ fd, FnP K "_law_content" "_law_content" s_l_content (He.fAd K d_l_content.at_) fd
  g_l_content : mg "_law_content" = some (.ref (He.fAd K d_l_content.at_))
  t_l_polynomial : ∃ fd, FnP K "_law_polynomial" "_law_polynomial" s_l_polynomial (He.fAd K d_l_polynomial.at_) fd
  g_l_polynomial : mg "_law_polynomial" = some (.ref (He.fAd K d_l_polynomial.at_))
  t_l_sentence : ∃ fd, FnP K "_law_sentence" "_law_sentence" s_l_sentence (He.fAd K d_l_sentence.at_) fd
  g_l_sentence : mg "_law_sentence" = some (.ref (He.fAd K d_l_sentence.at_))
  t_l_many : ∃ fd, FnP K "_law_many" "_law_many" s_l_many (He.fAd K d_l_many.at_) fd
  g_l_many : mg "_law_many" = some (.ref (He.fAd K d_l_many.at_))
  t_l_atoms : ∃ fd, FnP K "_law_atoms" "_law_atoms" s_l_atoms (He.fAd K d_l_atoms.at_) fd
  g_l_atoms : mg "_law_atoms" = some (.ref (He.fAd K d_l_atoms.at_))
  t_l_bound : ∃ fd, FnP K "_law_bound" "_law_bound" s_l_bound (He.fAd K d_l_bound.at_) fd
  g_l_bound : mg "_law_bound" = some (.ref (He.fAd K d_l_bound.at_))
  t_l_free : ∃ fd, FnP K "_law_free" "_law_free" s_l_free (He.fAd K d_l_free.at_) fd
  g_l_free : mg "_law_free" = some (.ref (He.fAd K d_l_free.at_))
  t_l_polys : ∃ fd, FnP K "_law_polys" "_law_polys" s_l_polys (He.fAd K d_l_polys.at_) fd
  g_l_polys : mg "_law_polys" = some (.ref (He.fAd K d_l_polys.at_))
  t_l_worth : ∃ fd, FnP K "_law_worth" "_law_worth" s_l_worth (He.fAd K d_l_worth.at_) fd
  g_l_worth : mg "_law_worth" = some (.ref (He.fAd K d_l_worth.at_))
  t_l_holds : ∃ fd, FnP K "_law_holds" "_law_holds" s_l_holds (He.fAd K d_l_holds.at_) fd
  g_l_holds : mg "_law_holds" = some (.ref (He.fAd K d_l_holds.at_))
  t_l_places : ∃ fd, FnP K "_law_places" "_law_places" s_l_places (He.fAd K d_l_places.at_) fd
  g_l_places : mg "_law_places" = some (.ref (He.fAd K d_l_places.at_))
  t_l_is_told : ∃ fd, FnP K "_law_is_told" "_law_is_told" s_l_is_told (He.fAd K d_l_is_told.at_) fd
  g_l_is_told : mg "_law_is_told" = some (.ref (He.fAd K d_l_is_told.at_))
  t_law : ∃ fd, FnP K "law" "law" s_law (He.fAd K d_law.at_) fd
  g_law : mg "law" = some (.ref (He.fAd K d_law.at_))
  nb_len : mg "len" = none
  nb_abs : mg "abs" = none
  nb_sum : mg "sum" = none
  nb_min : mg "min" = none
  nb_max : mg "max" = none
  nb_any : mg "any" = none
  nb_all : mg "all" = none
  nb_sorted : mg "sorted" = none
  nb_isinstance : mg "isinstance" = none
  nb_int : mg "int" = none
  nb_bool : mg "bool" = none
  nb_str : mg "str" = none
  nb_list : mg "list" = none
  nb_tuple : mg "tuple" = none
  nb_dict : mg "dict" = none
  nb_set : mg "set" = none
  nb_range : mg "range" = none
  nb_enumerate : mg "enumerate" = none
  nb_zip : mg "zip" = none
  nb_reversed : mg "reversed" = none
theorem told {K : PySem.W.Frag} {h : Heap} {mg : Str → Option Value} (X : K.In h) (G : h.Ns mainGlobals mg) (c : He.SaysD faAll fnAll K) : Told K mg where
  t_sign_of := c.def_ 0 (d := d_sign_of) rfl
  g_sign_of := He.glo_ok X G (c.fact 0 (f := .glo "sign_of") rfl)
  t_common_divisor := c.def_ 1 (d := d_common_divisor) rfl
  g_common_divisor := He.glo_ok X G (c.fact 1 (f := .glo "common_divisor") rfl)
  t_parts_of := c.def_ 2 (d := d_parts_of) rfl
  g_parts_of := He.glo_ok X G (c.fact 2 (f := .glo "parts_of") rfl)
  t_inner_of := c.def_ 3 (d := d_inner_of) rfl
  g_inner_of := He.glo_ok X G (c.fact 3 (f := .glo "inner_of") rfl)
  t_atoms_of := c.def_ 4 (d := d_atoms_of) rfl
  g_atoms_of := He.glo_ok X G (c.fact 4 (f := .glo "atoms_of") rfl)
  t_names_in := c.def_ 5 (d := d_names_in) rfl
  g_names_in := He.glo_ok X G (c.fact 5 (f := .glo "names_in") rfl)
  t_free_names := c.def_ 6 (d := d_free_names) rfl
  g_free_names := He.glo_ok X G (c.fact 6 (f := .glo "free_names") rfl)
  t_is_constant := c.def_ 7 (d := d_is_constant) rfl
  g_is_constant := He.glo_ok X G (c.fact 7 (f := .glo "is_constant") rfl)
  t_constant_of := c.def_ 8 (d := d_constant_of) rfl
  g_constant_of := He.glo_ok X G (c.fact 8 (f := .glo "constant_of") rfl)
  t_primitive_of := c.def_ 9 (d := d_primitive_of) rfl
  g_primitive_of := He.glo_ok X G (c.fact 9 (f := .glo "primitive_of") rfl)
  t_polynomials_of := c.def_ 10 (d := d_polynomials_of) rfl
  g_polynomials_of := He.glo_ok X G (c.fact 10 (f := .glo "polynomials_of") rfl)
  t_holds_for := c.def_ 11 (d := d_holds_for) rfl
  g_holds_for := He.glo_ok X G (c.fact 11 (f := .glo "holds_for") rfl)
  t_sign_by := c.def_ 12 (d := d_sign_by) rfl
  g_sign_by := He.glo_ok X G (c.fact 12 (f := .glo "sign_by") rfl)
  t_joined_by := c.def_ 13 (d := d_joined_by) rfl
  g_joined_by := He.glo_ok X G (c.fact 13 (f := .glo "joined_by") rfl)
  t_holds_by := c.def_ 14 (d := d_holds_by) rfl
  g_holds_by := He.glo_ok X G (c.fact 14 (f := .glo "holds_by") rfl)
  t_highest_powers := c.def_ 15 (d := d_highest_powers) rfl
  g_highest_powers := He.glo_ok X G (c.fact 15 (f := .glo "highest_powers") rfl)
  t_powers_up_to := c.def_ 16 (d := d_powers_up_to) rfl
  g_powers_up_to := He.glo_ok X G (c.fact 16 (f := .glo "powers_up_to") rfl)
  t_sign_at_place := c.def_ 17 (d := d_sign_at_place) rfl
  g_sign_at_place := He.glo_ok X G (c.fact 17 (f := .glo "sign_at_place") rfl)
  t_holds_at := c.def_ 18 (d := d_holds_at) rfl
  g_holds_at := He.glo_ok X G (c.fact 18 (f := .glo "holds_at") rfl)
  t_l_bag := c.def_ 19 (d := d_l_bag) rfl
  g_l_bag := He.glo_ok X G (c.fact 19 (f := .glo "_law_bag") rfl)
  t_l_draw := c.def_ 20 (d := d_l_draw) rfl
  g_l_draw := He.glo_ok X G (c.fact 20 (f := .glo "_law_draw") rfl)
  t_l_pick := c.def_ 21 (d := d_l_pick) rfl
  g_l_pick := He.glo_ok X G (c.fact 21 (f := .glo "_law_pick") rfl)
  t_l_some := c.def_ 22 (d := d_l_some) rfl
  g_l_some := He.glo_ok X G (c.fact 22 (f := .glo "_law_some") rfl)
  t_l_same := c.def_ 23 (d := d_l_same) rfl
  g_l_same := He.glo_ok X G (c.fact 23 (f := .glo "_law_same") rfl)
  t_l_gcd := c.def_ 24 (d := d_l_gcd) rfl
  g_l_gcd := He.glo_ok X G (c.fact 24 (f := .glo "_law_gcd") rfl)
  t_l_fr := c.def_ 25 (d := d_l_fr) rfl
  g_l_fr := He.glo_ok X G (c.fact 25 (f := .glo "_law_fr") rfl)
  t_l_add := c.def_ 26 (d := d_l_add) rfl
  g_l_add := He.glo_ok X G (c.fact 26 (f := .glo "_law_add") rfl)
  t_l_mul := c.def_ 27 (d := d_l_mul) rfl
  g_l_mul := He.glo_ok X G (c.fact 27 (f := .glo "_law_mul") rfl)
  t_l_content := c.def_ 28 (d := d_l_content) rfl
  g_l_content := He.glo_ok X G (c.fact 28 (f := .glo "_law_content") rfl)
  t_l_polynomial := c.def_ 29 (d := d_l_polynomial) rfl
  g_l_polynomial := He.glo_ok X G (c.fact 29 (f := .glo "_law_polynomial") rfl)
  t_l_sentence := c.def_ 30 (d := d_l_sentence) rfl
  g_l_sentence := He.glo_ok X G (c.fact 30 (f := .glo "_law_sentence") rfl)
  t_l_many := c.def_ 31 (d := d_l_many) rfl
  g_l_many := He.glo_ok X G (c.fact 31 (f := .glo "_law_many") rfl)
  t_l_atoms := c.def_ 32 (d := d_l_atoms) rfl
  g_l_atoms := He.glo_ok X G (c.fact 32 (f := .glo "_law_atoms") rfl)
  t_l_bound := c.def_ 33 (d := d_l_bound) rfl
  g_l_bound := He.glo_ok X G (c.fact 33 (f := .glo "_law_bound") rfl)
  t_l_free := c.def_ 34 (d := d_l_free) rfl
  g_l_free := He.glo_ok X G (c.fact 34 (f := .glo "_law_free") rfl)
  t_l_polys := c.def_ 35 (d := d_l_polys) rfl
  g_l_polys := He.glo_ok X G (c.fact 35 (f := .glo "_law_polys") rfl)
  t_l_worth := c.def_ 36 (d := d_l_worth) rfl
  g_l_worth := He.glo_ok X G (c.fact 36 (f := .glo "_law_worth") rfl)
  t_l_holds := c.def_ 37 (d := d_l_holds) rfl
  g_l_holds := He.glo_ok X G (c.fact 37 (f := .glo "_law_holds") rfl)
  t_l_places := c.def_ 38 (d := d_l_places) rfl
  g_l_places := He.glo_ok X G (c.fact 38 (f := .glo "_law_places") rfl)
  t_l_is_told := c.def_ 39 (d := d_l_is_told) rfl
  g_l_is_told := He.glo_ok X G (c.fact 39 (f := .glo "_law_is_told") rfl)
  t_law := c.def_ 40 (d := d_law) rfl
  g_law := He.glo_ok X G (c.fact 40 (f := .glo "law") rfl)
  nb_len := He.free_ok X G (c.fact 41 (f := .free "len") rfl)
  nb_abs := He.free_ok X G (c.fact 42 (f := .free "abs") rfl)
  nb_sum := He.free_ok X G (c.fact 43 (f := .free "sum") rfl)
  nb_min := He.free_ok X G (c.fact 44 (f := .free "min") rfl)
  nb_max := He.free_ok X G (c.fact 45 (f := .free "max") rfl)
  nb_any := He.free_ok X G (c.fact 46 (f := .free "any") rfl)
  nb_all := He.free_ok X G (c.fact 47 (f := .free "all") rfl)
  nb_sorted := He.free_ok X G (c.fact 48 (f := .free "sorted") rfl)
  nb_isinstance := He.free_ok X G (c.fact 49 (f := .free "isinstance") rfl)
  nb_int := He.free_ok X G (c.fact 50 (f := .free "int") rfl)
  nb_bool := He.free_ok X G (c.fact 51 (f := .free "bool") rfl)
  nb_str := He.free_ok X G (c.fact 52 (f := .free "str") rfl)
  nb_list := He.free_ok X G (c.fact 53 (f := .free "list") rfl)
  nb_tuple := He.free_ok X G (c.fact 54 (f := .free "tuple") rfl)
  nb_dict := He.free_ok X G (c.fact 55 (f := .free "dict") rfl)
  nb_set := He.free_ok X G (c.fact 56 (f := .free "set") rfl)
  nb_range := He.free_ok X G (c.fact 57 (f := .free "range") rfl)
  nb_enumerate := He.free_ok X G (c.fact 58 (f := .free "enumerate") rfl)
  nb_zip := He.free_ok X G (c.fact 59 (f := .free "zip") rfl)
  nb_reversed := He.free_ok X G (c.fact 60 (f := .free "reversed") rfl)
theorem Told.nb {K : PySem.W.Frag} {W : Wd} (T : Told K W.mg) : NB W := ⟨T.nb_len, T.nb_abs, T.nb_sum, T.nb_min, T.nb_max, T.nb_any, T.nb_all, T.nb_sorted, T.nb_isinstance, T.nb_int, T.nb_bool, T.nb_str, T.nb_list, T.nb_tuple, T.nb_dict, T.nb_set, T.nb_range, T.nb_enumerate, T.nb_zip, T.nb_reversed⟩
end DD
end
section
namespace DD
open PySem PySem.Spec PyProof.Rows L2
/-! ### every def keeps its promise -/
theorem all11 {W : Wd} (T : Told W.K W.mg) (ng : W.mg "gcd" = some (.builtin "math.gcd")) (TU : GConst W "NAMES" c_NAMES ∧ GConst W "ATOM_WORDS" c_ATOM_WORDS ∧ GConst W "JOIN_WORDS" c_JOIN_WORDS ∧ GConst W "OVER_WORDS" c_OVER_WORDS) (TB : GxR.TabB W.base W.mg (He.cT W.K ("names_in", none)).1 (He.cT W.K ("names_in", none)).2) {fl : FuncData} (Fl : FnP W.K "law" "law" s_law (He.fAd W.K ("law", none)) fl) : DFn W 13 (He.fAd W.K ("law", none)) fl ["script"] (spLaw [(He.cT W.K ("names_in", none)).2]) := by
  have nb := T.nb
  have gc_NAMES := TU.1
  have gc_ATOM_WORDS := TU.2.1
  have gc_JOIN_WORDS := TU.2.2.1
  have gc_OVER_WORDS := TU.2.2.2
  generalize hP : (He.cT W.K ("names_in", none)).2 = P at TB ⊢
  obtain ⟨f_sign_of, F_sign_of⟩ := T.t_sign_of
  have d_sign_of : DFn W 1 (He.fAd W.K ("sign_of", none)) f_sign_of P_sign_of (spSign) := dfn_mkD F_sign_of sc_sign_of (bd_sign_of F_sign_of) (fun ds M R h => by first | (obtain ⟨_, rfl, _⟩ := h; rfl) | (obtain ⟨_, _, rfl, _⟩ := h; rfl) | (obtain ⟨_, _, _, rfl, _⟩ := h; rfl) | (obtain ⟨_, _, _, _, rfl, _⟩ := h; rfl) | (obtain ⟨_, _, _, _, _, rfl, _⟩ := h; rfl) | (obtain ⟨_, _, _, _, _, _, rfl, _⟩ := h; rfl) | (obtain ⟨_, _, _, _, _, _, _, rfl, _⟩ := h; rfl) | (obtain ⟨_, _, _, _, _, _, _, _, rfl, _⟩ := h; rfl) | (obtain ⟨_, _, _, _, _, _, _, _, _, rfl, _⟩ := h; rfl)) ⟨r_sign_of , (body_sign_of ).c, k_sign_of⟩
  have g_sign_of : GFn W 1 "sign_of" P_sign_of (spSign) := ⟨_, _, T.g_sign_of, d_sign_of⟩
  obtain ⟨f_common_divisor, F_common_divisor⟩ := T.t_common_divisor
  have d_common_divisor : DFn W 1 (He.fAd W.K ("common_divisor", none)) f_common_divisor P_common_divisor (spCdv) := dfn_mkD F_common_divisor sc_common_divisor (bd_common_divisor F_common_divisor) (fun ds M R h => by first | (obtain ⟨_, rfl, _⟩ := h; rfl) | (obtain ⟨_, _, rfl, _⟩ := h; rfl) | (obtain ⟨_, _, _, rfl, _⟩ := h; rfl) | (obtain ⟨_, _, _, _, rfl, _⟩ := h; rfl) | (obtain ⟨_, _, _, _, _, rfl, _⟩ := h; rfl) | (obtain ⟨_, _, _, _, _, _, rfl, _⟩ := h; rfl) | (obtain ⟨_, _, _, _, _, _, _, rfl, _⟩ := h; rfl) | (obtain ⟨_, _, _, _, _, _, _, _, rfl, _⟩ := h; rfl) | (obtain ⟨_, _, _, _, _, _, _, _, _, rfl, _⟩ := h; rfl)) ⟨r_common_divisor , (body_common_divisor ng).c, k_common_divisor⟩
  have g_common_divisor : GFn W 1 "common_divisor" P_common_divisor (spCdv) := ⟨_, _, T.g_common_divisor, d_common_divisor⟩
  obtain ⟨f_parts_of, F_parts_of⟩ := T.t_parts_of
  have d_parts_of : DFn W 1 (He.fAd W.K ("parts_of", none)) f_parts_of P_parts_of (spParts) := dfn_mkD F_parts_of sc_parts_of (bd_parts_of F_parts_of) (fun ds M R h => by first | (obtain ⟨_, rfl, _⟩ := h; rfl) | (obtain ⟨_, _, rfl, _⟩ := h; rfl) | (obtain ⟨_, _, _, rfl, _⟩ := h; rfl) | (obtain ⟨_, _, _, _, rfl, _⟩ := h; rfl) | (obtain ⟨_, _, _, _, _, rfl, _⟩ := h; rfl) | (obtain ⟨_, _, _, _, _, _, rfl, _⟩ := h; rfl) | (obtain ⟨_, _, _, _, _, _, _, rfl, _⟩ := h; rfl) | (obtain ⟨_, _, _, _, _, _, _, _, rfl, _⟩ := h; rfl) | (obtain ⟨_, _, _, _, _, _, _, _, _, rfl, _⟩ := h; rfl)) ⟨r_parts_of , (body_parts_of gc_JOIN_WORDS gc_OVER_WORDS).c, k_parts_of⟩
  have g_parts_of : GFn W 1 "parts_of" P_parts_of (spParts) := ⟨_, _, T.g_parts_of, d_parts_of⟩
  obtain ⟨f_inner_of, F_inner_of⟩ := T.t_inner_of
  have d_inner_of : DFn W 2 (He.fAd W.K ("inner_of", none)) f_inner_of P_inner_of (spInner) := dfn_mkD F_inner_of sc_inner_of (bd_inner_of F_inner_of) (fun ds M R h => by first | (obtain ⟨_, rfl, _⟩ := h; rfl) | (obtain ⟨_, _, rfl, _⟩ := h; rfl) | (obtain ⟨_, _, _, rfl, _⟩ := h; rfl) | (obtain ⟨_, _, _, _, rfl, _⟩ := h; rfl) | (obtain ⟨_, _, _, _, _, rfl, _⟩ := h; rfl) | (obtain ⟨_, _, _, _, _, _, rfl, _⟩ := h; rfl) | (obtain ⟨_, _, _, _, _, _, _, rfl, _⟩ := h; rfl) | (obtain ⟨_, _, _, _, _, _, _, _, rfl, _⟩ := h; rfl) | (obtain ⟨_, _, _, _, _, _, _, _, _, rfl, _⟩ := h; rfl)) ⟨r_inner_of spParts, (body_inner_of (g_parts_of.mono (by decide)) nb).c, k_inner_of⟩
  have g_inner_of : GFn W 2 "inner_of" P_inner_of (spInner) := ⟨_, _, T.g_inner_of, d_inner_of⟩
  obtain ⟨f_atoms_of, F_atoms_of⟩ := T.t_atoms_of
  have d_atoms_of : DFn W 3 (He.fAd W.K ("atoms_of", none)) f_atoms_of P_atoms_of (spAtoms) := dfn_mkD F_atoms_of sc_atoms_of (bd_atoms_of F_atoms_of) (fun ds M R h => by first | (obtain ⟨_, rfl, _⟩ := h; rfl) | (obtain ⟨_, _, rfl, _⟩ := h; rfl) | (obtain ⟨_, _, _, rfl, _⟩ := h; rfl) | (obtain ⟨_, _, _, _, rfl, _⟩ := h; rfl) | (obtain ⟨_, _, _, _, _, rfl, _⟩ := h; rfl) | (obtain ⟨_, _, _, _, _, _, rfl, _⟩ := h; rfl) | (obtain ⟨_, _, _, _, _, _, _, rfl, _⟩ := h; rfl) | (obtain ⟨_, _, _, _, _, _, _, _, rfl, _⟩ := h; rfl) | (obtain ⟨_, _, _, _, _, _, _, _, _, rfl, _⟩ := h; rfl)) ⟨r_atoms_of spInner, (body_atoms_of (g_inner_of.mono (by decide)) gc_ATOM_WORDS).c, k_atoms_of⟩
  have g_atoms_of : GFn W 3 "atoms_of" P_atoms_of (spAtoms) := ⟨_, _, T.g_atoms_of, d_atoms_of⟩
  obtain ⟨f_names_in, F_names_in⟩ := T.t_names_in
  have d_names_in : DFn W 2 (He.fAd W.K ("names_in", none)) f_names_in P_names_in (spNames P) := dfn_mkD F_names_in sc_names_in (bd_names_in F_names_in) (fun ds M R h => by first | (obtain ⟨_, rfl, _⟩ := h; rfl) | (obtain ⟨_, _, rfl, _⟩ := h; rfl) | (obtain ⟨_, _, _, rfl, _⟩ := h; rfl) | (obtain ⟨_, _, _, _, rfl, _⟩ := h; rfl) | (obtain ⟨_, _, _, _, _, rfl, _⟩ := h; rfl) | (obtain ⟨_, _, _, _, _, _, rfl, _⟩ := h; rfl) | (obtain ⟨_, _, _, _, _, _, _, rfl, _⟩ := h; rfl) | (obtain ⟨_, _, _, _, _, _, _, _, rfl, _⟩ := h; rfl) | (obtain ⟨_, _, _, _, _, _, _, _, _, rfl, _⟩ := h; rfl)) ⟨r_names_in P, (by rw [code_at F_names_in]; exact body_names_in gc_NAMES nb TB), k_names_in P⟩
  have g_names_in : GFn W 2 "names_in" P_names_in (spNames P) := ⟨_, _, T.g_names_in, d_names_in⟩
  obtain ⟨f_free_names, F_free_names⟩ := T.t_free_names
  have d_free_names : DFn W 3 (He.fAd W.K ("free_names", none)) f_free_names P_free_names (spFreeN P) := dfn_mkD F_free_names sc_free_names (bd_free_names F_free_names) (fun ds M R h => by first | (obtain ⟨_, rfl, _⟩ := h; rfl) | (obtain ⟨_, _, rfl, _⟩ := h; rfl) | (obtain ⟨_, _, _, rfl, _⟩ := h; rfl) | (obtain ⟨_, _, _, _, rfl, _⟩ := h; rfl) | (obtain ⟨_, _, _, _, _, rfl, _⟩ := h; rfl) | (obtain ⟨_, _, _, _, _, _, rfl, _⟩ := h; rfl) | (obtain ⟨_, _, _, _, _, _, _, rfl, _⟩ := h; rfl) | (obtain ⟨_, _, _, _, _, _, _, _, rfl, _⟩ := h; rfl) | (obtain ⟨_, _, _, _, _, _, _, _, _, rfl, _⟩ := h; rfl)) ⟨r_free_names (spNames P) spParts, (body_free_names (g_names_in.mono (by decide)) (g_parts_of.mono (by decide)) gc_ATOM_WORDS gc_OVER_WORDS nb).c, k_free_names P⟩
  have g_free_names : GFn W 3 "free_names" P_free_names (spFreeN P) := ⟨_, _, T.g_free_names, d_free_names⟩
  obtain ⟨f_is_constant, F_is_constant⟩ := T.t_is_constant
  have d_is_constant : DFn W 1 (He.fAd W.K ("is_constant", none)) f_is_constant P_is_constant (spIsC) := dfn_mkD F_is_constant sc_is_constant (bd_is_constant F_is_constant) (fun ds M R h => by first | (obtain ⟨_, rfl, _⟩ := h; rfl) | (obtain ⟨_, _, rfl, _⟩ := h; rfl) | (obtain ⟨_, _, _, rfl, _⟩ := h; rfl) | (obtain ⟨_, _, _, _, rfl, _⟩ := h; rfl) | (obtain ⟨_, _, _, _, _, rfl, _⟩ := h; rfl) | (obtain ⟨_, _, _, _, _, _, rfl, _⟩ := h; rfl) | (obtain ⟨_, _, _, _, _, _, _, rfl, _⟩ := h; rfl) | (obtain ⟨_, _, _, _, _, _, _, _, rfl, _⟩ := h; rfl) | (obtain ⟨_, _, _, _, _, _, _, _, _, rfl, _⟩ := h; rfl)) ⟨r_is_constant , (body_is_constant nb).c, k_is_constant⟩
  have g_is_constant : GFn W 1 "is_constant" P_is_constant (spIsC) := ⟨_, _, T.g_is_constant, d_is_constant⟩
  obtain ⟨f_constant_of, F_constant_of⟩ := T.t_constant_of
  have d_constant_of : DFn W 1 (He.fAd W.K ("constant_of", none)) f_constant_of P_constant_of (spConst) := dfn_mkD F_constant_of sc_constant_of (bd_constant_of F_constant_of) (fun ds M R h => by first | (obtain ⟨_, rfl, _⟩ := h; rfl) | (obtain ⟨_, _, rfl, _⟩ := h; rfl) | (obtain ⟨_, _, _, rfl, _⟩ := h; rfl) | (obtain ⟨_, _, _, _, rfl, _⟩ := h; rfl) | (obtain ⟨_, _, _, _, _, rfl, _⟩ := h; rfl) | (obtain ⟨_, _, _, _, _, _, rfl, _⟩ := h; rfl) | (obtain ⟨_, _, _, _, _, _, _, rfl, _⟩ := h; rfl) | (obtain ⟨_, _, _, _, _, _, _, _, rfl, _⟩ := h; rfl) | (obtain ⟨_, _, _, _, _, _, _, _, _, rfl, _⟩ := h; rfl)) ⟨r_constant_of , (body_constant_of ).c, k_constant_of⟩
  have g_constant_of : GFn W 1 "constant_of" P_constant_of (spConst) := ⟨_, _, T.g_constant_of, d_constant_of⟩
  obtain ⟨f_primitive_of, F_primitive_of⟩ := T.t_primitive_of
  have d_primitive_of : DFn W 2 (He.fAd W.K ("primitive_of", none)) f_primitive_of P_primitive_of (spPrimF) := dfn_mkD F_primitive_of sc_primitive_of (bd_primitive_of F_primitive_of) (fun ds M R h => by first | (obtain ⟨_, rfl, _⟩ := h; rfl) | (obtain ⟨_, _, rfl, _⟩ := h; rfl) | (obtain ⟨_, _, _, rfl, _⟩ := h; rfl) | (obtain ⟨_, _, _, _, rfl, _⟩ := h; rfl) | (obtain ⟨_, _, _, _, _, rfl, _⟩ := h; rfl) | (obtain ⟨_, _, _, _, _, _, rfl, _⟩ := h; rfl) | (obtain ⟨_, _, _, _, _, _, _, rfl, _⟩ := h; rfl) | (obtain ⟨_, _, _, _, _, _, _, _, rfl, _⟩ := h; rfl) | (obtain ⟨_, _, _, _, _, _, _, _, _, rfl, _⟩ := h; rfl)) ⟨r_primitive_of spCdv, (body_primitive_of (g_common_divisor.mono (by decide)) nb).c, k_primitive_of⟩
  have g_primitive_of : GFn W 2 "primitive_of" P_primitive_of (spPrimF) := ⟨_, _, T.g_primitive_of, d_primitive_of⟩
  obtain ⟨f_polynomials_of, F_polynomials_of⟩ := T.t_polynomials_of
  have d_polynomials_of : DFn W 4 (He.fAd W.K ("polynomials_of", none)) f_polynomials_of P_polynomials_of (spPolsOf) := dfn_mkD F_polynomials_of sc_polynomials_of (bd_polynomials_of F_polynomials_of) (fun ds M R h => by first | (obtain ⟨_, rfl, _⟩ := h; rfl) | (obtain ⟨_, _, rfl, _⟩ := h; rfl) | (obtain ⟨_, _, _, rfl, _⟩ := h; rfl) | (obtain ⟨_, _, _, _, rfl, _⟩ := h; rfl) | (obtain ⟨_, _, _, _, _, rfl, _⟩ := h; rfl) | (obtain ⟨_, _, _, _, _, _, rfl, _⟩ := h; rfl) | (obtain ⟨_, _, _, _, _, _, _, rfl, _⟩ := h; rfl) | (obtain ⟨_, _, _, _, _, _, _, _, rfl, _⟩ := h; rfl) | (obtain ⟨_, _, _, _, _, _, _, _, _, rfl, _⟩ := h; rfl)) ⟨r_polynomials_of spAtoms spIsC spPrimF, (body_polynomials_of (g_atoms_of.mono (by decide)) (g_is_constant.mono (by decide)) (g_primitive_of.mono (by decide)) nb).c, k_polynomials_of⟩
  have g_polynomials_of : GFn W 4 "polynomials_of" P_polynomials_of (spPolsOf) := ⟨_, _, T.g_polynomials_of, d_polynomials_of⟩
  obtain ⟨f_holds_for, F_holds_for⟩ := T.t_holds_for
  have d_holds_for : DFn W 1 (He.fAd W.K ("holds_for", none)) f_holds_for P_holds_for (spHf) := dfn_mkD F_holds_for sc_holds_for (bd_holds_for F_holds_for) (fun ds M R h => by first | (obtain ⟨_, rfl, _⟩ := h; rfl) | (obtain ⟨_, _, rfl, _⟩ := h; rfl) | (obtain ⟨_, _, _, rfl, _⟩ := h; rfl) | (obtain ⟨_, _, _, _, rfl, _⟩ := h; rfl) | (obtain ⟨_, _, _, _, _, rfl, _⟩ := h; rfl) | (obtain ⟨_, _, _, _, _, _, rfl, _⟩ := h; rfl) | (obtain ⟨_, _, _, _, _, _, _, rfl, _⟩ := h; rfl) | (obtain ⟨_, _, _, _, _, _, _, _, rfl, _⟩ := h; rfl) | (obtain ⟨_, _, _, _, _, _, _, _, _, rfl, _⟩ := h; rfl)) ⟨r_holds_for , (body_holds_for ).c, k_holds_for⟩
  have g_holds_for : GFn W 1 "holds_for" P_holds_for (spHf) := ⟨_, _, T.g_holds_for, d_holds_for⟩
  obtain ⟨f_sign_by, F_sign_by⟩ := T.t_sign_by
  have d_sign_by : DFn W 3 (He.fAd W.K ("sign_by", none)) f_sign_by P_sign_by (spSgB) := dfn_mkD F_sign_by sc_sign_by (bd_sign_by F_sign_by) (fun ds M R h => by first | (obtain ⟨_, rfl, _⟩ := h; rfl) | (obtain ⟨_, _, rfl, _⟩ := h; rfl) | (obtain ⟨_, _, _, rfl, _⟩ := h; rfl) | (obtain ⟨_, _, _, _, rfl, _⟩ := h; rfl) | (obtain ⟨_, _, _, _, _, rfl, _⟩ := h; rfl) | (obtain ⟨_, _, _, _, _, _, rfl, _⟩ := h; rfl) | (obtain ⟨_, _, _, _, _, _, _, rfl, _⟩ := h; rfl) | (obtain ⟨_, _, _, _, _, _, _, _, rfl, _⟩ := h; rfl) | (obtain ⟨_, _, _, _, _, _, _, _, _, rfl, _⟩ := h; rfl)) ⟨r_sign_by spIsC spSign spConst spPrimF, (body_sign_by (g_is_constant.mono (by decide)) (g_sign_of.mono (by decide)) (g_constant_of.mono (by decide)) (g_primitive_of.mono (by decide))).c, k_sign_by⟩
  have g_sign_by : GFn W 3 "sign_by" P_sign_by (spSgB) := ⟨_, _, T.g_sign_by, d_sign_by⟩
  obtain ⟨f_joined_by, F_joined_by⟩ := T.t_joined_by
  have d_joined_by : DFn W 1 (He.fAd W.K ("joined_by", none)) f_joined_by P_joined_by (spJoin) := dfn_mkD F_joined_by sc_joined_by (bd_joined_by F_joined_by) (fun ds M R h => by first | (obtain ⟨_, rfl, _⟩ := h; rfl) | (obtain ⟨_, _, rfl, _⟩ := h; rfl) | (obtain ⟨_, _, _, rfl, _⟩ := h; rfl) | (obtain ⟨_, _, _, _, rfl, _⟩ := h; rfl) | (obtain ⟨_, _, _, _, _, rfl, _⟩ := h; rfl) | (obtain ⟨_, _, _, _, _, _, rfl, _⟩ := h; rfl) | (obtain ⟨_, _, _, _, _, _, _, rfl, _⟩ := h; rfl) | (obtain ⟨_, _, _, _, _, _, _, _, rfl, _⟩ := h; rfl) | (obtain ⟨_, _, _, _, _, _, _, _, _, rfl, _⟩ := h; rfl)) ⟨r_joined_by , (body_joined_by nb).c, k_joined_by⟩
  have g_joined_by : GFn W 1 "joined_by" P_joined_by (spJoin) := ⟨_, _, T.g_joined_by, d_joined_by⟩
  obtain ⟨f_holds_by, F_holds_by⟩ := T.t_holds_by
  have r_holds_by : ∀ n, DFn W (n + 4) (He.fAd W.K ("holds_by", none)) f_holds_by P_holds_by (spHb n) := by
    intro n
    induction n with
    | zero => exact dfn_mkD F_holds_by sc_holds_by (bd_holds_by F_holds_by) (fun ds M R h => by first | (obtain ⟨_, rfl, _⟩ := h; rfl) | (obtain ⟨_, _, rfl, _⟩ := h; rfl) | (obtain ⟨_, _, _, rfl, _⟩ := h; rfl) | (obtain ⟨_, _, _, _, rfl, _⟩ := h; rfl) | (obtain ⟨_, _, _, _, _, rfl, _⟩ := h; rfl) | (obtain ⟨_, _, _, _, _, _, rfl, _⟩ := h; rfl) | (obtain ⟨_, _, _, _, _, _, _, rfl, _⟩ := h; rfl) | (obtain ⟨_, _, _, _, _, _, _, _, rfl, _⟩ := h; rfl) | (obtain ⟨_, _, _, _, _, _, _, _, _, rfl, _⟩ := h; rfl)) ⟨r_holds_by spHf spSgB spJoin spParts spNo, (body_holds_by (k := 3) (g_holds_for.mono (by omega)) (g_sign_by.mono (by omega)) (g_joined_by.mono (by omega)) (g_parts_of.mono (by omega)) ⟨_, _, T.g_holds_by, dfn_no F_holds_by (bd_holds_by F_holds_by)⟩ gc_ATOM_WORDS).c, k_holds_by 0 spNo (fun m h => by cases h)⟩
    | succ n ih => exact dfn_mkD F_holds_by sc_holds_by (bd_holds_by F_holds_by) (fun ds M R h => by first | (obtain ⟨_, rfl, _⟩ := h; rfl) | (obtain ⟨_, _, rfl, _⟩ := h; rfl) | (obtain ⟨_, _, _, rfl, _⟩ := h; rfl) | (obtain ⟨_, _, _, _, rfl, _⟩ := h; rfl) | (obtain ⟨_, _, _, _, _, rfl, _⟩ := h; rfl) | (obtain ⟨_, _, _, _, _, _, rfl, _⟩ := h; rfl) | (obtain ⟨_, _, _, _, _, _, _, rfl, _⟩ := h; rfl) | (obtain ⟨_, _, _, _, _, _, _, _, rfl, _⟩ := h; rfl) | (obtain ⟨_, _, _, _, _, _, _, _, _, rfl, _⟩ := h; rfl)) ⟨r_holds_by spHf spSgB spJoin spParts ((spHb n)), (body_holds_by (k := n + 4) (g_holds_for.mono (by omega)) (g_sign_by.mono (by omega)) (g_joined_by.mono (by omega)) (g_parts_of.mono (by omega)) ⟨_, _, T.g_holds_by, ih.mono (by omega)⟩ gc_ATOM_WORDS).c, k_holds_by (n + 1) (spHb n) (fun m h => by cases h; rfl)⟩
  have d_holds_by := r_holds_by 6
  have g_holds_by : GFn W 10 "holds_by" P_holds_by (spHb 6) := ⟨_, _, T.g_holds_by, d_holds_by⟩
  obtain ⟨f_highest_powers, F_highest_powers⟩ := T.t_highest_powers
  have d_highest_powers : DFn W 1 (He.fAd W.K ("highest_powers", none)) f_highest_powers P_highest_powers (spHigh) := dfn_mkD F_highest_powers sc_highest_powers (bd_highest_powers F_highest_powers) (fun ds M R h => by first | (obtain ⟨_, rfl, _⟩ := h; rfl) | (obtain ⟨_, _, rfl, _⟩ := h; rfl) | (obtain ⟨_, _, _, rfl, _⟩ := h; rfl) | (obtain ⟨_, _, _, _, rfl, _⟩ := h; rfl) | (obtain ⟨_, _, _, _, _, rfl, _⟩ := h; rfl) | (obtain ⟨_, _, _, _, _, _, rfl, _⟩ := h; rfl) | (obtain ⟨_, _, _, _, _, _, _, rfl, _⟩ := h; rfl) | (obtain ⟨_, _, _, _, _, _, _, _, rfl, _⟩ := h; rfl) | (obtain ⟨_, _, _, _, _, _, _, _, _, rfl, _⟩ := h; rfl)) ⟨r_highest_powers , (body_highest_powers nb).c, k_highest_powers⟩
  have g_highest_powers : GFn W 1 "highest_powers" P_highest_powers (spHigh) := ⟨_, _, T.g_highest_powers, d_highest_powers⟩
  obtain ⟨f_powers_up_to, F_powers_up_to⟩ := T.t_powers_up_to
  have d_powers_up_to : DFn W 1 (He.fAd W.K ("powers_up_to", none)) f_powers_up_to P_powers_up_to (spPow) := dfn_mkD F_powers_up_to sc_powers_up_to (bd_powers_up_to F_powers_up_to) (fun ds M R h => by first | (obtain ⟨_, rfl, _⟩ := h; rfl) | (obtain ⟨_, _, rfl, _⟩ := h; rfl) | (obtain ⟨_, _, _, rfl, _⟩ := h; rfl) | (obtain ⟨_, _, _, _, rfl, _⟩ := h; rfl) | (obtain ⟨_, _, _, _, _, rfl, _⟩ := h; rfl) | (obtain ⟨_, _, _, _, _, _, rfl, _⟩ := h; rfl) | (obtain ⟨_, _, _, _, _, _, _, rfl, _⟩ := h; rfl) | (obtain ⟨_, _, _, _, _, _, _, _, rfl, _⟩ := h; rfl) | (obtain ⟨_, _, _, _, _, _, _, _, _, rfl, _⟩ := h; rfl)) ⟨r_powers_up_to , (body_powers_up_to nb).c, k_powers_up_to⟩
  have g_powers_up_to : GFn W 1 "powers_up_to" P_powers_up_to (spPow) := ⟨_, _, T.g_powers_up_to, d_powers_up_to⟩
  obtain ⟨f_sign_at_place, F_sign_at_place⟩ := T.t_sign_at_place
  have d_sign_at_place : DFn W 2 (He.fAd W.K ("sign_at_place", none)) f_sign_at_place P_sign_at_place (spSat) := dfn_mkD F_sign_at_place sc_sign_at_place (bd_sign_at_place F_sign_at_place) (fun ds M R h => by first | (obtain ⟨_, rfl, _⟩ := h; rfl) | (obtain ⟨_, _, rfl, _⟩ := h; rfl) | (obtain ⟨_, _, _, rfl, _⟩ := h; rfl) | (obtain ⟨_, _, _, _, rfl, _⟩ := h; rfl) | (obtain ⟨_, _, _, _, _, rfl, _⟩ := h; rfl) | (obtain ⟨_, _, _, _, _, _, rfl, _⟩ := h; rfl) | (obtain ⟨_, _, _, _, _, _, _, rfl, _⟩ := h; rfl) | (obtain ⟨_, _, _, _, _, _, _, _, rfl, _⟩ := h; rfl) | (obtain ⟨_, _, _, _, _, _, _, _, _, rfl, _⟩ := h; rfl)) ⟨r_sign_at_place spHigh spPow spSign, (body_sign_at_place (g_highest_powers.mono (by decide)) (g_powers_up_to.mono (by decide)) (g_sign_of.mono (by decide)) nb).c, k_sign_at_place⟩
  have g_sign_at_place : GFn W 2 "sign_at_place" P_sign_at_place (spSat) := ⟨_, _, T.g_sign_at_place, d_sign_at_place⟩
  obtain ⟨f_holds_at, F_holds_at⟩ := T.t_holds_at
  have d_holds_at : DFn W 11 (He.fAd W.K ("holds_at", none)) f_holds_at P_holds_at (spHat 6) := dfn_mkD F_holds_at sc_holds_at (bd_holds_at F_holds_at) (fun ds M R h => by first | (obtain ⟨_, rfl, _⟩ := h; rfl) | (obtain ⟨_, _, rfl, _⟩ := h; rfl) | (obtain ⟨_, _, _, rfl, _⟩ := h; rfl) | (obtain ⟨_, _, _, _, rfl, _⟩ := h; rfl) | (obtain ⟨_, _, _, _, _, rfl, _⟩ := h; rfl) | (obtain ⟨_, _, _, _, _, _, rfl, _⟩ := h; rfl) | (obtain ⟨_, _, _, _, _, _, _, rfl, _⟩ := h; rfl) | (obtain ⟨_, _, _, _, _, _, _, _, rfl, _⟩ := h; rfl) | (obtain ⟨_, _, _, _, _, _, _, _, _, rfl, _⟩ := h; rfl)) ⟨r_holds_at (spHb 6) spPolsOf spSat, (body_holds_at (g_holds_by.mono (by decide)) (g_polynomials_of.mono (by decide)) (g_sign_at_place.mono (by decide))).c, k_holds_at 6⟩
  have g_holds_at : GFn W 11 "holds_at" P_holds_at (spHat 6) := ⟨_, _, T.g_holds_at, d_holds_at⟩
  obtain ⟨f_l_bag, F_l_bag⟩ := T.t_l_bag
  have d_l_bag : DFn W 1 (He.fAd W.K ("_law_bag", none)) f_l_bag P_l_bag (spBag) := dfn_mkD F_l_bag sc_l_bag (bd_l_bag F_l_bag) (fun ds M R h => by first | (obtain ⟨_, rfl, _⟩ := h; rfl) | (obtain ⟨_, _, rfl, _⟩ := h; rfl) | (obtain ⟨_, _, _, rfl, _⟩ := h; rfl) | (obtain ⟨_, _, _, _, rfl, _⟩ := h; rfl) | (obtain ⟨_, _, _, _, _, rfl, _⟩ := h; rfl) | (obtain ⟨_, _, _, _, _, _, rfl, _⟩ := h; rfl) | (obtain ⟨_, _, _, _, _, _, _, rfl, _⟩ := h; rfl) | (obtain ⟨_, _, _, _, _, _, _, _, rfl, _⟩ := h; rfl) | (obtain ⟨_, _, _, _, _, _, _, _, _, rfl, _⟩ := h; rfl)) ⟨r_l_bag , (body_l_bag nb).c, k_bag⟩
  have g_l_bag : GFn W 1 "_law_bag" P_l_bag (spBag) := ⟨_, _, T.g_l_bag, d_l_bag⟩
  obtain ⟨f_l_draw, F_l_draw⟩ := T.t_l_draw
  have d_l_draw : DFn W 1 (He.fAd W.K ("_law_draw", none)) f_l_draw P_l_draw (spDraw) := dfn_mkD F_l_draw sc_l_draw (bd_l_draw F_l_draw) (fun ds M R h => by first | (obtain ⟨_, rfl, _⟩ := h; rfl) | (obtain ⟨_, _, rfl, _⟩ := h; rfl) | (obtain ⟨_, _, _, rfl, _⟩ := h; rfl) | (obtain ⟨_, _, _, _, rfl, _⟩ := h; rfl) | (obtain ⟨_, _, _, _, _, rfl, _⟩ := h; rfl) | (obtain ⟨_, _, _, _, _, _, rfl, _⟩ := h; rfl) | (obtain ⟨_, _, _, _, _, _, _, rfl, _⟩ := h; rfl) | (obtain ⟨_, _, _, _, _, _, _, _, rfl, _⟩ := h; rfl) | (obtain ⟨_, _, _, _, _, _, _, _, _, rfl, _⟩ := h; rfl)) ⟨r_l_draw , (body_l_draw nb).c, k_draw⟩
  have g_l_draw : GFn W 1 "_law_draw" P_l_draw (spDraw) := ⟨_, _, T.g_l_draw, d_l_draw⟩
  obtain ⟨f_l_pick, F_l_pick⟩ := T.t_l_pick
  have d_l_pick : DFn W 2 (He.fAd W.K ("_law_pick", none)) f_l_pick P_l_pick (spPick) := dfn_mkD F_l_pick sc_l_pick (bd_l_pick F_l_pick) (fun ds M R h => by first | (obtain ⟨_, rfl, _⟩ := h; rfl) | (obtain ⟨_, _, rfl, _⟩ := h; rfl) | (obtain ⟨_, _, _, rfl, _⟩ := h; rfl) | (obtain ⟨_, _, _, _, rfl, _⟩ := h; rfl) | (obtain ⟨_, _, _, _, _, rfl, _⟩ := h; rfl) | (obtain ⟨_, _, _, _, _, _, rfl, _⟩ := h; rfl) | (obtain ⟨_, _, _, _, _, _, _, rfl, _⟩ := h; rfl) | (obtain ⟨_, _, _, _, _, _, _, _, rfl, _⟩ := h; rfl) | (obtain ⟨_, _, _, _, _, _, _, _, _, rfl, _⟩ := h; rfl)) ⟨r_l_pick spDraw, (body_l_pick (g_l_draw.mono (by decide)) nb).c, k_pick⟩
  have g_l_pick : GFn W 2 "_law_pick" P_l_pick (spPick) := ⟨_, _, T.g_l_pick, d_l_pick⟩
  obtain ⟨f_l_some, F_l_some⟩ := T.t_l_some
  have d_l_some : DFn W 2 (He.fAd W.K ("_law_some", none)) f_l_some P_l_some (spSome) := dfn_mkD F_l_some sc_l_some (bd_l_some F_l_some) (fun ds M R h => by first | (obtain ⟨_, rfl, _⟩ := h; rfl) | (obtain ⟨_, _, rfl, _⟩ := h; rfl) | (obtain ⟨_, _, _, rfl, _⟩ := h; rfl) | (obtain ⟨_, _, _, _, rfl, _⟩ := h; rfl) | (obtain ⟨_, _, _, _, _, rfl, _⟩ := h; rfl) | (obtain ⟨_, _, _, _, _, _, rfl, _⟩ := h; rfl) | (obtain ⟨_, _, _, _, _, _, _, rfl, _⟩ := h; rfl) | (obtain ⟨_, _, _, _, _, _, _, _, rfl, _⟩ := h; rfl) | (obtain ⟨_, _, _, _, _, _, _, _, _, rfl, _⟩ := h; rfl)) ⟨r_l_some spDraw, (body_l_some (g_l_draw.mono (by decide)) nb).c, k_l_some⟩
  have g_l_some : GFn W 2 "_law_some" P_l_some (spSome) := ⟨_, _, T.g_l_some, d_l_some⟩
  obtain ⟨f_l_same, F_l_same⟩ := T.t_l_same
  have r_l_same : ∀ n, DFn W (n + 1) (He.fAd W.K ("_law_same", none)) f_l_same P_l_same (spSame n) := by
    intro n
    induction n with
    | zero => exact dfn_mkD F_l_same sc_l_same (bd_l_same F_l_same) (fun ds M R h => by (obtain ⟨_, rfl, _⟩ := h; rfl)) ⟨r_l_same spNo, (body_l_same (k := 0) ⟨_, _, T.g_l_same, dfn_no F_l_same (bd_l_same F_l_same)⟩ nb).c, k_same 0 spNo (fun m h => by cases h)⟩
    | succ n ih => exact dfn_mkD F_l_same sc_l_same (bd_l_same F_l_same) (fun ds M R h => by (obtain ⟨_, rfl, _⟩ := h; rfl)) ⟨r_l_same ((spSame n)), (body_l_same (k := n + 1) ⟨_, _, T.g_l_same, ih.mono (by omega)⟩ nb).c, k_same (n + 1) (spSame n) (fun m h => by cases h; rfl)⟩
  have d_l_same := r_l_same 5
  have g_l_same : GFn W 6 "_law_same" P_l_same (spSame 5) := ⟨_, _, T.g_l_same, d_l_same⟩
  obtain ⟨f_l_gcd, F_l_gcd⟩ := T.t_l_gcd
  have d_l_gcd : DFn W 1 (He.fAd W.K ("_law_gcd", none)) f_l_gcd P_l_gcd (spGcd) := dfn_mkD F_l_gcd sc_l_gcd (bd_l_gcd F_l_gcd) (fun ds M R h => by first | (obtain ⟨_, rfl, _⟩ := h; rfl) | (obtain ⟨_, _, rfl, _⟩ := h; rfl) | (obtain ⟨_, _, _, rfl, _⟩ := h; rfl) | (obtain ⟨_, _, _, _, rfl, _⟩ := h; rfl) | (obtain ⟨_, _, _, _, _, rfl, _⟩ := h; rfl) | (obtain ⟨_, _, _, _, _, _, rfl, _⟩ := h; rfl) | (obtain ⟨_, _, _, _, _, _, _, rfl, _⟩ := h; rfl) | (obtain ⟨_, _, _, _, _, _, _, _, rfl, _⟩ := h; rfl) | (obtain ⟨_, _, _, _, _, _, _, _, _, rfl, _⟩ := h; rfl)) ⟨r_l_gcd , (body_l_gcd nb).c, k_l_gcd⟩
  have g_l_gcd : GFn W 1 "_law_gcd" P_l_gcd (spGcd) := ⟨_, _, T.g_l_gcd, d_l_gcd⟩
  obtain ⟨f_l_fr, F_l_fr⟩ := T.t_l_fr
  have d_l_fr : DFn W 2 (He.fAd W.K ("_law_fr", none)) f_l_fr P_l_fr (spLfr) := dfn_mkD F_l_fr sc_l_fr (bd_l_fr F_l_fr) (fun ds M R h => by first | (obtain ⟨_, rfl, _⟩ := h; rfl) | (obtain ⟨_, _, rfl, _⟩ := h; rfl) | (obtain ⟨_, _, _, rfl, _⟩ := h; rfl) | (obtain ⟨_, _, _, _, rfl, _⟩ := h; rfl) | (obtain ⟨_, _, _, _, _, rfl, _⟩ := h; rfl) | (obtain ⟨_, _, _, _, _, _, rfl, _⟩ := h; rfl) | (obtain ⟨_, _, _, _, _, _, _, rfl, _⟩ := h; rfl) | (obtain ⟨_, _, _, _, _, _, _, _, rfl, _⟩ := h; rfl) | (obtain ⟨_, _, _, _, _, _, _, _, _, rfl, _⟩ := h; rfl)) ⟨r_l_fr spGcd, (body_l_fr (g_l_gcd.mono (by decide))).c, k_l_fr⟩
  have g_l_fr : GFn W 2 "_law_fr" P_l_fr (spLfr) := ⟨_, _, T.g_l_fr, d_l_fr⟩
  obtain ⟨f_l_add, F_l_add⟩ := T.t_l_add
  have d_l_add : DFn W 3 (He.fAd W.K ("_law_add", none)) f_l_add P_l_add (spLadd) := dfn_mkD F_l_add sc_l_add (bd_l_add F_l_add) (fun ds M R h => by first | (obtain ⟨_, rfl, _⟩ := h; rfl) | (obtain ⟨_, _, rfl, _⟩ := h; rfl) | (obtain ⟨_, _, _, rfl, _⟩ := h; rfl) | (obtain ⟨_, _, _, _, rfl, _⟩ := h; rfl) | (obtain ⟨_, _, _, _, _, rfl, _⟩ := h; rfl) | (obtain ⟨_, _, _, _, _, _, rfl, _⟩ := h; rfl) | (obtain ⟨_, _, _, _, _, _, _, rfl, _⟩ := h; rfl) | (obtain ⟨_, _, _, _, _, _, _, _, rfl, _⟩ := h; rfl) | (obtain ⟨_, _, _, _, _, _, _, _, _, rfl, _⟩ := h; rfl)) ⟨r_l_add spLfr, (body_l_add (g_l_fr.mono (by decide))).c, k_l_add⟩
  have g_l_add : GFn W 3 "_law_add" P_l_add (spLadd) := ⟨_, _, T.g_l_add, d_l_add⟩
  obtain ⟨f_l_mul, F_l_mul⟩ := T.t_l_mul
  have d_l_mul : DFn W 3 (He.fAd W.K ("_law_mul", none)) f_l_mul P_l_mul (spLmul) := dfn_mkD F_l_mul sc_l_mul (bd_l_mul F_l_mul) (fun ds M R h => by first | (obtain ⟨_, rfl, _⟩ := h; rfl) | (obtain ⟨_, _, rfl, _⟩ := h; rfl) | (obtain ⟨_, _, _, rfl, _⟩ := h; rfl) | (obtain ⟨_, _, _, _, rfl, _⟩ := h; rfl) | (obtain ⟨_, _, _, _, _, rfl, _⟩ := h; rfl) | (obtain ⟨_, _, _, _, _, _, rfl, _⟩ := h; rfl) | (obtain ⟨_, _, _, _, _, _, _, rfl, _⟩ := h; rfl) | (obtain ⟨_, _, _, _, _, _, _, _, rfl, _⟩ := h; rfl) | (obtain ⟨_, _, _, _, _, _, _, _, _, rfl, _⟩ := h; rfl)) ⟨r_l_mul spLfr, (body_l_mul (g_l_fr.mono (by decide))).c, k_l_mul⟩
  have g_l_mul : GFn W 3 "_law_mul" P_l_mul (spLmul) := ⟨_, _, T.g_l_mul, d_l_mul⟩
  obtain ⟨f_l_content, F_l_content⟩ := T.t_l_content
  have d_l_content : DFn W 2 (He.fAd W.K ("_law_content", none)) f_l_content P_l_content (spContent) := dfn_mkD F_l_content sc_l_content (bd_l_content F_l_content) (fun ds M R h => by first | (obtain ⟨_, rfl, _⟩ := h; rfl) | (obtain ⟨_, _, rfl, _⟩ := h; rfl) | (obtain ⟨_, _, _, rfl, _⟩ := h; rfl) | (obtain ⟨_, _, _, _, rfl, _⟩ := h; rfl) | (obtain ⟨_, _, _, _, _, rfl, _⟩ := h; rfl) | (obtain ⟨_, _, _, _, _, _, rfl, _⟩ := h; rfl) | (obtain ⟨_, _, _, _, _, _, _, rfl, _⟩ := h; rfl) | (obtain ⟨_, _, _, _, _, _, _, _, rfl, _⟩ := h; rfl) | (obtain ⟨_, _, _, _, _, _, _, _, _, rfl, _⟩ := h; rfl)) ⟨r_l_content spGcd, (body_l_content (g_l_gcd.mono (by decide))).c, k_l_content⟩
  have g_l_content : GFn W 2 "_law_content" P_l_content (spContent) := ⟨_, _, T.g_l_content, d_l_content⟩
  obtain ⟨f_l_polynomial, F_l_polynomial⟩ := T.t_l_polynomial
  have d_l_polynomial : DFn W 3 (He.fAd W.K ("_law_polynomial", none)) f_l_polynomial P_l_polynomial (spLpo) := dfn_mkD F_l_polynomial sc_l_polynomial (bd_l_polynomial F_l_polynomial) (fun ds M R h => by first | (obtain ⟨_, rfl, _⟩ := h; rfl) | (obtain ⟨_, _, rfl, _⟩ := h; rfl) | (obtain ⟨_, _, _, rfl, _⟩ := h; rfl) | (obtain ⟨_, _, _, _, rfl, _⟩ := h; rfl) | (obtain ⟨_, _, _, _, _, rfl, _⟩ := h; rfl) | (obtain ⟨_, _, _, _, _, _, rfl, _⟩ := h; rfl) | (obtain ⟨_, _, _, _, _, _, _, rfl, _⟩ := h; rfl) | (obtain ⟨_, _, _, _, _, _, _, _, rfl, _⟩ := h; rfl) | (obtain ⟨_, _, _, _, _, _, _, _, _, rfl, _⟩ := h; rfl)) ⟨r_l_polynomial spPick spDraw, (body_l_polynomial (g_l_pick.mono (by decide)) (g_l_draw.mono (by decide)) nb).c, k_l_polynomial⟩
  have g_l_polynomial : GFn W 3 "_law_polynomial" P_l_polynomial (spLpo) := ⟨_, _, T.g_l_polynomial, d_l_polynomial⟩
  obtain ⟨f_l_sentence, F_l_sentence⟩ := T.t_l_sentence
  have r_l_sentence : ∀ n, DFn W (n + 4) (He.fAd W.K ("_law_sentence", none)) f_l_sentence P_l_sentence (spLsw n) := by
    intro n
    induction n with
    | zero => exact dfn_mkD F_l_sentence sc_l_sentence (bd_l_sentence F_l_sentence) (fun ds M R h => by (obtain ⟨_, _, _, _, _, _, _, _, _, _, rfl, _⟩ := h; rfl)) ⟨r_l_sentence spDraw spPick spNo spLpo, (body_l_sentence (k := 3) (g_l_draw.mono (by omega)) (g_l_pick.mono (by omega)) ⟨_, _, T.g_l_sentence, dfn_no F_l_sentence (bd_l_sentence F_l_sentence)⟩ (g_l_polynomial.mono (by omega)) nb).c, k_l_sentence 0 spNo (fun m h => by cases h)⟩
    | succ n ih => exact dfn_mkD F_l_sentence sc_l_sentence (bd_l_sentence F_l_sentence) (fun ds M R h => by (obtain ⟨_, _, _, _, _, _, _, _, _, _, rfl, _⟩ := h; rfl)) ⟨r_l_sentence spDraw spPick ((spLsw n)) spLpo, (body_l_sentence (k := n + 4) (g_l_draw.mono (by omega)) (g_l_pick.mono (by omega)) ⟨_, _, T.g_l_sentence, ih.mono (by omega)⟩ (g_l_polynomial.mono (by omega)) nb).c, k_l_sentence (n + 1) (spLsw n) (fun m h => by cases h; rfl)⟩
  have d_l_sentence := r_l_sentence 4
  have g_l_sentence : GFn W 8 "_law_sentence" P_l_sentence (spLsw 4) := ⟨_, _, T.g_l_sentence, d_l_sentence⟩
  obtain ⟨f_l_many, F_l_many⟩ := T.t_l_many
  have r_l_many : ∀ n, DFn W (n + 1) (He.fAd W.K ("_law_many", none)) f_l_many P_l_many (spLmany n) := by
    intro n
    induction n with
    | zero => exact dfn_mkD F_l_many sc_l_many (bd_l_many F_l_many) (fun ds M R h => by first | (obtain ⟨_, rfl, _⟩ := h; rfl) | (obtain ⟨_, _, rfl, _⟩ := h; rfl) | (obtain ⟨_, _, _, rfl, _⟩ := h; rfl) | (obtain ⟨_, _, _, _, rfl, _⟩ := h; rfl) | (obtain ⟨_, _, _, _, _, rfl, _⟩ := h; rfl) | (obtain ⟨_, _, _, _, _, _, rfl, _⟩ := h; rfl) | (obtain ⟨_, _, _, _, _, _, _, rfl, _⟩ := h; rfl) | (obtain ⟨_, _, _, _, _, _, _, _, rfl, _⟩ := h; rfl) | (obtain ⟨_, _, _, _, _, _, _, _, _, rfl, _⟩ := h; rfl)) ⟨r_l_many spNo, (body_l_many (k := 0) ⟨_, _, T.g_l_many, dfn_no F_l_many (bd_l_many F_l_many)⟩ nb).c, k_l_many 0 spNo (fun m h => by cases h)⟩
    | succ n ih => exact dfn_mkD F_l_many sc_l_many (bd_l_many F_l_many) (fun ds M R h => by first | (obtain ⟨_, rfl, _⟩ := h; rfl) | (obtain ⟨_, _, rfl, _⟩ := h; rfl) | (obtain ⟨_, _, _, rfl, _⟩ := h; rfl) | (obtain ⟨_, _, _, _, rfl, _⟩ := h; rfl) | (obtain ⟨_, _, _, _, _, rfl, _⟩ := h; rfl) | (obtain ⟨_, _, _, _, _, _, rfl, _⟩ := h; rfl) | (obtain ⟨_, _, _, _, _, _, _, rfl, _⟩ := h; rfl) | (obtain ⟨_, _, _, _, _, _, _, _, rfl, _⟩ := h; rfl) | (obtain ⟨_, _, _, _, _, _, _, _, _, rfl, _⟩ := h; rfl)) ⟨r_l_many ((spLmany n)), (body_l_many (k := n + 1) ⟨_, _, T.g_l_many, ih.mono (by omega)⟩ nb).c, k_l_many (n + 1) (spLmany n) (fun m h => by cases h; rfl)⟩
  have d_l_many := r_l_many 6
  have g_l_many : GFn W 7 "_law_many" P_l_many (spLmany 6) := ⟨_, _, T.g_l_many, d_l_many⟩
  obtain ⟨f_l_atoms, F_l_atoms⟩ := T.t_l_atoms
  have r_l_atoms : ∀ n, DFn W (n + 1) (He.fAd W.K ("_law_atoms", none)) f_l_atoms P_l_atoms (spGath latD n) := by
    intro n
    induction n with
    | zero => exact dfn_mkD F_l_atoms sc_l_atoms (bd_l_atoms F_l_atoms) (fun ds M R h => by first | (obtain ⟨_, rfl, _⟩ := h; rfl) | (obtain ⟨_, _, rfl, _⟩ := h; rfl) | (obtain ⟨_, _, _, rfl, _⟩ := h; rfl) | (obtain ⟨_, _, _, _, rfl, _⟩ := h; rfl) | (obtain ⟨_, _, _, _, _, rfl, _⟩ := h; rfl) | (obtain ⟨_, _, _, _, _, _, rfl, _⟩ := h; rfl) | (obtain ⟨_, _, _, _, _, _, _, rfl, _⟩ := h; rfl) | (obtain ⟨_, _, _, _, _, _, _, _, rfl, _⟩ := h; rfl) | (obtain ⟨_, _, _, _, _, _, _, _, _, rfl, _⟩ := h; rfl)) ⟨r_l_atoms spNo, (body_l_atoms (k := 0) ⟨_, _, T.g_l_atoms, dfn_no F_l_atoms (bd_l_atoms F_l_atoms)⟩ nb).c, k_l_atoms 0 spNo (fun m h => by cases h)⟩
    | succ n ih => exact dfn_mkD F_l_atoms sc_l_atoms (bd_l_atoms F_l_atoms) (fun ds M R h => by first | (obtain ⟨_, rfl, _⟩ := h; rfl) | (obtain ⟨_, _, rfl, _⟩ := h; rfl) | (obtain ⟨_, _, _, rfl, _⟩ := h; rfl) | (obtain ⟨_, _, _, _, rfl, _⟩ := h; rfl) | (obtain ⟨_, _, _, _, _, rfl, _⟩ := h; rfl) | (obtain ⟨_, _, _, _, _, _, rfl, _⟩ := h; rfl) | (obtain ⟨_, _, _, _, _, _, _, rfl, _⟩ := h; rfl) | (obtain ⟨_, _, _, _, _, _, _, _, rfl, _⟩ := h; rfl) | (obtain ⟨_, _, _, _, _, _, _, _, _, rfl, _⟩ := h; rfl)) ⟨r_l_atoms ((spGath latD n)), (body_l_atoms (k := n + 1) ⟨_, _, T.g_l_atoms, ih.mono (by omega)⟩ nb).c, k_l_atoms (n + 1) (spGath latD n) (fun m h => by cases h; rfl)⟩
  have d_l_atoms := r_l_atoms 6
  have g_l_atoms : GFn W 7 "_law_atoms" P_l_atoms (spGath latD 6) := ⟨_, _, T.g_l_atoms, d_l_atoms⟩
  obtain ⟨f_l_bound, F_l_bound⟩ := T.t_l_bound
  have r_l_bound : ∀ n, DFn W (n + 1) (He.fAd W.K ("_law_bound", none)) f_l_bound P_l_bound (spGath bouD n) := by
    intro n
    induction n with
    | zero => exact dfn_mkD F_l_bound sc_l_bound (bd_l_bound F_l_bound) (fun ds M R h => by first | (obtain ⟨_, rfl, _⟩ := h; rfl) | (obtain ⟨_, _, rfl, _⟩ := h; rfl) | (obtain ⟨_, _, _, rfl, _⟩ := h; rfl) | (obtain ⟨_, _, _, _, rfl, _⟩ := h; rfl) | (obtain ⟨_, _, _, _, _, rfl, _⟩ := h; rfl) | (obtain ⟨_, _, _, _, _, _, rfl, _⟩ := h; rfl) | (obtain ⟨_, _, _, _, _, _, _, rfl, _⟩ := h; rfl) | (obtain ⟨_, _, _, _, _, _, _, _, rfl, _⟩ := h; rfl) | (obtain ⟨_, _, _, _, _, _, _, _, _, rfl, _⟩ := h; rfl)) ⟨r_l_bound spNo, (body_l_bound (k := 0) ⟨_, _, T.g_l_bound, dfn_no F_l_bound (bd_l_bound F_l_bound)⟩ nb).c, k_l_bound 0 spNo (fun m h => by cases h)⟩
    | succ n ih => exact dfn_mkD F_l_bound sc_l_bound (bd_l_bound F_l_bound) (fun ds M R h => by first | (obtain ⟨_, rfl, _⟩ := h; rfl) | (obtain ⟨_, _, rfl, _⟩ := h; rfl) | (obtain ⟨_, _, _, rfl, _⟩ := h; rfl) | (obtain ⟨_, _, _, _, rfl, _⟩ := h; rfl) | (obtain ⟨_, _, _, _, _, rfl, _⟩ := h; rfl) | (obtain ⟨_, _, _, _, _, _, rfl, _⟩ := h; rfl) | (obtain ⟨_, _, _, _, _, _, _, rfl, _⟩ := h; rfl) | (obtain ⟨_, _, _, _, _, _, _, _, rfl, _⟩ := h; rfl) | (obtain ⟨_, _, _, _, _, _, _, _, _, rfl, _⟩ := h; rfl)) ⟨r_l_bound ((spGath bouD n)), (body_l_bound (k := n + 1) ⟨_, _, T.g_l_bound, ih.mono (by omega)⟩ nb).c, k_l_bound (n + 1) (spGath bouD n) (fun m h => by cases h; rfl)⟩
  have d_l_bound := r_l_bound 6
  have g_l_bound : GFn W 7 "_law_bound" P_l_bound (spGath bouD 6) := ⟨_, _, T.g_l_bound, d_l_bound⟩
  obtain ⟨f_l_free, F_l_free⟩ := T.t_l_free
  have d_l_free : DFn W 8 (He.fAd W.K ("_law_free", none)) f_l_free P_l_free (spLfree 6) := dfn_mkD F_l_free sc_l_free (bd_l_free F_l_free) (fun ds M R h => by first | (obtain ⟨_, rfl, _⟩ := h; rfl) | (obtain ⟨_, _, rfl, _⟩ := h; rfl) | (obtain ⟨_, _, _, rfl, _⟩ := h; rfl) | (obtain ⟨_, _, _, _, rfl, _⟩ := h; rfl) | (obtain ⟨_, _, _, _, _, rfl, _⟩ := h; rfl) | (obtain ⟨_, _, _, _, _, _, rfl, _⟩ := h; rfl) | (obtain ⟨_, _, _, _, _, _, _, rfl, _⟩ := h; rfl) | (obtain ⟨_, _, _, _, _, _, _, _, rfl, _⟩ := h; rfl) | (obtain ⟨_, _, _, _, _, _, _, _, _, rfl, _⟩ := h; rfl)) ⟨r_l_free (spGath bouD 6) (spGath latD 6), (body_l_free (g_l_bound.mono (by decide)) (g_l_atoms.mono (by decide)) nb).c, k_l_free 6⟩
  have g_l_free : GFn W 8 "_law_free" P_l_free (spLfree 6) := ⟨_, _, T.g_l_free, d_l_free⟩
  obtain ⟨f_l_polys, F_l_polys⟩ := T.t_l_polys
  have d_l_polys : DFn W 8 (He.fAd W.K ("_law_polys", none)) f_l_polys P_l_polys (spLpolys 6) := dfn_mkD F_l_polys sc_l_polys (bd_l_polys F_l_polys) (fun ds M R h => by first | (obtain ⟨_, rfl, _⟩ := h; rfl) | (obtain ⟨_, _, rfl, _⟩ := h; rfl) | (obtain ⟨_, _, _, rfl, _⟩ := h; rfl) | (obtain ⟨_, _, _, _, rfl, _⟩ := h; rfl) | (obtain ⟨_, _, _, _, _, rfl, _⟩ := h; rfl) | (obtain ⟨_, _, _, _, _, _, rfl, _⟩ := h; rfl) | (obtain ⟨_, _, _, _, _, _, _, rfl, _⟩ := h; rfl) | (obtain ⟨_, _, _, _, _, _, _, _, rfl, _⟩ := h; rfl) | (obtain ⟨_, _, _, _, _, _, _, _, _, rfl, _⟩ := h; rfl)) ⟨r_l_polys (spGath latD 6) spContent, (body_l_polys (g_l_atoms.mono (by decide)) (g_l_content.mono (by decide)) nb).c, k_l_polys 6⟩
  have g_l_polys : GFn W 8 "_law_polys" P_l_polys (spLpolys 6) := ⟨_, _, T.g_l_polys, d_l_polys⟩
  obtain ⟨f_l_worth, F_l_worth⟩ := T.t_l_worth
  have d_l_worth : DFn W 4 (He.fAd W.K ("_law_worth", none)) f_l_worth P_l_worth (spLworth) := dfn_mkD F_l_worth sc_l_worth (bd_l_worth F_l_worth) (fun ds M R h => by first | (obtain ⟨_, rfl, _⟩ := h; rfl) | (obtain ⟨_, _, rfl, _⟩ := h; rfl) | (obtain ⟨_, _, _, rfl, _⟩ := h; rfl) | (obtain ⟨_, _, _, _, rfl, _⟩ := h; rfl) | (obtain ⟨_, _, _, _, _, rfl, _⟩ := h; rfl) | (obtain ⟨_, _, _, _, _, _, rfl, _⟩ := h; rfl) | (obtain ⟨_, _, _, _, _, _, _, rfl, _⟩ := h; rfl) | (obtain ⟨_, _, _, _, _, _, _, _, rfl, _⟩ := h; rfl) | (obtain ⟨_, _, _, _, _, _, _, _, _, rfl, _⟩ := h; rfl)) ⟨r_l_worth spLmul spLadd, (body_l_worth (g_l_mul.mono (by decide)) (g_l_add.mono (by decide)) nb).c, k_l_worth⟩
  have g_l_worth : GFn W 4 "_law_worth" P_l_worth (spLworth) := ⟨_, _, T.g_l_worth, d_l_worth⟩
  obtain ⟨f_l_holds, F_l_holds⟩ := T.t_l_holds
  have r_l_holds : ∀ n, DFn W (n + 5) (He.fAd W.K ("_law_holds", none)) f_l_holds P_l_holds (spLholds n) := by
    intro n
    induction n with
    | zero => exact dfn_mkD F_l_holds sc_l_holds (bd_l_holds F_l_holds) (fun ds M R h => by first | (obtain ⟨_, rfl, _⟩ := h; rfl) | (obtain ⟨_, _, rfl, _⟩ := h; rfl) | (obtain ⟨_, _, _, rfl, _⟩ := h; rfl) | (obtain ⟨_, _, _, _, rfl, _⟩ := h; rfl) | (obtain ⟨_, _, _, _, _, rfl, _⟩ := h; rfl) | (obtain ⟨_, _, _, _, _, _, rfl, _⟩ := h; rfl) | (obtain ⟨_, _, _, _, _, _, _, rfl, _⟩ := h; rfl) | (obtain ⟨_, _, _, _, _, _, _, _, rfl, _⟩ := h; rfl) | (obtain ⟨_, _, _, _, _, _, _, _, _, rfl, _⟩ := h; rfl)) ⟨r_l_holds spNo spLworth, (body_l_holds (k := 4) ⟨_, _, T.g_l_holds, dfn_no F_l_holds (bd_l_holds F_l_holds)⟩ (g_l_worth.mono (by omega))).c, k_l_holds 0 spNo (fun m h => by cases h)⟩
    | succ n ih => exact dfn_mkD F_l_holds sc_l_holds (bd_l_holds F_l_holds) (fun ds M R h => by first | (obtain ⟨_, rfl, _⟩ := h; rfl) | (obtain ⟨_, _, rfl, _⟩ := h; rfl) | (obtain ⟨_, _, _, rfl, _⟩ := h; rfl) | (obtain ⟨_, _, _, _, rfl, _⟩ := h; rfl) | (obtain ⟨_, _, _, _, _, rfl, _⟩ := h; rfl) | (obtain ⟨_, _, _, _, _, _, rfl, _⟩ := h; rfl) | (obtain ⟨_, _, _, _, _, _, _, rfl, _⟩ := h; rfl) | (obtain ⟨_, _, _, _, _, _, _, _, rfl, _⟩ := h; rfl) | (obtain ⟨_, _, _, _, _, _, _, _, _, rfl, _⟩ := h; rfl)) ⟨r_l_holds ((spLholds n)) spLworth, (body_l_holds (k := n + 5) ⟨_, _, T.g_l_holds, ih.mono (by omega)⟩ (g_l_worth.mono (by omega))).c, k_l_holds (n + 1) (spLholds n) (fun m h => by cases h; rfl)⟩
  have d_l_holds := r_l_holds 6
  have g_l_holds : GFn W 11 "_law_holds" P_l_holds (spLholds 6) := ⟨_, _, T.g_l_holds, d_l_holds⟩
  obtain ⟨f_l_places, F_l_places⟩ := T.t_l_places
  have d_l_places : DFn W 8 (He.fAd W.K ("_law_places", none)) f_l_places P_l_places (spLplaces 6) := dfn_mkD F_l_places sc_l_places (bd_l_places F_l_places) (fun ds M R h => by first | (obtain ⟨_, rfl, _⟩ := h; rfl) | (obtain ⟨_, _, rfl, _⟩ := h; rfl) | (obtain ⟨_, _, _, rfl, _⟩ := h; rfl) | (obtain ⟨_, _, _, _, rfl, _⟩ := h; rfl) | (obtain ⟨_, _, _, _, _, rfl, _⟩ := h; rfl) | (obtain ⟨_, _, _, _, _, _, rfl, _⟩ := h; rfl) | (obtain ⟨_, _, _, _, _, _, _, rfl, _⟩ := h; rfl) | (obtain ⟨_, _, _, _, _, _, _, _, rfl, _⟩ := h; rfl) | (obtain ⟨_, _, _, _, _, _, _, _, _, rfl, _⟩ := h; rfl)) ⟨r_l_places spLfr spDraw (spGath latD 6), (body_l_places (g_l_fr.mono (by decide)) (g_l_draw.mono (by decide)) (g_l_atoms.mono (by decide)) nb).c, k_l_places 6⟩
  have g_l_places : GFn W 8 "_law_places" P_l_places (spLplaces 6) := ⟨_, _, T.g_l_places, d_l_places⟩
  obtain ⟨f_l_is_told, F_l_is_told⟩ := T.t_l_is_told
  have d_l_is_told : DFn W 12 (He.fAd W.K ("_law_is_told", none)) f_l_is_told P_l_is_told (spTold P) := dfn_mkD F_l_is_told sc_l_is_told (bd_l_is_told F_l_is_told) (fun ds M R h => by first | (obtain ⟨_, rfl, _⟩ := h; rfl) | (obtain ⟨_, _, rfl, _⟩ := h; rfl) | (obtain ⟨_, _, _, rfl, _⟩ := h; rfl) | (obtain ⟨_, _, _, _, rfl, _⟩ := h; rfl) | (obtain ⟨_, _, _, _, _, rfl, _⟩ := h; rfl) | (obtain ⟨_, _, _, _, _, _, rfl, _⟩ := h; rfl) | (obtain ⟨_, _, _, _, _, _, _, rfl, _⟩ := h; rfl) | (obtain ⟨_, _, _, _, _, _, _, _, rfl, _⟩ := h; rfl) | (obtain ⟨_, _, _, _, _, _, _, _, _, rfl, _⟩ := h; rfl)) ⟨r_l_is_told spSome spDraw (spLsw 4) (spLmany 6) (spSame 5) (spFreeN P) spPolsOf (spLfree 6) (spLpolys 6) (spLplaces 6) (spHat 6) (spLholds 6), (body_l_is_told (g_l_some.mono (by decide)) (g_l_draw.mono (by decide)) (g_l_sentence.mono (by decide)) (g_l_many.mono (by decide)) (g_l_same.mono (by decide)) (g_free_names.mono (by decide)) ⟨_, _, T.g_free_names, d_free_names.mono (by decide), bindsK F_free_names fun _ _ _ _ _ _ ws hl => match ws, hl with | [_], _ => rfl⟩ (g_polynomials_of.mono (by decide)) ⟨_, _, T.g_polynomials_of, d_polynomials_of.mono (by decide), bindsK F_polynomials_of fun _ _ _ _ _ _ ws hl => match ws, hl with | [_], _ => rfl⟩ (g_l_free.mono (by decide)) (g_l_polys.mono (by decide)) (g_l_places.mono (by decide)) (g_holds_at.mono (by decide)) ⟨_, _, T.g_holds_at, d_holds_at.mono (by decide), bindsK F_holds_at fun _ _ _ _ _ _ ws hl => match ws, hl with | [_, _], _ => rfl⟩ (g_l_holds.mono (by decide))).c, k_l_is_told P⟩
  have g_l_is_told : GFn W 12 "_law_is_told" P_l_is_told (spTold P) := ⟨_, _, T.g_l_is_told, d_l_is_told⟩
  exact dfn_mkD Fl sc_law (bd_law Fl) (fun ds M R h => by obtain ⟨d, c, rfl, _⟩ := h; rfl) ⟨r_law spBag (spTold P), (body_law (g_l_bag.mono (by decide)) (g_l_is_told.mono (by decide)) nb).c, k_law P⟩
end DD
open PySem PySem.W PySem.Calls PyProof.Rows
theorem PySem.Challenge.cw_wayorring_k11_names_polynomials_places_holds : PySem.Challenge.rw_wayorring_k11_names_polynomials_places.Holds := by
  w_on; o_law
  refine HandSHeadRun.head_imp (r := OpenLaw.row PySem.Challenge.rw_wayorring_k11_names_polynomials_places) (q := view (OpenLaw.row PySem.Challenge.rw_wayorring_k11_names_polynomials_places).prog [0, 48]) (H := DD.hkAll) (ob := DD.obAll) (M := 20000) (loose := DD.looseAll) (d := HandSHeadRun.topDef (OpenLaw.row PySem.Challenge.rw_wayorring_k11_names_polynomials_places).prog 48) (kwd := []) DD.obAll_eq
    DD.runAll (by kernel_rfl) (by kernel_rfl) (by kernel_rfl) (by rfl) (by first | assumption | decide +kernel) (by decide +kernel) ⟨rfl, rfl, rfl, rfl, rfl, by decide +kernel⟩ ?hw ?hc
  case hw => w_witness2
  case hc =>
    refine LamX.walk_ofTsE (l := PySem.Challenge.rw_wayorring_k11_names_polynomials_places) (n := 63) (k := 13) (x := "script") (CX := fun _ => L2.CX0) rfl (by decide) (by kernel_rfl) ⟨rfl, by decide, by decide⟩ ?F (fun _ _ _ _ _ z => z)
    intro w mg fa h Y G hmg0
    obtain ⟨K, KX, Y⟩ := Y
    have hmg : mg ("law" : PySem.Str) = some (.ref fa) := by
      have e : (HandSHeadRun.topDef (OpenLaw.row PySem.Challenge.rw_wayorring_k11_names_polynomials_places).prog 48).name = ("law" : PySem.Str) := by kernel_rfl
      rw [← e]
      exact hmg0
    have T := DD.told KX G Y.t.d
    have e := hmg.symm.trans T.g_law
    cases e
    obtain ⟨fl, Fl⟩ := T.t_law
    exact ⟨K, KX, DD.lawAt Y KX (fun s u => L2.FunD.bindsA (ps := ["script"]) Fl (fun _ _ _ _ _ _ us hl => match us, hl with | [_], _ => rfl) s [u] rfl)
      fun base hK hN hT => DD.all11 (W := ⟨(PySem.Challenge.rw_wayorring_k11_names_polynomials_places).prog, w, K, mg, base⟩) T (DD.told_gcd KX G Y.more) (DD.told_tups (W := ⟨(PySem.Challenge.rw_wayorring_k11_names_polynomials_places).prog, w, K, mg, base⟩) KX G Y.more) (hT ("names_in", none) (by decide)) Fl⟩
end
