import PyProof.Rows.All
import Wide.All
import OpenK.AllK
import Wide.FinOn
import HandS.ForMost
import HandS.Conv
import HandS.Style
import HandS.Flow
import HandS.TupAny
import HandS.Wide
import HandS.Gcd
import HandS.IsInst
import HandS.Zip
import HandS.Rev
import HandS.NoneIn
import KE.SortData
import HandS.SortOrd
import HandS.AnyAll
import HandS.Defaults
import HandS.HeadHook1
import HandS.HeadHook2
import HandS.HeadHook3
import HandS.HeadHook4
import HandS.EndTab
import HandS.HeadWalk
import HandS.TupMul
import HandS.Deep
import HandS.Iter
import KE.DataAny
import HandS.Head0
import HandS.Head1
import HandS.Head2
import HandS.Head3
import HandS.HeadEnd
import PySem.Challenge.RW_wayorring_k01_values_common_square_free
set_option Elab.async false
set_option linter.all false
set_option maxRecDepth 100000
set_option maxHeartbeats 4000000
section
namespace DD
open PySem PySem.Spec PyProof.Rows L2

/-- data as values: tuples are values, what can change stands at an address -/
inductive D where
  | non | bl (b : Bool) | int (i : Int) | str (s : Str) | tup (xs : List D) | ref (a : Addr) | ty (n : String)
  /-- a list that is only read (the script) -/
  | rol (xs : List D)
  deriving Inhabited
/-- what stands at an address -/
inductive MO where
  | lst (xs : List D)
  | dK (kvs : List (Key × D))
  /-- an instance of the class at C: the names of its attributes in their order, the values of the first of them -/
  | ins (C : Addr) (ns : List Str) (ds : List D)
  /-- a table of code objects: what is in it is not told -/
  | tbl
  deriving Inhabited
abbrev Mem := Addr → Option MO
def updM (M : Mem) (a : Addr) (o : MO) : Mem := fun b => if b = a then some o else M b
theorem updM_same {M : Mem} {a : Addr} {o : MO} : updM M a o a = some o := by unfold updM; rw [if_pos rfl]
theorem updM_ne {M : Mem} {a b : Addr} {o : MO} (h : b ≠ a) : updM M a o b = M b := by unfold updM; rw [if_neg h]
theorem updM_upd {M : Mem} {a : Addr} {o u : MO} : updM (updM M a o) a u = updM M a u := by
  funext b; unfold updM; split <;> rfl
/-- less is known -/
def Sub (M M' : Mem) : Prop := ∀ a o, M a = some o → M' a = some o
theorem Sub.refl (M : Mem) : Sub M M := fun _ _ h => h
theorem Sub.trans {M M1 M2 : Mem} (a : Sub M M1) (b : Sub M1 M2) : Sub M M2 := fun x o h => b x o (a x o h)
theorem Sub.new {M : Mem} {p : Addr} {o : MO} (h : M p = none) : Sub M (updM M p o) := fun a u e => by
  have : a ≠ p := fun z => by rw [z, h] at e; cases e
  rw [updM_ne this]; exact e

/-- a list that is only read -/
def RoL (K : PySem.W.Frag) (H : Hp) (a : Addr) (vs : List V) : Prop := (∃ o, H a = some (.frz o (.lst vs))) ∨
  ∃ (o : Obj) (its : Array Value) (n : Nat), K.lookup a = some o ∧ o.cls = .type "list" ∧ o.dict = none ∧ o.data = .seq its n ∧ its.size ≤ sizeLine ∧ Vals vs its.toList
theorem RoL.sq {K : PySem.W.Frag} {H : Hp} {a : Addr} {vs : List V} (h : RoL K H a vs) : SqL K H a vs := by
  rcases h with h | h
  · exact .inl (.inr h)
  · exact .inr h
section
variable (K : PySem.W.Frag) (H : Hp)
mutual
def RV : D → V → Prop
  | .non, v => v = .non
  | .bl b, v => v = .bl b
  | .int i, v => v = .int i
  | .str s, v => v = .str s
  | .ref a, v => v = .ref a
  | .ty n, v => v = .ty n
  | .tup ds, v => ∃ a vs, v = .ref a ∧ SqT K H a vs ∧ RVs ds vs
  | .rol ds, v => ∃ a vs, v = .ref a ∧ RoL K H a vs ∧ RVs ds vs
def RVs : List D → List V → Prop
  | [], vs => vs = []
  | d :: ds, vs => ∃ v ws, vs = v :: ws ∧ RV d v ∧ RVs ds ws
end
/-- how a thing of the memory stands -/
def RO (a : Addr) : MO → Prop
  | .lst ds => ∃ vs, H a = some (.lst vs) ∧ RVs K H ds vs
  | .dK kvs => ∃ ws : List (Key × V), H a = some (.dK ws) ∧ kvs.map (·.1) = ws.map (·.1) ∧ RVs K H (kvs.map (·.2)) (ws.map (·.2))
  | .ins C ns ds => ∃ (dx : Addr) (ws : List (Str × V)), H a = some (.ins C dx ws) ∧ ws.map (·.1) = ns.take ds.length ∧ RVs K H ds (ws.map (·.2))
  | .tbl => ∃ ps : Array Value, H a = some (.tbl ps) ∧ TriplesOk ps.toList
def RM (M : Mem) : Prop := ∀ a o, M a = some o → RO K H a o
end
/-- tuples are kept -/
structure Ext (K : PySem.W.Frag) (H H' : Hp) : Prop where
  t : ∀ a xs, H a = some (.tup xs) → H' a = some (.tup xs)
  f : ∀ a o xs, H a = some (.frz o xs) → H' a = some (.frz o xs)
theorem Ext.refl {K : PySem.W.Frag} (H : Hp) : Ext K H H := ⟨fun _ _ h => h, fun _ _ _ h => h⟩
theorem Ext.trans {K : PySem.W.Frag} {H H1 H2 : Hp} (a : Ext K H H1) (b : Ext K H1 H2) : Ext K H H2 := ⟨fun x o h => b.t x o (a.t x o h), fun x o u h => b.f x o u (a.f x o u h)⟩
theorem Ext.sqT {K : PySem.W.Frag} {H H' : Hp} (e : Ext K H H') {a : Addr} {xs : List V} (h : SqT K H a xs) : SqT K H' a xs := by
  rcases h with (h | ⟨u, h⟩) | h
  · exact .inl (.inl (e.t _ _ h))
  · exact .inl (.inr ⟨u, e.f _ _ _ h⟩)
  · exact .inr h
theorem Ext.rol {K : PySem.W.Frag} {H H' : Hp} (e : Ext K H H') {a : Addr} {xs : List V} (h : RoL K H a xs) : RoL K H' a xs := by
  rcases h with ⟨u, h⟩ | h
  · exact .inl ⟨u, e.f _ _ _ h⟩
  · exact .inr h
theorem Ext.new {K : PySem.W.Frag} {H : Hp} {p : Addr} {o : HO} (h : H p = none) : Ext K H (upd H p o) :=
  ⟨fun a xs e => by rw [upd_ne (ne_of_none e h)]; exact e, fun a u xs e => by rw [upd_ne (ne_of_none e h)]; exact e⟩
/-- a thing that is no tuple is changed -/
theorem Ext.mut {K : PySem.W.Frag} {H : Hp} {p : Addr} {u o : HO} (h : H p = some u) (n1 : ∀ xs, u ≠ .tup xs) (n2 : ∀ o xs, u ≠ .frz o xs) : Ext K H (upd H p o) :=
  ⟨fun a xs e => by rw [upd_ne (ne_of e h (fun q => n1 _ q.symm))]; exact e, fun a z xs e => by rw [upd_ne (ne_of e h (fun q => n2 _ _ q.symm))]; exact e⟩
section
variable {K : PySem.W.Frag} {H H' : Hp}
mutual
theorem RV.ext (e : Ext K H H') : ∀ {d : D} {v : V}, RV K H d v → RV K H' d v
  | .non, _, h => h
  | .bl _, _, h => h
  | .int _, _, h => h
  | .str _, _, h => h
  | .ref _, _, h => h
  | .ty _, _, h => h
  | .tup ds, v, h => by
    obtain ⟨a, vs, r, s, q⟩ := h
    exact ⟨a, vs, r, e.sqT s, RVs.ext e q⟩
  | .rol ds, v, h => by
    obtain ⟨a, vs, r, s, q⟩ := h
    exact ⟨a, vs, r, e.rol s, RVs.ext e q⟩
theorem RVs.ext (e : Ext K H H') : ∀ {ds : List D} {vs : List V}, RVs K H ds vs → RVs K H' ds vs
  | [], _, h => h
  | d :: ds, _, h => by
    obtain ⟨v, ws, r, q, t⟩ := h
    exact ⟨v, ws, r, RV.ext e q, RVs.ext e t⟩
end
theorem RVs.nil : RVs K H [] [] := rfl
theorem RVs.cons {d : D} {v : V} {ds : List D} {vs : List V} (h : RV K H d v) (t : RVs K H ds vs) : RVs K H (d :: ds) (v :: vs) := ⟨v, vs, rfl, h, t⟩
theorem RVs.length : ∀ {ds : List D} {vs : List V}, RVs K H ds vs → ds.length = vs.length
  | [], _, h => by cases h; rfl
  | _ :: _, _, h => by
    obtain ⟨v, ws, rfl, _, t⟩ := h
    simp [RVs.length t]
theorem RVs.get : ∀ {ds : List D} {vs : List V} {i : Nat} {d : D}, RVs K H ds vs → ds[i]? = some d → ∃ v, vs[i]? = some v ∧ RV K H d v
  | [], _, _, _, _, e => by simp at e
  | _ :: _, _, 0, _, h, e => by
    obtain ⟨v, ws, rfl, q, t⟩ := h
    simp at e; subst e
    exact ⟨v, rfl, q⟩
  | _ :: _, _, i + 1, _, h, e => by
    obtain ⟨v, ws, rfl, q, t⟩ := h
    obtain ⟨v', a, b⟩ := RVs.get (i := i) t (by simpa using e)
    exact ⟨v', by simpa using a, b⟩
theorem RVs.append : ∀ {ds es : List D} {vs ws : List V}, RVs K H ds vs → RVs K H es ws → RVs K H (ds ++ es) (vs ++ ws)
  | [], _, _, _, h, t => by cases h; exact t
  | _ :: _, _, _, _, h, t => by
    obtain ⟨v, ws, rfl, q, r⟩ := h
    exact .cons q (RVs.append r t)
theorem RVs.take : ∀ {ds : List D} {vs : List V} (n : Nat), RVs K H ds vs → RVs K H (ds.take n) (vs.take n)
  | _, _, 0, _ => .nil
  | [], _, _ + 1, h => by cases h; exact .nil
  | _ :: _, _, n + 1, h => by
    obtain ⟨v, ws, rfl, q, r⟩ := h
    exact .cons q (RVs.take n r)
theorem RVs.drop : ∀ {ds : List D} {vs : List V} (n : Nat), RVs K H ds vs → RVs K H (ds.drop n) (vs.drop n)
  | _, _, 0, h => h
  | [], _, _ + 1, h => by cases h; exact .nil
  | _ :: _, _, n + 1, h => by
    obtain ⟨v, ws, rfl, q, r⟩ := h
    exact RVs.drop n r
theorem RVs.set : ∀ {ds : List D} {vs : List V} {d : D} {v : V} (i : Nat), RVs K H ds vs → RV K H d v → RVs K H (ds.set i d) (vs.set i v)
  | [], _, _, _, _, h, _ => by cases h; exact .nil
  | _ :: _, _, _, _, 0, h, r => by
    obtain ⟨v, ws, rfl, q, t⟩ := h
    exact .cons r t
  | _ :: _, _, _, _, i + 1, h, r => by
    obtain ⟨v, ws, rfl, q, t⟩ := h
    exact .cons q (RVs.set i t r)
theorem RVs.reverse : ∀ {ds : List D} {vs : List V}, RVs K H ds vs → RVs K H ds.reverse vs.reverse
  | [], _, h => by cases h; exact .nil
  | _ :: _, _, h => by
    obtain ⟨v, ws, rfl, q, t⟩ := h
    rw [List.reverse_cons, List.reverse_cons]
    exact RVs.append (RVs.reverse t) (.cons q .nil)
theorem RVs.eraseIdx : ∀ {ds : List D} {vs : List V} (i : Nat), RVs K H ds vs → RVs K H (ds.eraseIdx i) (vs.eraseIdx i)
  | [], _, _, h => by cases h; exact .nil
  | _ :: _, _, 0, h => by
    obtain ⟨v, ws, rfl, q, t⟩ := h
    exact t
  | _ :: _, _, i + 1, h => by
    obtain ⟨v, ws, rfl, q, t⟩ := h
    exact .cons q (RVs.eraseIdx i t)
theorem RVs.dropLast {ds : List D} {vs : List V} (h : RVs K H ds vs) : RVs K H ds.dropLast vs.dropLast := by
  rw [List.dropLast_eq_take, List.dropLast_eq_take, ← h.length]
  exact h.take _
/-- ints -/
theorem RVs.ints : ∀ {ns : List Int} {vs : List V}, RVs K H (ns.map D.int) vs → vs = ns.map V.int
  | [], _, h => h
  | _ :: _, _, h => by
    obtain ⟨v, ws, rfl, q, t⟩ := h
    have q : v = .int _ := q
    rw [q, RVs.ints t]
    rfl
theorem RVs.of_ints : ∀ ns : List Int, RVs K H (ns.map D.int) (ns.map V.int)
  | [] => .nil
  | _ :: r => .cons rfl (RVs.of_ints r)
theorem RVs.bls : ∀ {ns : List Bool} {vs : List V}, RVs K H (ns.map D.bl) vs → vs = ns.map V.bl
  | [], _, h => h
  | _ :: _, _, h => by
    obtain ⟨v, ws, rfl, q, t⟩ := h
    have q : v = .bl _ := q
    rw [q, RVs.bls t]
    rfl

/-! ### the memory through a change -/
theorem ro_some {a : Addr} {o : MO} (h : RO K H a o) : ∃ u, H a = some u ∧ (∀ xs, u ≠ .tup xs) ∧ (∀ o xs, u ≠ .frz o xs) := by
  cases o with
  | lst ds => obtain ⟨vs, h1, h2⟩ := h; exact ⟨_, h1, fun _ z => (by cases z), fun _ _ z => (by cases z)⟩
  | dK kvs => obtain ⟨vs, h1, h2⟩ := h; exact ⟨_, h1, fun _ z => (by cases z), fun _ _ z => (by cases z)⟩
  | ins C ns ds => obtain ⟨dx, vs, h1, h2⟩ := h; exact ⟨_, h1, fun _ z => (by cases z), fun _ _ z => (by cases z)⟩
  | tbl => obtain ⟨ps, h1, h2⟩ := h; exact ⟨_, h1, fun _ z => (by cases z), fun _ _ z => (by cases z)⟩
/-- what it leans on is as it was -/
theorem ro_stay {a : Addr} {o : MO} (e : Ext K H H') (k : H' a = H a) (h : RO K H a o) : RO K H' a o := by
  cases o with
  | lst ds => obtain ⟨vs, h1, h2⟩ := h; exact ⟨vs, by rw [k]; exact h1, h2.ext e⟩
  | dK kvs => obtain ⟨vs, h1, h2, h3⟩ := h; exact ⟨vs, by rw [k]; exact h1, h2, h3.ext e⟩
  | ins C ns ds => obtain ⟨dx, vs, h1, h2, h3⟩ := h; exact ⟨dx, vs, by rw [k]; exact h1, h2, h3.ext e⟩
  | tbl => obtain ⟨ps, h1, h2⟩ := h; exact ⟨ps, by rw [k]; exact h1, h2⟩
theorem rm_none {M : Mem} {p : Addr} (h : RM K H M) (hp : H p = none) : M p = none := by
  cases e : M p with
  | none => rfl
  | some o =>
    obtain ⟨u, q, _⟩ := ro_some (h p o e)
    rw [hp] at q; cases q
theorem rm_sub {M M' : Mem} (h : RM K H M') (s : Sub M M') : RM K H M := fun a o e => h a o (s a o e)
/-- a thing that the memory doesn't tell of is made -/
theorem rm_skip {M : Mem} {p : Addr} {u : HO} (h : RM K H M) (hp : H p = none) : RM K (upd H p u) M := fun a o e => by
  obtain ⟨w, q, _⟩ := ro_some (h a o e)
  exact ro_stay (Ext.new hp) (upd_ne (ne_of_none q hp)) (h a o e)
theorem rm_new {M : Mem} {p : Addr} {u : HO} {o : MO} (h : RM K H M) (hp : H p = none) (ho : RO K (upd H p u) p o) : RM K (upd H p u) (updM M p o) := fun a o' e => by
  by_cases ha : a = p
  · subst ha; rw [updM_same] at e; cases e; exact ho
  · rw [updM_ne ha] at e
    exact rm_skip h hp a o' e
theorem rm_put {M : Mem} {p : Addr} {w u : HO} {o : MO} (h : RM K H M) (hp : H p = some w) (e : Ext K H (upd H p u)) (ho : RO K (upd H p u) p o) : RM K (upd H p u) (updM M p o) := fun a o' q => by
  by_cases ha : a = p
  · subst ha; rw [updM_same] at q; cases q; exact ho
  · rw [updM_ne ha] at q
    exact ro_stay e (upd_ne ha) (h a o' q)
theorem ro_lst {p : Addr} {ds : List D} {vs : List V} (h : H p = some (.lst vs)) (r : RVs K H ds vs) : RO K H p (.lst ds) := ⟨vs, h, r⟩
theorem rm_newL {M : Mem} {p : Addr} {ds : List D} {vs : List V} (h : RM K H M) (hp : H p = none) (r : RVs K H ds vs) : RM K (upd H p (.lst vs)) (updM M p (.lst ds)) := rm_new h hp ⟨vs, upd_same, r.ext (Ext.new hp)⟩
theorem ext_lst {p : Addr} {vs : List V} {u : HO} (hp : H p = some (.lst vs)) : Ext K H (upd H p u) := Ext.mut hp (fun _ z => by cases z) (fun _ _ z => by cases z)
theorem rm_putL {M : Mem} {p : Addr} {ds : List D} {ws vs : List V} (h : RM K H M) (hp : H p = some (.lst ws)) (r : RVs K H ds vs) : RM K (upd H p (.lst vs)) (updM M p (.lst ds)) := rm_put h hp (ext_lst hp) ⟨vs, upd_same, r.ext (ext_lst hp)⟩
end

/-! ### the slots -/
abbrev DSt := List (Option D)
structure Sl (K : PySem.W.Frag) (σ : L2.St) (H : Hp) (δ : DSt) : Prop where
  len : δ.length = σ.length
  at_ : ∀ (i : Nat) (d : D), δ[i]? = some (some d) → ∃ v, σ[i]? = some (some v) ∧ RV K H d v
section
variable {K : PySem.W.Frag} {H H' : Hp} {σ : L2.St} {δ : DSt}
theorem Sl.ext (e : Ext K H H') (h : Sl K σ H δ) : Sl K σ H' δ := ⟨h.len, fun i d q => by
  obtain ⟨v, a, b⟩ := h.at_ i d q
  exact ⟨v, a, b.ext e⟩⟩
theorem Sl.set {i : Nat} {d : D} {v : V} (h : Sl K σ H δ) (r : RV K H d v) : Sl K (σ.set i (some v)) H (δ.set i (some d)) := ⟨by simp [h.len], fun j d' q => by
  by_cases hj : i = j
  · subst hj
    by_cases hi : i < δ.length
    · rw [List.getElem?_set_self hi] at q
      cases q
      exact ⟨v, List.getElem?_set_self (by rw [← h.len]; exact hi), r⟩
    · rw [List.getElem?_eq_none (by simpa using hi)] at q; cases q
  · rw [List.getElem?_set_ne hj] at q ⊢
    exact h.at_ j d' q⟩
def wipeD (δ : DSt) : List Nat → DSt
  | [] => δ
  | v :: vs => (wipeD δ vs).set v none
theorem Sl.wipe (h : Sl K σ H δ) : ∀ vs : List Nat, Sl K (wipe σ vs) H (wipeD δ vs)
  | [] => h
  | v :: vs => by
    have ih := h.wipe vs
    refine ⟨?_, fun j d' q => ?_⟩
    · show ((wipeD δ vs).set v none).length = ((L2.wipe σ vs).set v none).length
      simp [ih.len]
    · have q : ((wipeD δ vs).set v none)[j]? = some (some d') := q
      show ∃ w, ((L2.wipe σ vs).set v none)[j]? = some (some w) ∧ _
      by_cases hj : v = j
      · subst hj
        by_cases hi : v < (wipeD δ vs).length
        · rw [List.getElem?_set_self hi] at q; cases q
        · rw [List.getElem?_eq_none (by simpa using hi)] at q; cases q
      · rw [List.getElem?_set_ne hj] at q ⊢
        exact ih.at_ j d' q
end

/-! ### readings over data -/
abbrev DK := D → Mem → Prop
abbrev DE := DSt → Mem → DK → Prop
abbrev DT := DSt → Mem → (Bool → Mem → Prop) → Prop
abbrev DA := DSt → Mem → (List D → Mem → Prop) → Prop
structure DEnds where
  nx : DSt → Mem → Prop
  rt : DK
  bk : DSt → Mem → Prop := fun _ _ => False
  ct : DSt → Mem → Prop := fun _ _ => False
abbrev DS := DEnds → DSt → Mem → Prop
section
variable (K : PySem.W.Frag)
/-- what is wanted of a value behind a reading -/
def KQ (H : Hp) (R : DK) (Q : VK) : Prop := ∀ d M' v H', R d M' → Ext K H H' → RV K H' d v → RM K H' M' → Q v H'
def lift (t : DE) : TE := fun σ H Q => ∃ δ M R, Sl K σ H δ ∧ RM K H M ∧ t δ M R ∧ KQ K H R Q
def liftT (t : DT) : TT := fun σ H Q => ∃ δ M R, Sl K σ H δ ∧ RM K H M ∧ t δ M R ∧ ∀ b M' H', R b M' → Ext K H H' → RM K H' M' → Q b H'
def liftA (t : DA) : TA := fun σ H Q => ∃ δ M R, Sl K σ H δ ∧ RM K H M ∧ t δ M R ∧ ∀ ds M' vs H', R ds M' → Ext K H H' → RVs K H' ds vs → RM K H' M' → Q vs H'
structure EndsOk (H : Hp) (R : DEnds) (Dd : Ends) : Prop where
  nx : ∀ δ M σ H', R.nx δ M → Ext K H H' → Sl K σ H' δ → RM K H' M → Dd.nx σ H'
  bk : ∀ δ M σ H', R.bk δ M → Ext K H H' → Sl K σ H' δ → RM K H' M → Dd.bk σ H'
  ct : ∀ δ M σ H', R.ct δ M → Ext K H H' → Sl K σ H' δ → RM K H' M → Dd.ct σ H'
  rt : KQ K H R.rt Dd.rt
def liftS (t : DS) : TS := fun Dd σ H => ∃ δ M R, Sl K σ H δ ∧ RM K H M ∧ t R δ M ∧ EndsOk K H R Dd
end
theorem KQ.ext {K : PySem.W.Frag} {H H1 : Hp} {R : DK} {Q : VK} (k : KQ K H R Q) (e : Ext K H H1) : KQ K H1 R Q := fun d M' v H' r e' rv rm => k d M' v H' r (e.trans e') rv rm
theorem EndsOk.ext {K : PySem.W.Frag} {H H1 : Hp} {R : DEnds} {Dd : Ends} (k : EndsOk K H R Dd) (e : Ext K H H1) : EndsOk K H1 R Dd :=
  ⟨fun δ M σ H' r e' s m => k.nx δ M σ H' r (e.trans e') s m, fun δ M σ H' r e' s m => k.bk δ M σ H' r (e.trans e') s m, fun δ M σ H' r e' s m => k.ct δ M σ H' r (e.trans e') s m, k.rt.ext e⟩
structure PD (X : Cx) (e : Expr) (t : DE) : Prop where
  pe : PE X e (lift X.K t)
structure PDT (X : Cx) (e : Expr) (t : DT) : Prop where
  pt : PT X e (liftT X.K t)
structure PDA (X : Cx) (es : List Expr) (t : DA) : Prop where
  pa : PA X es (liftA X.K t)
structure PDS (X : Cx) (st : Stmt) (t : DS) : Prop where
  ps : PS X st (liftS X.K t)
structure PDSs (X : Cx) (st : List Stmt) (t : DS) : Prop where
  ps : PSs X st (liftS X.K t)
section
variable {X : Cx} {e : Expr} {es : List Expr} {st : Stmt} {sts : List Stmt}
theorem PE_imp {t t' : TE} (h : PE X e t) (f : ∀ σ H Q, t' σ H Q → t σ H Q) : PE X e t' := ⟨fun pins s σ H Q I q => h.run pins s σ H Q I (f _ _ _ q)⟩
theorem PT_imp {t t' : TT} (h : PT X e t) (f : ∀ σ H Q, t' σ H Q → t σ H Q) : PT X e t' := ⟨fun pins s σ H Q I q => h.run pins s σ H Q I (f _ _ _ q)⟩
theorem PA_imp {t t' : TA} (h : PA X es t) (f : ∀ σ H Q, t' σ H Q → t σ H Q) : PA X es t' := ⟨fun pos pins s σ H Q I q => h.run pos pins s σ H Q I (f _ _ _ q)⟩
theorem PS_imp {t t' : TS} (h : PS X st t) (f : ∀ Dd σ H, t' Dd σ H → t Dd σ H) : PS X st t' := ⟨fun pins s σ H Q I q => h.run pins s σ H Q I (f _ _ _ q)⟩
theorem PSs_imp {t t' : TS} (h : PSs X sts t) (f : ∀ Dd σ H, t' Dd σ H → t Dd σ H) : PSs X sts t' := ⟨fun pins s σ H Q I q => h.run pins s σ H Q I (f _ _ _ q)⟩
end

/-! ### names, constants -/
def dVar (i : Nat) : DE := fun δ M R => match δ[i]? with
  | some (some d) => R d M
  | _ => False
def dC (d : D) : DE := fun _ M R => R d M
section
variable {X : Cx} {pos : Pos}
theorem pd_var {i : Nat} {e : Expr} (h : PE X e (tVar i)) : PD X e (dVar i) := ⟨PE_imp h fun σ H Q q => by
  obtain ⟨δ, M, R, S, m, h, k⟩ := q
  unfold dVar at h
  split at h
  · rename_i d hd
    obtain ⟨v, a, b⟩ := S.at_ i d hd
    exact ⟨v, a, k d M v H h (Ext.refl H) b m⟩
  · exact h.elim⟩
theorem pd_c {e : Expr} {d : D} {v : V} (h : PE X e (tC v)) (r : ∀ H, RV X.K H d v) : PD X e (dC d) := ⟨PE_imp h fun σ H Q q => by
  obtain ⟨δ, M, R, S, m, h, k⟩ := q
  exact k d M v H h (Ext.refl H) (r H) m⟩
theorem pd_int {i : Int} {j : Nat} : PD X (.Constant (.int i) j pos) (dC (.int i)) := pd_c pe_int fun _ => rfl
theorem pd_bl {b : Bool} {j : Nat} : PD X (.Constant (.bool b) j pos) (dC (.bl b)) := pd_c pe_bl fun _ => rfl
theorem pd_non {j : Nat} : PD X (.Constant .none j pos) (dC .non) := pd_c pe_non fun _ => rfl
theorem pd_str {x : Str} {j : Nat} : PD X (.Constant (.str x) j pos) (dC (.str x)) := pd_c pe_str fun _ => rfl
end

/-! ### operators -/
/-- what an operator gives over data -/
abbrev D2 := D → D → Mem → DK → Prop
def OpD (K : PySem.W.Frag) (r : R2) (g : D2) : Prop := ∀ x y M R H v w Q, g x y M R → RM K H M → RV K H x v → RV K H y w → KQ K H R Q → r v w H Q
def dBin (g : D2) (ta tb : DE) : DE := fun δ M R => ta δ M fun x M1 => tb δ M1 fun y M2 => g x y M2 R
theorem bin_imp {K : PySem.W.Frag} {r : R2} {g : D2} {ta tb : DE} (hg : OpD K r g) (σ : L2.St) (H : Hp) (Q : VK) (h : lift K (dBin g ta tb) σ H Q) : tOp r (lift K ta) (lift K tb) σ H Q := by
  obtain ⟨δ, M, R, S, m, h, k⟩ := h
  refine ⟨δ, M, _, S, m, h, fun x M1 v H1 h1 e1 r1 m1 => ?_⟩
  refine ⟨δ, M1, _, S.ext e1, m1, h1, fun y M2 w H2 h2 e2 r2 m2 => ?_⟩
  exact hg x y M2 R H2 v w Q h2 m2 (r1.ext e2) r2 (k.ext (e1.trans e2))
section
variable {X : Cx} {a b : Expr} {ta tb : DE} {pos : Pos}
theorem pd_op {op : Operator} {r : R2} {g : D2} (ho : OpR X (binaryOp op) r) (hg : OpD X.K r g) (ha : PD X a ta) (hb : PD X b tb) : PD X (.BinOp a op b pos) (dBin g ta tb) := ⟨PE_imp (pe_op ho ha.pe hb.pe) (bin_imp hg)⟩
theorem pd_cmp {op : CmpOp} {r : R2} {g : D2} (ho : OpR X (compareOp op) r) (hg : OpD X.K r g) (ha : PD X a ta) (hb : PD X b tb) (hm : behindInMarks op b = false) : PD X (.Compare a [op] [b] pos) (dBin g ta tb) := ⟨PE_imp (pe_cmpR ho ha.pe hb.pe hm) (bin_imp hg)⟩
/-- an expression as a test: its value is a bool -/
def dTest (t : DE) : DT := fun δ M R => t δ M fun d M1 => match d with
  | .bl b => R b M1
  | _ => False
theorem test_imp {K : PySem.W.Frag} {t : DE} (σ : L2.St) (H : Hp) (Q : Bool → Hp → Prop) (h : liftT K (dTest t) σ H Q) : tB (lift K t) σ H Q := by
  obtain ⟨δ, M, R, S, m, h, k⟩ := h
  refine ⟨δ, M, _, S, m, h, fun d M1 v H1 h1 e1 r1 m1 => ?_⟩
  split at h1
  · exact ⟨_, r1, k _ M1 H1 h1 e1 m1⟩
  · exact h1.elim
theorem pdt_val {e : Expr} {t : DE} (h : PD X e t) (he : ∀ whole, isTrue e X.env whole = (do let v ← whole; standAt e.pos; holding [v] (truthy v)) := by intro _; rfl) : PDT X e (dTest t) := ⟨PT_imp (pt_val h.pe he) test_imp⟩
theorem pdt_cmp {op : CmpOp} {r : R2} {g : D2} (ho : OpR X (compareOp op) r) (hg : OpD X.K r g) (ha : PD X a ta) (hb : PD X b tb) (hm : behindInMarks op b = false) : PDT X (.Compare a [op] [b] pos) (dTest (dBin g ta tb)) :=
  ⟨PT_imp (pt_cmpR ho ha.pe hb.pe hm) fun σ H Q h => by
    obtain ⟨δ, M, R, S, m, h, k⟩ := h
    have q := bin_imp hg σ H (fun x H' => ∃ k, x = .bl k ∧ Q k H') ⟨δ, M, _, S, m, h, fun d M1 v H1 h1 e1 r1 m1 => by
      split at h1
      · exact ⟨_, r1, k _ M1 H1 h1 e1 m1⟩
      · exact h1.elim⟩
    exact q⟩
end
end DD
end
section
namespace DD
open PySem PySem.Spec PyProof.Rows L2

section
variable {X : Cx}
theorem opr_or {f : Value → Value → Sem Value} {r1 r2 : R2} (h1 : OpR X f r1) (h2 : OpR X f r2) : OpR X f (fun x y H Q => r1 x y H Q ∨ r2 x y H Q) := by
  intro pins s σ H x y v u Q I rx ry h
  rcases h with h | h
  · exact h1 pins s σ H x y v u Q I rx ry h
  · exact h2 pins s σ H x y v u Q I rx ry h
theorem kq_keep {K : PySem.W.Frag} {R : DK} {Q : VK} {H : Hp} {M : Mem} {d : D} {v : V} (k : KQ K H R Q) (m : RM K H M) (r : R d M) (rv : RV K H d v) : Q v H := k d M v H r (Ext.refl H) rv m
theorem kq_new {K : PySem.W.Frag} {R : DK} {Q : VK} {H : Hp} {M : Mem} {p : Addr} {ds : List D} {vs : List V} (k : KQ K H R Q) (m : RM K H M) (hp : H p = none) (rv : RVs K H ds vs) (r : R (.ref p) (updM M p (.lst ds))) : Q (.ref p) (upd H p (.lst vs)) :=
  k _ _ _ _ r (Ext.new hp) rfl (rm_newL m hp rv)
theorem kq_newT {K : PySem.W.Frag} {R : DK} {Q : VK} {H : Hp} {M : Mem} {p : Addr} {ds : List D} {vs : List V} (k : KQ K H R Q) (m : RM K H M) (hp : H p = none) (rv : RVs K H ds vs) (r : R (.tup ds) M) : Q (.ref p) (upd H p (.tup vs)) :=
  k _ _ _ _ r (Ext.new hp) ⟨p, vs, rfl, .inl (.inl upd_same), rv.ext (Ext.new hp)⟩ (rm_skip m hp)
theorem kq_put {K : PySem.W.Frag} {R : DK} {Q : VK} {H : Hp} {M : Mem} {p : Addr} {d : D} {v : V} {ds : List D} {ws vs : List V} (k : KQ K H R Q) (m : RM K H M) (hp : H p = some (.lst ws)) (rd : RV K H d v) (rv : RVs K H ds vs) (r : R d (updM M p (.lst ds))) : Q v (upd H p (.lst vs)) :=
  k _ _ _ _ r (ext_lst hp) (rd.ext (ext_lst hp)) (rm_putL m hp rv)
theorem rm_lst {K : PySem.W.Frag} {H : Hp} {M : Mem} {a : Addr} {ds : List D} (m : RM K H M) (h : M a = some (.lst ds)) : ∃ vs, H a = some (.lst vs) ∧ RVs K H ds vs := m a _ h

/-! ### + - * // % ** -/
def gAdd : D2 := fun x y M R => match x, y with
  | .int i, .int j => R (.int (i + j)) M
  | .int i, .bl b => R (.int (i + b2i b)) M
  | .str s, .str t => s.length + t.length ≤ sizeLine ∧ R (.str (s ++ t)) M
  | .tup xs, .tup ys => xs.length + ys.length ≤ sizeLine ∧ R (.tup (xs ++ ys)) M
  | .ref a, .ref b => match M a, M b with
    | some (.lst xs), some (.lst ys) => xs.length + ys.length ≤ sizeLine ∧ ∀ p, M p = none → R (.ref p) (updM M p (.lst (xs ++ ys)))
    | _, _ => False
  | _, _ => False
def rAddA (K : PySem.W.Frag) : R2 := fun x y H Q => (rI0 fun i j => V.int (i + j)) x y H Q ∨ (∃ i k, x = .int i ∧ y = .bl k ∧ Q (.int (i + b2i k)) H) ∨
  (∃ i j, x = .str i ∧ y = .str j ∧ i.length + j.length ≤ sizeLine ∧ Q (.str (i ++ j)) H) ∨ rCatA K x y H Q ∨ rCat x y H Q
theorem op_addA : OpR X (binaryOp .Add) (rAddA X.K) := opr_or op_add (opr_or op_add_ib (opr_or op_add_str (opr_or op_catA op_cat)))
theorem od_add {K : PySem.W.Frag} : OpD K (rAddA K) gAdd := by
  intro x y M R H v w Q g m rx ry k
  unfold gAdd at g
  split at g
  · cases rx; cases ry
    exact .inl ⟨_, _, rfl, rfl, kq_keep k m g rfl⟩
  · cases rx; cases ry
    exact .inr (.inl ⟨_, _, rfl, rfl, kq_keep k m g rfl⟩)
  · cases rx; cases ry
    exact .inr (.inr (.inl ⟨_, _, rfl, rfl, g.1, kq_keep k m g.2 rfl⟩))
  · obtain ⟨a, vs, rfl, s1, q1⟩ := rx
    obtain ⟨b, ws, rfl, s2, q2⟩ := ry
    refine .inr (.inr (.inr (.inl ⟨a, b, vs, ws, rfl, rfl, s1, s2, by rw [← q1.length, ← q2.length]; exact g.1, fun e => ?_, fun e1 e2 => ?_, fun e1 e2 p hp => ?_⟩)))
    · subst e
      have : _ = [] := List.length_eq_zero_iff.mp (q1.length.trans rfl)
      subst this
      exact kq_keep k m g.2 ⟨b, ws, rfl, s2, q2⟩
    · subst e2
      have : _ = [] := List.length_eq_zero_iff.mp (q2.length.trans rfl)
      subst this
      rw [List.append_nil] at g
      exact kq_keep k m g.2 ⟨a, vs, rfl, s1, q1⟩
    · exact kq_newT k m hp (q1.append q2) g.2
  · cases rx; cases ry
    split at g
    · rename_i xs ys h1 h2
      obtain ⟨vs, a1, q1⟩ := rm_lst m h1
      obtain ⟨ws, a2, q2⟩ := rm_lst m h2
      exact .inr (.inr (.inr (.inr ⟨_, _, vs, ws, rfl, rfl, a1, a2, by rw [← q1.length, ← q2.length]; exact g.1, fun p hp => kq_new k m hp (q1.append q2) (g.2 p (rm_none m hp))⟩)))
    · exact g.elim
  · exact g.elim
/-- ints in, under C, a value out -/
def gI (C : Int → Int → Prop) (f : Int → Int → D) : D2 := fun x y M R => match x, y with
  | .int i, .int j => C i j ∧ R (f i j) M
  | _, _ => False
def gI0 (f : Int → Int → D) : D2 := fun x y M R => match x, y with
  | .int i, .int j => R (f i j) M
  | _, _ => False
theorem od_I {K : PySem.W.Frag} {C : Int → Int → Prop} {g : Int → Int → V} {f : Int → Int → D} (h : ∀ H i j, RV K H (f i j) (g i j)) : OpD K (rI C g) (gI C f) := by
  intro x y M R H v w Q q m rx ry k
  unfold gI at q
  split at q
  · cases rx; cases ry
    exact ⟨_, _, rfl, rfl, q.1, kq_keep k m q.2 (h H _ _)⟩
  · exact q.elim
theorem od_I0 {K : PySem.W.Frag} {g : Int → Int → V} {f : Int → Int → D} (h : ∀ H i j, RV K H (f i j) (g i j)) : OpD K (rI0 g) (gI0 f) := by
  intro x y M R H v w Q q m rx ry k
  unfold gI0 at q
  split at q
  · cases rx; cases ry
    exact ⟨_, _, rfl, rfl, kq_keep k m q (h H _ _)⟩
  · exact q.elim
def MulOk (i j : Int) : Prop := i.natAbs.log2 + j.natAbs.log2 < 100000000
theorem MulOk.ok {i j : Int} (h : MulOk i j) : IntMulOk i j := by
  have b : ∀ x : Int, Builtin.Int.intBits x ≤ x.natAbs.log2 + 1 := fun x => by
    unfold Builtin.Int.intBits
    split <;> omega
  have h1 := b i
  have h2 := b j
  have h3 : i.natAbs.log2 + j.natAbs.log2 < 100000000 := h
  have e : bitsLine = 134217728 := by decide
  unfold IntMulOk
  intro z
  rw [Bool.and_eq_true] at z
  have z2 := z.2
  unfold Builtin.Int.intTooBig at z2
  have z3 := of_decide_eq_true z2
  rw [e] at z3
  omega
theorem op_mulG : OpR X (binaryOp .Mult) (rI MulOk fun i j => .int (i * j)) := opI fun _ _ _ _ _ _ _ hc q => mul_int q hc.ok
theorem iop_mulG : OpR X (inplaceOp .Mult) (rI MulOk fun i j => .int (i * j)) := opI fun _ _ _ _ _ _ _ hc q => imul_int q hc.ok
def DivOk (i j : Int) : Prop := j ≠ 0 ∧ (j.natAbs.log2 < 9000 ∨ i.natAbs.log2 ≤ j.natAbs.log2 + 4400)
theorem noPylong_of {x y : Int} (h : y.natAbs.log2 < 9000 ∨ x.natAbs.log2 ≤ y.natAbs.log2 + 4400) : Builtin.divisionGoesByPylong x y = false := by
  rcases h with h | h
  · exact PyProof.noPylong_of_log2 h
  · by_cases hy : (y == 0) = true
    · have : y = 0 := by simpa using hy
      subst this
      exact PyProof.noPylong_of_log2 (by decide +kernel)
    · have key : (if x == 0 then 0 else x.natAbs.log2 / 30 + 1) ≤ (if y == 0 then 0 else y.natAbs.log2 / 30 + 1) + 150 := by
        rw [if_neg hy]
        split <;> omega
      show (_ && decide ((if x == 0 then 0 else x.natAbs.log2 / 30 + 1) > (if y == 0 then 0 else y.natAbs.log2 / 30 + 1) + 150)) = false
      rw [decide_eq_false (Nat.not_lt.mpr key), Bool.and_false]
theorem op_fdivG : OpR X (binaryOp .FloorDiv) (rI DivOk fun i j => .int (i.fdiv j)) := opI fun _ _ _ _ _ _ _ hc q => floordiv_int hc.1 q (.inl (noPylong_of hc.2))
theorem iop_fdivG : OpR X (inplaceOp .FloorDiv) (rI DivOk fun i j => .int (i.fdiv j)) := opI fun _ _ _ _ _ _ _ hc q => ifloordiv_int hc.1 q (.inl (noPylong_of hc.2))
abbrev gSub : D2 := gI0 fun i j => .int (i - j)
abbrev gMul : D2 := gI MulOk fun i j => .int (i * j)
abbrev gDiv : D2 := gI DivOk fun i j => .int (i.fdiv j)
abbrev gMod : D2 := gI (fun _ j => j ≠ 0) fun i j => .int (i.fmod j)
abbrev gPow : D2 := gI CPow fun i j => .int (i ^ j.toNat)
theorem od_sub {K : PySem.W.Frag} : OpD K (rI0 fun i j => .int (i - j)) gSub := od_I0 fun _ _ _ => rfl
theorem od_mul {K : PySem.W.Frag} : OpD K (rI MulOk fun i j => .int (i * j)) gMul := od_I fun _ _ _ => rfl
theorem od_div {K : PySem.W.Frag} : OpD K (rI DivOk fun i j => .int (i.fdiv j)) gDiv := od_I fun _ _ _ => rfl
theorem od_mod {K : PySem.W.Frag} : OpD K (rI (fun _ j => j ≠ 0) fun i j => .int (i.fmod j)) gMod := od_I fun _ _ _ => rfl
theorem od_pow {K : PySem.W.Frag} : OpD K (rI CPow fun i j => .int (i ^ j.toNat)) gPow := od_I fun _ _ _ => rfl
/-! ### < <= > >= of ints -/
abbrev gLt : D2 := gI0 fun i j => .bl (decide (i < j))
abbrev gLe : D2 := gI0 fun i j => .bl (decide (i ≤ j))
abbrev gGt : D2 := gI0 fun i j => .bl (decide (j < i))
abbrev gGe : D2 := gI0 fun i j => .bl (decide (j ≤ i))
theorem od_lt {K : PySem.W.Frag} : OpD K (rI0 fun i j => .bl (decide (i < j))) gLt := od_I0 fun _ _ _ => rfl
theorem od_le {K : PySem.W.Frag} : OpD K (rI0 fun i j => .bl (decide (i ≤ j))) gLe := od_I0 fun _ _ _ => rfl
theorem od_gt {K : PySem.W.Frag} : OpD K (rI0 fun i j => .bl (decide (j < i))) gGt := od_I0 fun _ _ _ => rfl
theorem od_ge {K : PySem.W.Frag} : OpD K (rI0 fun i j => .bl (decide (j ≤ i))) gGe := od_I0 fun _ _ _ => rfl

/-! ### == != of data -/
mutual
def pyd : D → Option PyData
  | .non => some .none
  | .bl b => some (.bool b)
  | .int i => some (.int i)
  | .str s => some (.str s)
  | .tup ds => (pyds ds).map .tuple
  | .rol ds => (pyds ds).map .list
  | .ref _ => none
  | .ty _ => none
def pyds : List D → Option (List PyData)
  | [] => some []
  | d :: ds => match pyd d, pyds ds with
    | some x, some xs => some (x :: xs)
    | _, _ => none
end
/-- a list's items are looked up -/
def pydM (M : Mem) : D → Option PyData
  | .ref a => match M a with
    | some (.lst xs) => (pyds xs).map .list
    | _ => none
  | d => pyd d
mutual
theorem pyd_dp {K : PySem.W.Frag} {H : Hp} : ∀ {d : D} {x : PyData} {v : V}, pyd d = some x → RV K H d v → Dp K H v x
  | .non, _, _, e, h => by cases e; cases h; exact .non
  | .bl b, _, _, e, h => by cases e; cases h; exact .bl b
  | .int i, _, _, e, h => by cases e; cases h; exact .int i
  | .str s, _, _, e, h => by cases e; cases h; exact .str s
  | .tup ds, x, v, e, h => by
    obtain ⟨a, vs, rfl, s, q⟩ := h
    cases z : pyds ds with
    | none => simp [pyd, z] at e
    | some xs =>
      simp [pyd, z] at e
      subst e
      exact .tup s (pyds_dp z q)
  | .rol ds, x, v, e, h => by
    obtain ⟨a, vs, rfl, s, q⟩ := h
    cases z : pyds ds with
    | none => simp [pyd, z] at e
    | some xs =>
      simp [pyd, z] at e
      subst e
      exact .lst s.sq (pyds_dp z q)
  | .ref _, _, _, e, _ => by cases e
  | .ty _, _, _, e, _ => by cases e
theorem pyds_dp {K : PySem.W.Frag} {H : Hp} : ∀ {ds : List D} {xs : List PyData} {vs : List V}, pyds ds = some xs → RVs K H ds vs → DpAll K H vs xs
  | [], _, _, e, h => by cases e; cases h; exact .nil
  | d :: ds, xs, vs, e, h => by
    obtain ⟨v, ws, rfl, q, t⟩ := h
    unfold pyds at e
    split at e
    · rename_i x xs' e1 e2
      cases e
      exact .cons (pyd_dp e1 q) (pyds_dp e2 t)
    · cases e
end
theorem pydM_dp {K : PySem.W.Frag} {H : Hp} {M : Mem} {d : D} {x : PyData} {v : V} (m : RM K H M) (e : pydM M d = some x) (h : RV K H d v) : Dp K H v x := by
  unfold pydM at e
  split at e
  · cases h
    split at e
    · rename_i xs he
      obtain ⟨vs, a1, q1⟩ := rm_lst m he
      cases z : pyds xs with
      | none => simp [z] at e
      | some ys =>
        simp [z] at e
        subst e
        exact .lst (.inl (.inl a1)) (pyds_dp z q1)
    · cases e
  · exact pyd_dp e h
def gEq : D2 := fun x y M R => match pydM M x, pydM M y with
  | some a, some b => SeqAt.shaped a = true ∧ SeqAt.shaped b = true ∧ R (.bl (PyData.eqv a b)) M
  | _, _ => False
def gNe : D2 := fun x y M R => match pydM M x, pydM M y with
  | some a, some b => SeqAt.shaped a = true ∧ SeqAt.shaped b = true ∧ R (.bl (!PyData.eqv a b)) M
  | _, _ => False
theorem od_eq {K : PySem.W.Frag} : OpD K (rEqD K) gEq := by
  intro x y M R H v w Q q m rx ry k
  unfold gEq at q
  split at q
  · rename_i a b e1 e2
    exact ⟨a, b, pydM_dp m e1 rx, pydM_dp m e2 ry, q.1, q.2.1, kq_keep k m q.2.2 rfl⟩
  · exact q.elim
theorem od_ne {K : PySem.W.Frag} : OpD K (rNeD K) gNe := by
  intro x y M R H v w Q q m rx ry k
  unfold gNe at q
  split at q
  · rename_i a b e1 e2
    exact ⟨a, b, pydM_dp m e1 rx, pydM_dp m e2 ry, q.1, q.2.1, kq_keep k m q.2.2 rfl⟩
  · exact q.elim
/-! ### is None -/
def isNon : D → Bool
  | .non => true
  | _ => false
def gIsN : D2 := fun x y M R => match y with
  | .non => R (.bl (isNon x)) M
  | _ => False
def gNotN : D2 := fun x y M R => match y with
  | .non => R (.bl (!isNon x)) M
  | _ => False
theorem isNon_rv {K : PySem.W.Frag} {H : Hp} {x : D} {v : V} (h : RV K H x v) : isNon x = decide (v = .non) := by
  cases x with
  | tup ds => obtain ⟨a, vs, rfl, _⟩ := h; rfl
  | rol ds => obtain ⟨a, vs, rfl, _⟩ := h; rfl
  | non => cases h; rfl
  | bl b => cases h; rfl
  | int b => cases h; rfl
  | str b => cases h; rfl
  | ref b => cases h; rfl
  | ty b => cases h; rfl
theorem od_isN {K : PySem.W.Frag} : OpD K (fun x y H Q => y = .non ∧ Q (.bl (decide (x = .non))) H) gIsN := by
  intro x y M R H v w Q q m rx ry k
  unfold gIsN at q
  split at q
  · cases ry
    rw [isNon_rv rx] at q
    exact ⟨rfl, kq_keep k m q rfl⟩
  · exact q.elim
theorem od_notN {K : PySem.W.Frag} : OpD K (fun x y H Q => y = .non ∧ Q (.bl (!decide (x = .non))) H) gNotN := by
  intro x y M R H v w Q q m rx ry k
  unfold gNotN at q
  split at q
  · cases ry
    rw [isNon_rv rx] at q
    exact ⟨rfl, kq_keep k m q rfl⟩
  · exact q.elim

/-! ### one-place -/
abbrev D1 := D → Mem → DK → Prop
def UnD (K : PySem.W.Frag) (r : V → Hp → VK → Prop) (g : D1) : Prop := ∀ x M R H v Q, g x M R → RM K H M → RV K H x v → KQ K H R Q → r v H Q
def dUn (g : D1) (ta : DE) : DE := fun δ M R => ta δ M fun x M1 => g x M1 R
theorem un_imp {K : PySem.W.Frag} {r : V → Hp → VK → Prop} {g : D1} {ta : DE} (hg : UnD K r g) (σ : L2.St) (H : Hp) (Q : VK) (h : lift K (dUn g ta) σ H Q) : tUn r (lift K ta) σ H Q := by
  obtain ⟨δ, M, R, S, m, h, k⟩ := h
  exact ⟨δ, M, _, S, m, h, fun x M1 v H1 h1 e1 r1 m1 => hg x M1 R H1 v Q h1 m1 r1 (k.ext e1)⟩
theorem pd_un {op : UnaryOp} {r : V → Hp → VK → Prop} {g : D1} {a : Expr} {ta : DE} {pos : Pos} (ho : UnR X (unaryOp op) r) (hg : UnD X.K r g) (ha : PD X a ta) : PD X (.UnaryOp op a pos) (dUn g ta) := ⟨PE_imp (pe_un ho ha.pe) (un_imp hg)⟩
def gNeg : D1 := fun x M R => match x with
  | .int i => R (.int (-i)) M
  | _ => False
theorem ud_neg {K : PySem.W.Frag} : UnD K (rU fun i => .int (-i)) gNeg := by
  intro x M R H v Q q m rx k
  unfold gNeg at q
  split at q
  · cases rx
    exact ⟨_, rfl, kq_keep k m q rfl⟩
  · exact q.elim

/-! ### tuples, lists, argument lists -/
def aNil : DA := fun _ M R => R [] M
def aCons (ta : DE) (tr : DA) : DA := fun δ M R => ta δ M fun x M1 => tr δ M1 fun xs M2 => R (x :: xs) M2
theorem pda_nil : PDA X [] aNil := ⟨PA_imp pa_nil fun σ H Q h => by
  obtain ⟨δ, M, R, S, m, h, k⟩ := h
  exact k [] M [] H h (Ext.refl H) .nil m⟩
theorem pda_cons {e : Expr} {es : List Expr} {te : DE} {t : DA} (ha : PD X e te) (hr : PDA X es t) (hs : starEach (e :: es) X.env = (false, eval e X.env) :: starEach es X.env := by rfl) : PDA X (e :: es) (aCons te t) := ⟨PA_imp (pa_cons ha.pe hr.pa hs) fun σ H Q h => by
  obtain ⟨δ, M, R, S, m, h, k⟩ := h
  refine ⟨δ, M, _, S, m, h, fun x M1 v H1 h1 e1 r1 m1 => ?_⟩
  refine ⟨δ, M1, _, S.ext e1, m1, h1, fun xs M2 vs H2 h2 e2 r2 m2 => ?_⟩
  exact k _ M2 _ H2 h2 (e1.trans e2) (.cons (r1.ext e2) r2) m2⟩
def dTup (t : DA) : DE := fun δ M R => t δ M fun xs M1 => xs.length ≤ sizeLine ∧ R (.tup xs) M1
def dLst (t : DA) : DE := fun δ M R => t δ M fun xs M1 => xs.length ≤ sizeLine ∧ ∀ p, M1 p = none → R (.ref p) (updM M1 p (.lst xs))
theorem pd_tup {es : List Expr} {t : DA} {x1 : Nat} {pos : Pos} (h : PDA X es t) : PD X (.Tuple es x1 pos) (dTup t) := ⟨PE_imp (pe_tup h.pa) fun σ H Q h => by
  obtain ⟨δ, M, R, S, m, h, k⟩ := h
  exact ⟨δ, M, _, S, m, h, fun xs M1 vs H1 h1 e1 r1 m1 => ⟨by rw [← r1.length]; exact h1.1, fun p hp => kq_newT (k.ext e1) m1 hp r1 h1.2⟩⟩⟩
theorem pd_lst {es : List Expr} {t : DA} {pos : Pos} (h : PDA X es t) : PD X (.List es pos) (dLst t) := ⟨PE_imp (pe_lst h.pa) fun σ H Q h => by
  obtain ⟨δ, M, R, S, m, h, k⟩ := h
  exact ⟨δ, M, _, S, m, h, fun xs M1 vs H1 h1 e1 r1 m1 => ⟨by rw [← r1.length]; exact h1.1, fun p hp => kq_new (k.ext e1) m1 hp r1 (h1.2 p (rm_none m1 hp))⟩⟩⟩

/-! ### subscripts -/
theorem atI_rv {K : PySem.W.Frag} {H : Hp} {ds : List D} {vs : List V} {i : Int} {d : D} (r : RVs K H ds vs) (h : atI ds i = some d) : ∃ v, atI vs i = some v ∧ RV K H d v := by
  unfold atI at h ⊢
  rw [← r.length]
  cases e : ixN ds.length i with
  | none => rw [e] at h; cases h
  | some j =>
    rw [e] at h
    obtain ⟨v, a, b⟩ := r.get (i := j) h
    exact ⟨v, a, b⟩
def gIx : D2 := fun x y M R => match x, y with
  | .tup xs, .int i => match atI xs i with
    | some d => R d M
    | none => False
  | .rol xs, .int i => match atI xs i with
    | some d => R d M
    | none => False
  | .ref a, .int i => match M a with
    | some (.lst xs) => match atI xs i with
      | some d => R d M
      | none => False
    | _ => False
  | .str z, .int i => match atI z.cps.toList i with
    | some c => z.length ≤ sizeLine ∧ R (.str ⟨#[c]⟩) M
    | none => False
  | _, _ => False
theorem od_ix {K : PySem.W.Frag} : OpD K (rIx K) gIx := by
  intro x y M R H v w Q q m rx ry k
  unfold gIx at q
  split at q
  · obtain ⟨a, vs, rfl, s, r⟩ := rx
    cases ry
    split at q
    · rename_i d hd
      obtain ⟨u, h1, h2⟩ := atI_rv r hd
      exact .inr (.inl ⟨a, vs, _, u, rfl, rfl, s, h1, kq_keep k m q h2⟩)
    · exact q.elim
  · obtain ⟨a, vs, rfl, s, r⟩ := rx
    cases ry
    split at q
    · rename_i d hd
      obtain ⟨u, h1, h2⟩ := atI_rv r hd
      exact .inl ⟨a, vs, _, u, rfl, rfl, s.sq, h1, kq_keep k m q h2⟩
    · exact q.elim
  · cases rx; cases ry
    split at q
    · rename_i xs hx
      obtain ⟨vs, a1, q1⟩ := rm_lst m hx
      split at q
      · rename_i d hd
        obtain ⟨u, h1, h2⟩ := atI_rv q1 hd
        exact .inl ⟨_, vs, _, u, rfl, rfl, .inl (.inl a1), h1, kq_keep k m q h2⟩
      · exact q.elim
    · exact q.elim
  · cases rx; cases ry
    split at q
    · rename_i c hc
      exact .inr (.inr ⟨_, _, c, rfl, rfl, q.1, hc, kq_keep k m q.2 rfl⟩)
    · exact q.elim
  · exact q.elim
theorem pd_ix {a b : Expr} {ta tb : DE} {pos : Pos} (ha : PD X a ta) (hb : PD X b tb) (hs : PlainIx b := by intro _ _; rfl) : PD X (.Subscript a b pos) (dBin gIx ta tb) := ⟨PE_imp (pe_ix ix_seq ha.pe hb.pe hs) (bin_imp od_ix)⟩
end
end DD
end
section
namespace DD
open PySem PySem.Spec PyProof.Rows L2
section
variable {X : Cx}
/-! ### slices -/
abbrev DO := DSt → Mem → (Option Int → Mem → Prop) → Prop
def liftO (K : PySem.W.Frag) (t : DO) : TO := fun σ H Q => ∃ δ M R, Sl K σ H δ ∧ RM K H M ∧ t δ M R ∧ ∀ o M' H', R o M' → Ext K H H' → RM K H' M' → Q o H'
structure PDO (X : Cx) (e : Option Expr) (t : DO) : Prop where
  po : PO X e (liftO X.K t)
theorem PO_imp {e : Option Expr} {t t' : TO} (h : PO X e t) (f : ∀ σ H Q, t' σ H Q → t σ H Q) : PO X e t' := ⟨fun pins s σ H Q I q => h.run pins s σ H Q I (f _ _ _ q)⟩
def oNone : DO := fun _ M R => R none M
def oSome (t : DE) : DO := fun δ M R => t δ M fun d M1 => match d with
  | .int i => R (some i) M1
  | _ => False
theorem pdo_none : PDO X none oNone := ⟨PO_imp po_none fun σ H Q h => by
  obtain ⟨δ, M, R, S, m, h, k⟩ := h
  exact k none M H h (Ext.refl H) m⟩
theorem pdo_some {e : Expr} {t : DE} (h : PD X e t) : PDO X (some e) (oSome t) := ⟨PO_imp (po_some h.pe) fun σ H Q h => by
  obtain ⟨δ, M, R, S, m, h, k⟩ := h
  refine ⟨δ, M, _, S, m, h, fun d M1 v H1 h1 e1 r1 m1 => ?_⟩
  split at h1
  · exact ⟨_, r1, k _ M1 H1 h1 e1 m1⟩
  · exact h1.elim⟩
def cutD {α : Type} (xs : List α) (lo hi : Option Int) : List α := (xs.drop (HT.sIx xs.length 0 lo)).take (HT.sIx xs.length xs.length hi - HT.sIx xs.length 0 lo)
theorem RVs.cut {K : PySem.W.Frag} {H : Hp} {ds : List D} {vs : List V} (lo hi : Option Int) (h : RVs K H ds vs) : RVs K H (cutD ds lo hi) (cutV vs lo hi) := by
  unfold cutD cutV
  rw [← h.length]
  exact (h.drop _).take _
def gSl (x : D) (lo hi : Option Int) (M : Mem) (R : DK) : Prop := match x with
  | .tup xs => R (.tup (cutD xs lo hi)) M
  | .rol xs => ∀ p, M p = none → R (.ref p) (updM M p (.lst (cutD xs lo hi)))
  | .str z => z.length ≤ sizeLine ∧ R (.str (cutS z lo hi)) M
  | .ref a => match M a with
    | some (.lst xs) => ∀ p, M p = none → R (.ref p) (updM M p (.lst (cutD xs lo hi)))
    | _ => False
  | _ => False
def dSl (te : DE) (tl th : DO) : DE := fun δ M R => te δ M fun x M1 => tl δ M1 fun lo M2 => th δ M2 fun hi M3 => gSl x lo hi M3 R
def rSlAll (K : PySem.W.Frag) : V → Option Int → Option Int → Hp → VK → Prop := fun x lo hi H Q => rSlA K x lo hi H Q ∨ (rSlL K x lo hi H Q ∨ rSlS x lo hi H Q)
theorem sl_all : SlR X (rSlAll X.K) := sl_tupA.or (sl_list.or sl_str)
theorem cutD_whole {α : Type} {xs : List α} {lo hi : Option Int} (h : HT.sIx xs.length 0 lo = 0 ∧ HT.sIx xs.length xs.length hi = xs.length) : cutD xs lo hi = xs := by
  unfold cutD
  rw [h.1, h.2]
  simp
theorem sl_imp {K : PySem.W.Frag} {x : D} {lo hi : Option Int} {M : Mem} {R : DK} {H : Hp} {v : V} {Q : VK} (g : gSl x lo hi M R) (m : RM K H M) (rx : RV K H x v) (k : KQ K H R Q) : rSlAll K v lo hi H Q := by
  unfold gSl at g
  split at g
  · obtain ⟨a, vs, rfl, s, r⟩ := rx
    refine .inl ⟨a, vs, rfl, s, fun e => ?_, fun e p hp => kq_newT k m hp (r.cut lo hi) g⟩
    rw [← r.length] at e
    rw [cutD_whole e] at g
    exact kq_keep k m g ⟨a, vs, rfl, s, r⟩
  · obtain ⟨a, vs, rfl, s, r⟩ := rx
    exact .inr (.inl ⟨a, vs, rfl, s.sq, fun p hp => kq_new k m hp (r.cut lo hi) (g p (rm_none m hp))⟩)
  · cases rx
    exact .inr (.inr ⟨_, rfl, g.1, kq_keep k m g.2 rfl⟩)
  · cases rx
    split at g
    · rename_i xs hx
      obtain ⟨vs, a1, q1⟩ := rm_lst m hx
      exact .inr (.inl ⟨_, vs, rfl, .inl (.inl a1), fun p hp => kq_new k m hp (q1.cut lo hi) (g p (rm_none m hp))⟩)
    · exact g.elim
  · exact g.elim
theorem pd_slice {e : Expr} {te : DE} {lo hi : Option Expr} {tl th : DO} {pos p2 : Pos} (he : PD X e te) (hl : PDO X lo tl) (hu : PDO X hi th) : PD X (.Subscript e (.Slice lo hi none p2) pos) (dSl te tl th) :=
  ⟨PE_imp (pe_slice sl_all he.pe hl.po hu.po) fun σ H Q h => by
    obtain ⟨δ, M, R, S, m, h, k⟩ := h
    refine ⟨δ, M, _, S, m, h, fun x M1 v H1 h1 e1 r1 m1 => ?_⟩
    refine ⟨δ, M1, _, S.ext e1, m1, h1, fun l M2 H2 h2 e2 m2 => ?_⟩
    refine ⟨δ, M2, _, S.ext (e1.trans e2), m2, h2, fun u M3 H3 h3 e3 m3 => ?_⟩
    exact sl_imp h3 m3 (r1.ext (e2.trans e3)) (k.ext ((e1.trans e2).trans e3))⟩

/-! ### calls of built-ins -/
abbrev DC1 := List D → Mem → DK → Prop
def CallD (K : PySem.W.Frag) (r : List V → Hp → VK → Prop) (g : DC1) : Prop := ∀ xs M R H vs Q, g xs M R → RM K H M → RVs K H xs vs → KQ K H R Q → r vs H Q
def dCB (g : DC1) (t : DA) : DE := fun δ M R => t δ M fun xs M1 => g xs M1 R
theorem cb_imp {K : PySem.W.Frag} {r : List V → Hp → VK → Prop} {g : DC1} {t : DA} (hg : CallD K r g) (σ : L2.St) (H : Hp) (Q : VK) (h : lift K (dCB g t) σ H Q) : tCB r (liftA K t) σ H Q := by
  obtain ⟨δ, M, R, S, m, h, k⟩ := h
  exact ⟨δ, M, _, S, m, h, fun xs M1 vs H1 h1 e1 r1 m1 => hg xs M1 R H1 vs Q h1 m1 r1 (k.ext e1)⟩
theorem callr_or {f : Value} {r1 r2 : List V → Hp → VK → Prop} (h1 : CallR X f r1) (h2 : CallR X f r2) : CallR X f (fun xs H Q => r1 xs H Q ∨ r2 xs H Q) := by
  intro pins s σ H xs us Q I r h
  rcases h with h | h
  · exact h1 pins s σ H xs us Q I r h
  · exact h2 pins s σ H xs us Q I r h
section
variable {x : Str} {p pos : Pos} {e : Expr} {es : List Expr} {t : DA} {id T : String} {r : List V → Hp → VK → Prop} {g : DC1}
theorem pd_callB (hc : CallR X (.builtin id) r) (hg : CallD X.K r g) (hgl : Gl X x) (hm : X.mg x = none) (hv : bootBuiltins x = some (.builtin id)) (ha : PDA X (e :: es) t) (hn : x ≠ "__name__" := by decide) (hdb : (x == ("__debug__" : Str)) = false := by decide)
    (he : starEach (e :: es) X.env = (false, eval e X.env) :: starEach es X.env := by rfl) (hpl : (backTo pos (starEach es X.env)).any (·.1) = false := by rfl) : PD X (.Call (.Name x p) (e :: es) [] pos) (dCB g t) :=
  ⟨PE_imp (pe_callB hc hgl hm hv ha.pa hn hdb he hpl) (cb_imp hg)⟩
theorem pd_callTy (hc : CallR X (.type T) r) (hg : CallD X.K r g) (hgl : Gl X x) (hm : X.mg x = none) (hv : bootBuiltins x = some (.type T)) (ha : PDA X (e :: es) t) (hn : x ≠ "__name__" := by decide) (hdb : (x == ("__debug__" : Str)) = false := by decide)
    (he : starEach (e :: es) X.env = (false, eval e X.env) :: starEach es X.env := by rfl) (hpl : (backTo pos (starEach es X.env)).any (·.1) = false := by rfl) : PD X (.Call (.Name x p) (e :: es) [] pos) (dCB g t) :=
  ⟨PE_imp (pe_callTy hc hgl hm hv ha.pa hn hdb he hpl) (cb_imp hg)⟩
theorem pd_callF (hc : CallR X (.builtin id) r) (hg : CallD X.K r g) (hgl : Gl X x) (hm : X.mg x = some (.builtin id)) (ha : PDA X (e :: es) t) (hdb : (x == ("__debug__" : Str)) = false := by decide)
    (he : starEach (e :: es) X.env = (false, eval e X.env) :: starEach es X.env := by rfl) (hpl : (backTo pos (starEach es X.env)).any (·.1) = false := by rfl) : PD X (.Call (.Name x p) (e :: es) [] pos) (dCB g t) :=
  ⟨PE_imp (pe_callBfun hc hgl hm ha.pa hdb he hpl) (cb_imp hg)⟩
end
/-- the items of a list or a tuple -/
def itemsD (M : Mem) : D → Option (List D)
  | .tup xs => some xs
  | .rol xs => some xs
  | .ref a => match M a with
    | some (.lst xs) => some xs
    | _ => none
  | _ => none
theorem items_sq {K : PySem.W.Frag} {H : Hp} {M : Mem} {d : D} {xs : List D} {v : V} (m : RM K H M) (e : itemsD M d = some xs) (h : RV K H d v) : ∃ p vs, v = .ref p ∧ (SqL K H p vs ∨ SqT K H p vs) ∧ RVs K H xs vs := by
  unfold itemsD at e
  split at e
  · cases e
    obtain ⟨a, vs, rfl, s, r⟩ := h
    exact ⟨a, vs, rfl, .inr s, r⟩
  · cases e
    obtain ⟨a, vs, rfl, s, r⟩ := h
    exact ⟨a, vs, rfl, .inl s.sq, r⟩
  · cases h
    split at e
    · rename_i xs' he
      cases e
      obtain ⟨vs, a1, q1⟩ := rm_lst m he
      exact ⟨_, vs, rfl, .inl (.inl (.inl a1)), q1⟩
    · cases e
  · cases e
/-- an object of the dict kind -/
def dictD (M : Mem) : D → Option (List (Key × D))
  | .ref a => match M a with
    | some (.dK kvs) => some kvs
    | _ => none
  | _ => none
def gLen : DC1 := fun xs M R => match xs with
  | [.str z] => z.length ≤ sizeLine ∧ R (.int z.length) M
  | [d] => match itemsD M d with
    | some ys => R (.int ys.length) M
    | none => False
  | _ => False
theorem cd_len {K : PySem.W.Frag} : CallD K (fun xs H Q => (∃ p ys, xs = [V.ref p] ∧ (SqL K H p ys ∨ SqT K H p ys) ∧ Q (.int ys.length) H) ∨ (∃ z, xs = [V.str z] ∧ z.length ≤ sizeLine ∧ Q (.int z.length) H)) gLen := by
  intro xs M R H vs Q g m r k
  unfold gLen at g
  split at g
  · obtain ⟨v, ws, rfl, q, t⟩ := r
    cases t; cases q
    exact .inr ⟨_, rfl, g.1, kq_keep k m g.2 rfl⟩
  · obtain ⟨v, ws, rfl, q, t⟩ := r
    cases t
    split at g
    · rename_i ys he
      obtain ⟨p, us, rfl, s, r2⟩ := items_sq m he q
      exact .inl ⟨p, us, rfl, s, kq_keep k m g (by show V.int _ = V.int _; rw [r2.length])⟩
    · exact g.elim
  · exact g.elim
theorem call_lenA : CallR X (.builtin "len") (fun xs H Q => (∃ p ys, xs = [V.ref p] ∧ (SqL X.K H p ys ∨ SqT X.K H p ys) ∧ Q (.int ys.length) H) ∨ (∃ z, xs = [V.str z] ∧ z.length ≤ sizeLine ∧ Q (.int z.length) H)) := callr_or call_len_seq call_len_str
def gAbs : DC1 := fun xs M R => match xs with
  | [.int i] => R (.int (if i < 0 then -i else i)) M
  | _ => False
theorem cd_abs {K : PySem.W.Frag} : CallD K (fun xs H Q => ∃ i, xs = [V.int i] ∧ Q (.int (if i < 0 then -i else i)) H) gAbs := by
  intro xs M R H vs Q g m r k
  unfold gAbs at g
  split at g
  · obtain ⟨v, ws, rfl, q, t⟩ := r
    cases t; cases q
    exact ⟨_, rfl, kq_keep k m g rfl⟩
  · exact g.elim
def gInt : DC1 := fun xs M R => match xs with
  | [.int i] => R (.int i) M
  | [.bl b] => R (.int (if b then 1 else 0)) M
  | _ => False
theorem cd_int {K : PySem.W.Frag} : CallD K (fun xs H Q => (∃ i, xs = [V.int i] ∧ Q (.int i) H) ∨ ∃ k, xs = [V.bl k] ∧ Q (.int (if k then 1 else 0)) H) gInt := by
  intro xs M R H vs Q g m r k
  unfold gInt at g
  split at g
  · obtain ⟨v, ws, rfl, q, t⟩ := r
    cases t; cases q
    exact .inl ⟨_, rfl, kq_keep k m g rfl⟩
  · obtain ⟨v, ws, rfl, q, t⟩ := r
    cases t; cases q
    exact .inr ⟨_, rfl, kq_keep k m g rfl⟩
  · exact g.elim
def gMax2 : DC1 := fun xs M R => match xs with
  | [.int i, .int j] => R (.int (if j > i then j else i)) M
  | _ => False
def gMin2 : DC1 := fun xs M R => match xs with
  | [.int i, .int j] => R (.int (if j < i then j else i)) M
  | _ => False
theorem cd_max2 {K : PySem.W.Frag} : CallD K (fun xs H Q => ∃ i j, xs = [V.int i, V.int j] ∧ Q (.int (if j > i then j else i)) H) gMax2 := by
  intro xs M R H vs Q g m r k
  unfold gMax2 at g
  split at g
  · obtain ⟨v, ws, rfl, q, v2, w2, rfl, q2, t⟩ := r
    cases t; cases q; cases q2
    exact ⟨_, _, rfl, kq_keep k m g rfl⟩
  · exact g.elim
theorem cd_min2 {K : PySem.W.Frag} : CallD K (fun xs H Q => ∃ i j, xs = [V.int i, V.int j] ∧ Q (.int (if j < i then j else i)) H) gMin2 := by
  intro xs M R H vs Q g m r k
  unfold gMin2 at g
  split at g
  · obtain ⟨v, ws, rfl, q, v2, w2, rfl, q2, t⟩ := r
    cases t; cases q; cases q2
    exact ⟨_, _, rfl, kq_keep k m g rfl⟩
  · exact g.elim
def gList : DC1 := fun xs M R => match xs with
  | [d] => match itemsD M d with
    | some ys => ∀ p, M p = none → R (.ref p) (updM M p (.lst ys))
    | none => False
  | _ => False
theorem cd_list {K : PySem.W.Frag} : CallD K (fun xs H Q => ∃ p ys, xs = [.ref p] ∧ (SqL K H p ys ∨ SqT K H p ys) ∧ ∀ l, H l = none → Q (.ref l) (upd H l (.lst ys))) gList := by
  intro xs M R H vs Q g m r k
  unfold gList at g
  split at g
  · obtain ⟨v, ws, rfl, q, t⟩ := r
    cases t
    split at g
    · rename_i ys he
      obtain ⟨p, us, rfl, s, r2⟩ := items_sq m he q
      exact ⟨p, us, rfl, s, fun l hl => kq_new k m hl r2 (g l (rm_none m hl))⟩
    · exact g.elim
  · exact g.elim
/-- tuple(x): a list's items; what was new may be forgotten -/
def gTuple : DC1 := fun xs M R => match xs with
  | [d] => match itemsD M d with
    | some ys => ∃ M0, Sub M0 M ∧ R (.tup ys) M0
    | none => False
  | _ => False
theorem cd_tuple {K : PySem.W.Frag} : CallD K (fun xs H Q => ∃ p ys, xs = [.ref p] ∧ ((SqL K H p ys ∧ ∀ l, H l = none → Q (.ref l) (upd H l (.tup ys))) ∨ (SqT K H p ys ∧ Q (.ref p) H))) gTuple := by
  intro xs M R H vs Q g m r k
  unfold gTuple at g
  split at g
  · obtain ⟨v, ws, rfl, q, t⟩ := r
    cases t
    split at g
    · rename_i ys he
      obtain ⟨p, us, rfl, s, r2⟩ := items_sq m he q
      obtain ⟨M0, hs, g⟩ := g
      rcases s with s | s
      · exact ⟨p, us, rfl, .inl ⟨s, fun l hl => kq_newT k (rm_sub m hs) hl r2 g⟩⟩
      · exact ⟨p, us, rfl, .inr ⟨s, kq_keep k (rm_sub m hs) g ⟨p, us, rfl, s, r2⟩⟩⟩
    · exact g.elim
  · exact g.elim
def intsD : List D → Option (List Int)
  | [] => some []
  | .int i :: r => (intsD r).map (i :: ·)
  | _ => none
theorem intsD_eq : ∀ {xs : List D} {ns : List Int}, intsD xs = some ns → xs = ns.map D.int
  | [], _, e => by cases e; rfl
  | .int i :: r, ns, e => by
    unfold intsD at e
    cases z : intsD r with
    | none => rw [z] at e; cases e
    | some ms =>
      rw [z] at e
      cases e
      rw [intsD_eq z]
      rfl
  | .non :: _, _, e => by cases e
  | .bl _ :: _, _, e => by cases e
  | .str _ :: _, _, e => by cases e
  | .tup _ :: _, _, e => by cases e
  | .rol _ :: _, _, e => by cases e
  | .ref _ :: _, _, e => by cases e
  | .ty _ :: _, _, e => by cases e
theorem intsD_map : ∀ ns : List Int, intsD (ns.map D.int) = some ns
  | [] => rfl
  | n :: r => by
    show (intsD (r.map D.int)).map (n :: ·) = some (n :: r)
    rw [intsD_map r]; rfl
/-- sum of a list of ints (a list that stands by itself) -/
def gSum : DC1 := fun xs M R => match xs with
  | [.ref a] => match M a with
    | some (.lst ys) => match intsD ys with
      | some ns => ∃ M0, Sub M0 M ∧ R (.int ns.sum) M0
      | none => False
    | _ => False
  | _ => False
theorem cd_sum {K : PySem.W.Frag} : CallD K (rSum K) gSum := by
  intro xs M R H vs Q g m r k
  unfold gSum at g
  split at g
  · obtain ⟨v, ws, rfl, q, t⟩ := r
    cases t; cases q
    split at g
    · rename_i ys he
      split at g
      · rename_i ns hn
        obtain ⟨M0, hs, g⟩ := g
        obtain ⟨us, a1, r2⟩ := rm_lst m he
        rw [intsD_eq hn] at r2
        rw [r2.ints] at a1
        exact ⟨_, ns, rfl, .inl (.inl a1), kq_keep k (rm_sub m hs) g rfl⟩
      · exact g.elim
    · exact g.elim
  · exact g.elim

/-! ### methods of lists -/
abbrev DM := D → List D → Mem → DK → Prop
def MtD (K : PySem.W.Frag) (T : String) (r : V → List V → Hp → VK → Prop) (ty : D → Mem → Prop) (g : DM) : Prop :=
  (∀ x M H v, ty x M → RM K H M → RV K H x v → tyV K T v H) ∧
  ∀ x xs M R H v vs Q, g x xs M R → RM K H M → RV K H x v → RVs K H xs vs → KQ K H R Q → r v vs H Q
def dBM (ty : D → Mem → Prop) (g : DM) (to : DE) (t : DA) : DE := fun δ M R => to δ M fun x M1 => ty x M1 ∧ t δ M1 fun xs M2 => g x xs M2 R
def dBM0 (ty : D → Mem → Prop) (g : DM) (to : DE) : DE := fun δ M R => to δ M fun x M1 => ty x M1 ∧ g x [] M1 R
section
variable {o e : Expr} {es : List Expr} {to : DE} {t : DA} {name : Str} {apos cpos : Pos} {T id : String} {r : V → List V → Hp → VK → Prop} {ty : D → Mem → Prop} {g : DM}
theorem pd_bm0 (pa : PlainAttrs T) (slot : Slot T name id) (hty : typeOf (.builtin id) = pure (.type "method_descriptor")) (hm : MtR X id r) (hg : MtD X.K T r ty g) (ho : PD X o to)
    (hbase : attributeBase o name X.env (eval o X.env) = eval o X.env := by rfl) (hline : (apos.endLine == cpos.line) = true := by rfl) : PD X (.Call (.Attribute o name apos) [] [] cpos) (dBM0 ty g to) :=
  ⟨PE_imp (pe_bm0 pa slot hty hm ho.pe hbase hline) fun σ H Q h => by
    obtain ⟨δ, M, R, S, m, h, k⟩ := h
    exact ⟨δ, M, _, S, m, h, fun x M1 v H1 h1 e1 r1 m1 => ⟨hg.1 x M1 H1 v h1.1 m1 r1, hg.2 x [] M1 R H1 v [] Q h1.2 m1 r1 .nil (k.ext e1)⟩⟩⟩
theorem pd_bm (pa : PlainAttrs T) (slot : Slot T name id) (hty : typeOf (.builtin id) = pure (.type "method_descriptor")) (hm : MtR X id r) (hg : MtD X.K T r ty g) (ho : PD X o to) (ha : PDA X (e :: es) t)
    (hbase : attributeBase o name X.env (eval o X.env) = eval o X.env := by rfl)
    (hfew : ((backTo cpos (starEach (e :: es) X.env)).all (fun x => !x.1) && (backToKw cpos (keywordEach [] X.env)).all (fun x => x.1.isSome)
      && decide ((e :: es).length + ([] : List Keyword).length + (if ([] : List Keyword).isEmpty then 0 else 1) < 30)) = true := by rfl)
    (hline : (apos.endLine == cpos.line) = true := by rfl) (hs : starEach (e :: es) X.env = (false, eval e X.env) :: starEach es X.env := by rfl) (hplain : (backTo cpos (starEach es X.env)).any (·.1) = false := by rfl) :
    PD X (.Call (.Attribute o name apos) (e :: es) [] cpos) (dBM ty g to t) :=
  ⟨PE_imp (pe_bm pa slot hty hm ho.pe ha.pa hbase hfew hline hs hplain) fun σ H Q h => by
    obtain ⟨δ, M, R, S, m, h, k⟩ := h
    refine ⟨δ, M, _, S, m, h, fun x M1 v H1 h1 e1 r1 m1 => ⟨hg.1 x M1 H1 v h1.1 m1 r1, ?_⟩⟩
    exact ⟨δ, M1, _, S.ext e1, m1, h1.2, fun xs M2 vs H2 h2 e2 r2 m2 => hg.2 x xs M2 R H2 v vs Q h2 m2 (r1.ext e2) r2 (k.ext (e1.trans e2))⟩⟩
end
def isLst (d : D) (M : Mem) : Prop := match d with
  | .ref a => match M a with
    | some (.lst _) => True
    | _ => False
  | _ => False
theorem isLst_ty {K : PySem.W.Frag} {x : D} {M : Mem} {H : Hp} {v : V} (h : isLst x M) (m : RM K H M) (r : RV K H x v) : tyV K "list" v H := by
  unfold isLst at h
  split at h
  · cases r
    split at h
    · rename_i xs he
      obtain ⟨us, a1, r2⟩ := rm_lst m he
      exact .inl ⟨rfl, us, .inl (.inl a1)⟩
    · exact h.elim
  · exact h.elim
/-- the list at a -/
def onLst (x : D) (M : Mem) (f : Addr → List D → Prop) : Prop := match x with
  | .ref a => match M a with
    | some (.lst xs) => f a xs
    | _ => False
  | _ => False
theorem onLst_imp {K : PySem.W.Frag} {x : D} {M : Mem} {H : Hp} {v : V} {f : Addr → List D → Prop} (h : onLst x M f) (m : RM K H M) (r : RV K H x v) : ∃ a xs vs, v = .ref a ∧ H a = some (.lst vs) ∧ RVs K H xs vs ∧ f a xs := by
  unfold onLst at h
  split at h
  · cases r
    split at h
    · rename_i xs he
      obtain ⟨us, a1, r2⟩ := rm_lst m he
      exact ⟨_, xs, us, rfl, a1, r2, h⟩
    · exact h.elim
  · exact h.elim
def gAppend : DM := fun x vs M R => match vs with
  | [y] => onLst x M fun a xs => xs.length < sizeLine ∧ R .non (updM M a (.lst (xs ++ [y])))
  | _ => False
theorem md_append {K : PySem.W.Frag} : MtD K "list" rAppend isLst gAppend := ⟨fun _ _ _ _ => isLst_ty, fun x xs M R H v vs Q g m r rs k => by
  unfold gAppend at g
  split at g
  · obtain ⟨w, ws, rfl, q, t⟩ := rs
    cases t
    obtain ⟨a, ys, us, rfl, a1, r2, g1, g2⟩ := onLst_imp g m r
    exact ⟨a, us, w, rfl, rfl, a1, by rw [← r2.length]; exact g1, kq_put k m a1 (d := .non) rfl (r2.append (.cons q .nil)) g2⟩
  · exact g.elim⟩
def gPop : DM := fun x vs M R => match vs with
  | [] => onLst x M fun a xs => match xs[xs.length - 1]? with
    | some y => R y (updM M a (.lst xs.dropLast))
    | none => False
  | _ => False
theorem md_pop {K : PySem.W.Frag} : MtD K "list" rPop isLst gPop := ⟨fun _ _ _ _ => isLst_ty, fun x xs M R H v vs Q g m r rs k => by
  unfold gPop at g
  split at g
  · cases rs
    obtain ⟨a, ys, us, rfl, a1, r2, g⟩ := onLst_imp g m r
    split at g
    · rename_i y hy
      obtain ⟨u, h1, h2⟩ := r2.get hy
      rw [r2.length] at h1
      exact ⟨a, us, u, rfl, rfl, a1, h1, kq_put k m a1 h2 r2.dropLast g⟩
    · exact g.elim
  · exact g.elim⟩
def gPopAt : DM := fun x vs M R => match vs with
  | [.int i] => onLst x M fun a xs => -(2 ^ 63) ≤ i ∧ i < 2 ^ 63 ∧ match seqIndex? i xs.length with
    | some k => match xs[k]? with
      | some y => R y (updM M a (.lst (xs.eraseIdx k)))
      | none => False
    | none => False
  | _ => False
theorem md_popAt {K : PySem.W.Frag} : MtD K "list" rPopAt isLst gPopAt := ⟨fun _ _ _ _ => isLst_ty, fun x xs M R H v vs Q g m r rs k => by
  unfold gPopAt at g
  split at g
  · obtain ⟨w, ws, rfl, q, t⟩ := rs
    cases t; cases q
    obtain ⟨a, ys, us, rfl, a1, r2, b1, b2, g⟩ := onLst_imp g m r
    split at g
    · rename_i j hj
      split at g
      · rename_i y hy
        obtain ⟨u, h1, h2⟩ := r2.get hy
        rw [r2.length] at hj
        exact ⟨a, us, _, j, u, rfl, rfl, a1, b1, b2, hj, h1, kq_put k m a1 h2 (r2.eraseIdx j) g⟩
      · exact g.elim
    · exact g.elim
  · exact g.elim⟩
def gReverse : DM := fun x vs M R => match vs with
  | [] => onLst x M fun a xs => R .non (updM M a (.lst xs.reverse))
  | _ => False
theorem md_reverse {K : PySem.W.Frag} : MtD K "list" rReverse isLst gReverse := ⟨fun _ _ _ _ => isLst_ty, fun x xs M R H v vs Q g m r rs k => by
  unfold gReverse at g
  split at g
  · cases rs
    obtain ⟨a, ys, us, rfl, a1, r2, g⟩ := onLst_imp g m r
    exact ⟨a, us, rfl, rfl, a1, kq_put k m a1 (d := .non) rfl r2.reverse g⟩
  · exact g.elim⟩
def gExtend : DM := fun x vs M R => match vs with
  | [y] => onLst x M fun a xs => onLst y M fun b zs => xs.length + zs.length ≤ sizeLine ∧ R .non (updM M a (.lst (xs ++ zs)))
  | _ => False
theorem md_extend {K : PySem.W.Frag} : MtD K "list" rExtend isLst gExtend := ⟨fun _ _ _ _ => isLst_ty, fun x xs M R H v vs Q g m r rs k => by
  unfold gExtend at g
  split at g
  · obtain ⟨w, ws, rfl, q, t⟩ := rs
    cases t
    obtain ⟨a, ys, us, rfl, a1, r2, g⟩ := onLst_imp g m r
    obtain ⟨b, zs, ts, rfl, b1, r3, g1, g2⟩ := onLst_imp g m q
    exact ⟨a, b, us, ts, rfl, rfl, a1, b1, by rw [← r2.length, ← r3.length]; exact g1, kq_put k m a1 (d := .non) rfl (r2.append r3) g2⟩
  · exact g.elim⟩
end
end DD
end
section
namespace DD
open PySem PySem.Spec PyProof.Rows L2
section
variable {X : Cx}
/-! ### truth -/
def truD (M : Mem) : D → Option Bool
  | .non => some false
  | .bl b => some b
  | .int i => some (i != 0)
  | .str z => if z.length ≤ sizeLine then some ((z.length : Int) != 0) else none
  | .tup xs => some (!xs.isEmpty)
  | .rol xs => some (!xs.isEmpty)
  | .ref a => match M a with
    | some (.lst xs) => some (!xs.isEmpty)
    | some (.dK kvs) => some (!kvs.isEmpty)
    | _ => none
  | .ty _ => none
theorem isEmpty_rvs {K : PySem.W.Frag} {H : Hp} {ds : List D} {vs : List V} (r : RVs K H ds vs) : (!ds.isEmpty) = !vs.isEmpty := by
  cases ds with
  | nil => cases r; rfl
  | cons d ds => obtain ⟨v, ws, rfl, _⟩ := r; rfl
theorem tru_rv {K : PySem.W.Frag} {H : Hp} {M : Mem} {d : D} {b : Bool} {v : V} (m : RM K H M) (e : truD M d = some b) (r : RV K H d v) : TruV K v H b := by
  cases d with
  | non => cases r; cases e; rfl
  | bl c => cases r; cases e; rfl
  | int i => cases r; cases e; rfl
  | str z =>
    cases r
    have e : (if z.length ≤ sizeLine then some ((z.length : Int) != 0) else none) = some b := e
    by_cases hz : z.length ≤ sizeLine
    · rw [if_pos hz] at e
      cases e; exact ⟨hz, rfl⟩
    · rw [if_neg hz] at e
      cases e
  | tup xs =>
    obtain ⟨a, vs, rfl, s, q⟩ := r
    cases e
    exact .inr (.inl ⟨vs, s, isEmpty_rvs q⟩)
  | rol xs =>
    obtain ⟨a, vs, rfl, s, q⟩ := r
    cases e
    exact .inl ⟨vs, s.sq, isEmpty_rvs q⟩
  | ref a =>
    cases r
    have e : (match M a with
      | some (.lst xs) => some (!xs.isEmpty)
      | some (.dK kvs) => some (!kvs.isEmpty)
      | _ => none) = some b := e
    split at e
    · rename_i xs he
      cases e
      obtain ⟨us, a1, q⟩ := rm_lst m he
      exact .inl ⟨us, .inl (.inl a1), isEmpty_rvs q⟩
    · rename_i kvs he
      cases e
      obtain ⟨ws, a1, q1, q2⟩ := m _ _ he
      refine .inr (.inr ⟨ws, a1, ?_⟩)
      cases kvs with
      | nil =>
        cases ws with
        | nil => rfl
        | cons w ws => cases q1
      | cons k kvs =>
        cases ws with
        | nil => cases q1
        | cons w ws => rfl
    · cases e
  | ty n => cases e
def dTru (t : DE) : DT := fun δ M R => t δ M fun d M1 => match truD M1 d with
  | some b => R b M1
  | none => False
theorem pdt_tru {a : Expr} {ta : DE} (ha : PD X a ta) (he : ∀ whole, isTrue a X.env whole = (do let v ← whole; standAt a.pos; holding [v] (truthy v)) := by intro _; rfl) : PDT X a (dTru ta) :=
  ⟨PT_imp (pt_truth ha.pe he) fun σ H Q h => by
    obtain ⟨δ, M, R, S, m, h, k⟩ := h
    refine ⟨δ, M, _, S, m, h, fun d M1 v H1 h1 e1 r1 m1 => ?_⟩
    split at h1
    · rename_i b hb
      exact ⟨b, tru_rv m1 hb r1, k b M1 H1 h1 e1 m1⟩
    · exact h1.elim⟩
structure PDW (X : Cx) (e : Expr) (t : DT) : Prop where
  pw : PW X e (liftT X.K t)
theorem PW_imp {e : Expr} {t t' : TT} (h : PW X e t) (f : ∀ σ H Q, t' σ H Q → t σ H Q) : PW X e t' := ⟨fun wh pins s σ H Q I q => h.run wh pins s σ H Q I (f _ _ _ q)⟩
theorem PDW.pt {e : Expr} {t : DT} (h : PDW X e t) : PDT X e t := ⟨h.pw.pt⟩
def dAnd (t u : DT) : DT := fun δ M R => t δ M fun b M1 => if b = true then u δ M1 R else R false M1
def dOr (t u : DT) : DT := fun δ M R => t δ M fun b M1 => if b = true then R true M1 else u δ M1 R
def dNot (t : DT) : DT := fun δ M R => t δ M fun b M1 => R (!b) M1
section
variable {a b : Expr} {rest : List Expr} {pos : Pos} {ta tb : DT}
theorem pdw_and1 (h : PDT X a ta) : PDW X (.BoolOp .And [a] pos) ta := ⟨pw_and1 h.pt⟩
theorem pdw_or1 (h : PDT X a ta) : PDW X (.BoolOp .Or [a] pos) ta := ⟨pw_or1 h.pt⟩
theorem pdw_and (h : PDT X a ta) (h2 : PDW X (.BoolOp .And (b :: rest) pos) tb) : PDW X (.BoolOp .And (a :: b :: rest) pos) (dAnd ta tb) := ⟨PW_imp (pw_and h.pt h2.pw) fun σ H Q q => by
  obtain ⟨δ, M, R, S, m, h, k⟩ := q
  refine ⟨δ, M, _, S, m, h, fun c M1 H1 h1 e1 m1 => ?_⟩
  cases c with
  | true => exact ⟨δ, M1, R, S.ext e1, m1, h1, fun b' M' H' r e' m' => k b' M' H' r (e1.trans e') m'⟩
  | false => exact k false M1 H1 h1 e1 m1⟩
theorem pdw_or (h : PDT X a ta) (h2 : PDW X (.BoolOp .Or (b :: rest) pos) tb) : PDW X (.BoolOp .Or (a :: b :: rest) pos) (dOr ta tb) := ⟨PW_imp (pw_or h.pt h2.pw) fun σ H Q q => by
  obtain ⟨δ, M, R, S, m, h, k⟩ := q
  refine ⟨δ, M, _, S, m, h, fun c M1 H1 h1 e1 m1 => ?_⟩
  cases c with
  | true => exact k true M1 H1 h1 e1 m1
  | false => exact ⟨δ, M1, R, S.ext e1, m1, h1, fun b' M' H' r e' m' => k b' M' H' r (e1.trans e') m'⟩⟩
theorem pdt_not (h : PDT X a ta) : PDT X (.UnaryOp .Not a pos) (dNot ta) := ⟨PT_imp (pt_not h.pt) fun σ H Q q => by
  obtain ⟨δ, M, R, S, m, h, k⟩ := q
  exact ⟨δ, M, _, S, m, h, fun c M1 H1 h1 e1 m1 => k (!c) M1 H1 h1 e1 m1⟩⟩
def dIf (t : DT) (ta tb : DE) : DE := fun δ M R => t δ M fun b M1 => if b = true then ta δ M1 R else tb δ M1 R
theorem pd_ifExp {c : Expr} {tc : DT} {ua ub : DE} (hc : PDT X c tc) (ha : PD X a ua) (hb : PD X b ub) : PD X (.IfExp c a b pos) (dIf tc ua ub) := ⟨PE_imp (pe_ifExp hc.pt ha.pe hb.pe) fun σ H Q q => by
  obtain ⟨δ, M, R, S, m, h, k⟩ := q
  refine ⟨δ, M, _, S, m, h, fun c M1 H1 h1 e1 m1 => ?_⟩
  cases c with
  | true => exact ⟨δ, M1, R, S.ext e1, m1, h1, k.ext e1⟩
  | false => exact ⟨δ, M1, R, S.ext e1, m1, h1, k.ext e1⟩⟩
/-- x and y, x or y, not x as values, by truth -/
def dAndV (ta tb : DE) : DE := fun δ M R => ta δ M fun d M1 => match truD M1 d with
  | some true => tb δ M1 R
  | some false => R d M1
  | none => False
def dOrV (ta tb : DE) : DE := fun δ M R => ta δ M fun d M1 => match truD M1 d with
  | some true => R d M1
  | some false => tb δ M1 R
  | none => False
def dNotV (ta : DE) : DE := fun δ M R => ta δ M fun d M1 => match truD M1 d with
  | some b => R (.bl (!b)) M1
  | none => False
variable {ua ub : DE}
theorem pd_one {op : BoolOp} (h : PD X a ua) : PD X (.BoolOp op [a] pos) ua := ⟨pe_one h.pe⟩
theorem pd_and (ha : PD X a ua) (hb : PD X (.BoolOp .And (b :: rest) pos) ub) : PD X (.BoolOp .And (a :: b :: rest) pos) (dAndV ua ub) := ⟨PE_imp (pe_andT ha.pe hb.pe) fun σ H Q q => by
  obtain ⟨δ, M, R, S, m, h, k⟩ := q
  refine ⟨δ, M, _, S, m, h, fun d M1 v H1 h1 e1 r1 m1 => ?_⟩
  split at h1
  · rename_i hb
    exact ⟨true, tru_rv m1 hb r1, by rw [if_pos rfl]; exact ⟨δ, M1, R, S.ext e1, m1, h1, k.ext e1⟩⟩
  · rename_i hb
    exact ⟨false, tru_rv m1 hb r1, by rw [if_neg Bool.false_ne_true]; exact k d M1 v H1 h1 e1 r1 m1⟩
  · exact h1.elim⟩
theorem pd_or (ha : PD X a ua) (hb : PD X (.BoolOp .Or (b :: rest) pos) ub) : PD X (.BoolOp .Or (a :: b :: rest) pos) (dOrV ua ub) := ⟨PE_imp (pe_orT ha.pe hb.pe) fun σ H Q q => by
  obtain ⟨δ, M, R, S, m, h, k⟩ := q
  refine ⟨δ, M, _, S, m, h, fun d M1 v H1 h1 e1 r1 m1 => ?_⟩
  split at h1
  · rename_i hb
    exact ⟨true, tru_rv m1 hb r1, by rw [if_pos rfl]; exact k d M1 v H1 h1 e1 r1 m1⟩
  · rename_i hb
    exact ⟨false, tru_rv m1 hb r1, by rw [if_neg Bool.false_ne_true]; exact ⟨δ, M1, R, S.ext e1, m1, h1, k.ext e1⟩⟩
  · exact h1.elim⟩
theorem pd_not (ha : PD X a ua) : PD X (.UnaryOp .Not a pos) (dNotV ua) := ⟨PE_imp (pe_notT ha.pe) fun σ H Q q => by
  obtain ⟨δ, M, R, S, m, h, k⟩ := q
  refine ⟨δ, M, _, S, m, h, fun d M1 v H1 h1 e1 r1 m1 => ?_⟩
  split at h1
  · rename_i c hb
    exact ⟨c, tru_rv m1 hb r1, k _ M1 _ H1 h1 e1 rfl m1⟩
  · exact h1.elim⟩
end

/-! ### statements -/
def sNext : DS := fun E δ M => E.nx δ M
def sSeq (t u : DS) : DS := fun E δ M => t { E with nx := u E } δ M
def sDrop (te : DE) : DS := fun E δ M => te δ M fun _ M1 => E.nx δ M1
def sRet (te : DE) : DS := fun E δ M => te δ M E.rt
def sRetN : DS := fun E _ M => E.rt .non M
def sIf (c : DT) (t u : DS) : DS := fun E δ M => c δ M fun b M1 => if b = true then t E δ M1 else u E δ M1
def sBreak : DS := fun E δ M => E.bk δ M
def sCont : DS := fun E δ M => E.ct δ M
section
variable {st : Stmt} {rest : List Stmt} {t u : DS} {e : Expr} {te : DE} {pos : Pos}
theorem pdss_nil : PDSs X [] sNext := ⟨PSs_imp pss_nil fun Dd σ H q => by
  obtain ⟨δ, M, R, S, m, h, k⟩ := q
  exact k.nx δ M σ H h (Ext.refl H) S m⟩
theorem pdss_cons (h1 : PDS X st t) (h2 : PDSs X rest u) : PDSs X (st :: rest) (sSeq t u) := ⟨PSs_imp (pss_cons h1.ps h2.ps) fun Dd σ H q => by
  obtain ⟨δ, M, R, S, m, h, k⟩ := q
  refine ⟨δ, M, { R with nx := u R }, S, m, h, ⟨fun δ' M' σ' H' h' e' S' m' => ?_, k.bk, k.ct, k.rt⟩⟩
  exact ⟨δ', M', R, S', m', h', k.ext e'⟩⟩
theorem pdss_one (h1 : PDS X st t) : PDSs X [st] t := ⟨PSs_imp (pss_cons h1.ps (pdss_nil (X := X)).ps) fun Dd σ H q => by
  obtain ⟨δ, M, R, S, m, h, k⟩ := q
  refine ⟨δ, M, R, S, m, h, ⟨fun δ' M' σ' H' h' e' S' m' => ?_, k.bk, k.ct, k.rt⟩⟩
  exact ⟨δ', M', R, S', m', h', k.ext e'⟩⟩
theorem pds_expr (he : PD X e te) (hs : swapsWith e none pos.line X.env = pure false := by rfl) : PDS X (.Expr e pos) (sDrop te) := ⟨PS_imp (ps_expr he.pe hs) fun Dd σ H q => by
  obtain ⟨δ, M, R, S, m, h, k⟩ := q
  exact ⟨δ, M, _, S, m, h, fun d M1 v H1 h1 e1 r1 m1 => k.nx δ M1 σ H1 h1 e1 (S.ext e1) m1⟩⟩
theorem pds_ret (he : PD X e te) : PDS X (.Return (some e) pos) (sRet te) := ⟨PS_imp (ps_ret he.pe) fun Dd σ H q => by
  obtain ⟨δ, M, R, S, m, h, k⟩ := q
  exact ⟨δ, M, _, S, m, h, k.rt⟩⟩
theorem pds_retN : PDS X (.Return none pos) sRetN := ⟨PS_imp ps_retN fun Dd σ H q => by
  obtain ⟨δ, M, R, S, m, h, k⟩ := q
  exact k.rt .non M .non H h (Ext.refl H) rfl m⟩
theorem pds_pass : PDS X (.Pass pos) sNext := ⟨PS_imp ps_pass fun Dd σ H q => by
  obtain ⟨δ, M, R, S, m, h, k⟩ := q
  exact k.nx δ M σ H h (Ext.refl H) S m⟩
theorem pds_break : PDS X (.Break pos) sBreak := ⟨PS_imp ps_break fun Dd σ H q => by
  obtain ⟨δ, M, R, S, m, h, k⟩ := q
  exact k.bk δ M σ H h (Ext.refl H) S m⟩
theorem pds_cont : PDS X (.Continue pos) sCont := ⟨PS_imp ps_continue fun Dd σ H q => by
  obtain ⟨δ, M, R, S, m, h, k⟩ := q
  exact k.ct δ M σ H h (Ext.refl H) S m⟩
theorem pds_if {c : Expr} {a b : List Stmt} {tc : DT} (hc : PDT X c tc) (ha : PDSs X a t) (hb : PDSs X b u) : PDS X (.If c a b pos) (sIf tc t u) := ⟨PS_imp (ps_if hc.pt ha.ps hb.ps) fun Dd σ H q => by
  obtain ⟨δ, M, R, S, m, h, k⟩ := q
  refine ⟨δ, M, _, S, m, h, fun c M1 H1 h1 e1 m1 => ?_⟩
  cases c with
  | true => exact ⟨δ, M1, R, S.ext e1, m1, h1, k.ext e1⟩
  | false => exact ⟨δ, M1, R, S.ext e1, m1, h1, k.ext e1⟩⟩
end

/-! ### targets -/
abbrev DG := D → DSt → Mem → (DSt → Mem → Prop) → Prop
abbrev DGs := List D → DSt → Mem → (DSt → Mem → Prop) → Prop
/-- the slots but those at is are as they were -/
def Out (is : List Nat) (σ σ' : L2.St) : Prop := σ'.length = σ.length ∧ ∀ j, j ∉ is → σ'[j]? = σ[j]?
theorem Out.refl {is : List Nat} (σ : L2.St) : Out is σ σ := ⟨rfl, fun _ _ => rfl⟩
theorem Out.trans {is js : List Nat} {σ σ1 σ2 : L2.St} (a : Out is σ σ1) (b : Out js σ1 σ2) : Out (is ++ js) σ σ2 :=
  ⟨b.1.trans a.1, fun j hj => (b.2 j fun z => hj (List.mem_append_right _ z)).trans (a.2 j fun z => hj (List.mem_append_left _ z))⟩
theorem Out.wipe {is : List Nat} {σ σ' : L2.St} (h : Out is σ σ') {vs : List Nat} (hs : ∀ j ∈ is, j ∈ vs) : L2.wipe σ' vs = L2.wipe σ vs := by
  have at_ : ∀ (vs : List Nat) (σ : L2.St) (j : Nat), (L2.wipe σ vs)[j]? = if j ∈ vs then (if j < σ.length then some none else none) else σ[j]? := by
    intro vs
    induction vs with
    | nil => intro σ j; simp [L2.wipe]
    | cons v vs ih =>
      intro σ j
      unfold L2.wipe
      by_cases hj : v = j
      · subst hj
        rw [List.getElem?_set_self', ih]
        have : v ∈ v :: vs := List.mem_cons_self
        rw [if_pos this]
        by_cases hv : v ∈ vs
        · rw [if_pos hv]; split <;> simp
        · rw [if_neg hv]
          by_cases hl : v < σ.length
          · rw [if_pos hl, List.getElem?_eq_getElem hl]; simp
          · rw [if_neg hl, List.getElem?_eq_none (by omega)]; simp
      · rw [List.getElem?_set_ne hj, ih]
        by_cases hv : j ∈ vs
        · rw [if_pos hv, if_pos (List.mem_cons_of_mem _ hv)]
        · rw [if_neg hv, if_neg (by simp only [List.mem_cons, not_or]; exact ⟨fun z => hj z.symm, hv⟩)]
  refine List.ext_getElem? fun j => ?_
  rw [at_, at_, h.1]
  by_cases hj : j ∈ vs
  · rw [if_pos hj, if_pos hj]
  · rw [if_neg hj, if_neg hj]
    exact h.2 j fun z => hj (hs j z)
section
variable (K : PySem.W.Frag)
def liftG (is : List Nat) (g : DG) : TG := fun v σ H Q => ∃ d δ M R, RV K H d v ∧ Sl K σ H δ ∧ RM K H M ∧ g d δ M R ∧ ∀ δ' M' σ' H', R δ' M' → Ext K H H' → Sl K σ' H' δ' → RM K H' M' → Out is σ σ' → Q σ' H'
def liftGs (is : List Nat) (g : DGs) : TGs := fun vs σ H Q => ∃ ds δ M R, RVs K H ds vs ∧ Sl K σ H δ ∧ RM K H M ∧ g ds δ M R ∧ ∀ δ' M' σ' H', R δ' M' → Ext K H H' → Sl K σ' H' δ' → RM K H' M' → Out is σ σ' → Q σ' H'
end
structure PDG (X : Cx) (e : Expr) (is : List Nat) (g : DG) : Prop where
  pg : PG X e (liftG X.K is g)
structure PDGs (X : Cx) (es : List Expr) (is : List Nat) (g : DGs) : Prop where
  pg : PGs X es (liftGs X.K is g)
theorem PG_imp {e : Expr} {t t' : TG} (h : PG X e t) (f : ∀ v σ H Q, t' v σ H Q → t v σ H Q) : PG X e t' := ⟨fun pins s σ H v u Q I r q => h.run pins s σ H v u Q I r (f _ _ _ _ q)⟩
theorem PGs_imp {e : List Expr} {t t' : TGs} (h : PGs X e t) (f : ∀ v σ H Q, t' v σ H Q → t v σ H Q) : PGs X e t' := ⟨fun pins s σ H v u Q I r q => h.run pins s σ H v u Q I r (f _ _ _ _ q)⟩
def gNm (i : Nat) : DG := fun d δ M Q => Q (δ.set i (some d)) M
def gsNil : DGs := fun ds δ M Q => match ds with
  | [] => Q δ M
  | _ => False
def gsCons (t : DG) (u : DGs) : DGs := fun ds δ M Q => match ds with
  | d :: r => t d δ M fun δ' M' => u r δ' M' Q
  | _ => False
def gUnp (n : Nat) (t : DGs) : DG := fun d δ M Q => match itemsD M d with
  | some xs => xs.length = n ∧ t xs δ M Q
  | none => False
section
variable {pos : Pos}
theorem out_set {i : Nat} {v : Option V} {σ : L2.St} : Out [i] σ (σ.set i v) := ⟨by simp, fun j hj => by
  rw [List.getElem?_set_ne (by intro z; exact hj (by simp [z]))]⟩
theorem pdg_name {i : Nat} {e : Expr} (h : PG X e (gName i)) : PDG X e [i] (gNm i) := ⟨PG_imp h fun v σ H Q q => by
  obtain ⟨d, δ, M, R, rv, S, m, h, k⟩ := q
  exact k _ M _ H h (Ext.refl H) (S.set rv) m out_set⟩
theorem pdgs_nil : PDGs X [] [] gsNil := ⟨PGs_imp pgs_nil fun v σ H Q q => by
  obtain ⟨ds, δ, M, R, rv, S, m, h, k⟩ := q
  unfold gsNil at h
  split at h
  · cases rv
    exact ⟨rfl, k δ M σ H h (Ext.refl H) S m (Out.refl σ)⟩
  · exact h.elim⟩
theorem pdgs_cons {e : Expr} {es : List Expr} {is js : List Nat} {t : DG} {u : DGs} (h1 : PDG X e is t) (h2 : PDGs X es js u)
    (hs : (assignEach (e :: es) X.env).map (·.2) = assign e X.env :: (assignEach es X.env).map (·.2) := by rfl) : PDGs X (e :: es) (is ++ js) (gsCons t u) := ⟨PGs_imp (pgs_cons h1.pg h2.pg hs) fun v σ H Q q => by
  obtain ⟨ds, δ, M, R, rv, S, m, h, k⟩ := q
  unfold gsCons at h
  split at h
  · rename_i d r
    obtain ⟨v, ws, rfl, q1, q2⟩ := rv
    refine ⟨v, ws, rfl, d, δ, M, _, q1, S, m, h, fun δ' M' σ' H' h' e' S' m' o' => ?_⟩
    exact ⟨r, δ', M', R, q2.ext e', S', m', h', fun δ2 M2 σ2 H2 h2 e2 S2 m2 o2 => k δ2 M2 σ2 H2 h2 (e'.trans e2) S2 m2 (o'.trans o2)⟩
  · exact h.elim⟩
theorem PG_or {e : Expr} {t t' : TG} (h : PG X e t) (h' : PG X e t') : PG X e (fun v σ H Q => t v σ H Q ∨ t' v σ H Q) := ⟨fun pins s σ H v u Q I r q => by
  rcases q with q | q
  · exact h.run pins s σ H v u Q I r q
  · exact h'.run pins s σ H v u Q I r q⟩
theorem pdg_tup {es : List Expr} {k : Nat} {is : List Nat} {t : DGs} {n : Nat} (hc : X.calm = true) (h : PDGs X es is t)
    (hn : (assignEach es X.env).length = n := by rfl) (hst : (assignEach es X.env).findIdx? (·.1) = none := by rfl) : PDG X (.Tuple es k pos) is (gUnp n t) :=
  ⟨PG_imp (PG_or (pg_tup hc h.pg hn hst) (pg_unl hc h.pg hn hst)) fun v σ H Q q => by
    obtain ⟨d, δ, M, R, rv, S, m, h, kk⟩ := q
    unfold gUnp at h
    split at h
    · rename_i xs he
      obtain ⟨p, vs, rfl, s, r2⟩ := items_sq m he rv
      rcases s with s | s
      · exact .inr ⟨p, vs, rfl, s, by rw [← r2.length]; exact h.1, xs, δ, M, R, r2, S, m, h.2, kk⟩
      · exact .inl ⟨p, vs, rfl, s, by rw [← r2.length]; exact h.1, xs, δ, M, R, r2, S, m, h.2, kk⟩
    · exact h.elim⟩
end
/-- o[i] = v -/
abbrev DSet := D → D → D → Mem → (Mem → Prop) → Prop
def SetD (K : PySem.W.Frag) (r : TSet) (g : DSet) : Prop := ∀ x y z M R H v w u (Q : Hp → Prop), g x y z M R → RM K H M → RV K H x v → RV K H y w → RV K H z u → (∀ M' H', R M' → Ext K H H' → RM K H' M' → Q H') → r v w u H Q
def gSetL : DSet := fun x y z M R => match y with
  | .int i => onLst x M fun a xs => match ixN xs.length i with
    | some j => R (updM M a (.lst (xs.set j z)))
    | none => False
  | _ => False
theorem sd_lst {K : PySem.W.Frag} : SetD K rSetL gSetL := by
  intro x y z M R H v w u Q g m rx ry rz k
  unfold gSetL at g
  split at g
  · cases ry
    obtain ⟨a, ys, us, rfl, a1, r2, g⟩ := onLst_imp g m rx
    split at g
    · rename_i j hj
      rw [r2.length] at hj
      exact ⟨a, us, _, j, rfl, rfl, a1, hj, k _ _ g (ext_lst a1) (rm_putL m a1 (r2.set j rz))⟩
    · exact g.elim
  · exact g.elim
def gSubD (to ti : DE) (t : DSet) : DG := fun d δ M Q => to δ M fun o M1 => ti δ M1 fun i M2 => t o i d M2 fun M3 => Q δ M3
section
variable {pos : Pos}
theorem pdg_sub {o i : Expr} {to ti : DE} {r : TSet} {g : DSet} (ho : PD X o to) (hi : PD X i ti) (hs : PSet X r) (hg : SetD X.K r g)
    (ha : ∀ v, assign (.Subscript o i pos) X.env v = (do
      let ov ← holding [v] (eval o X.env)
      let iv ← holding [v, ov] (eval i X.env)
      standAt pos
      holding [v, ov, iv] (setItem ov iv v)
      release [v, ov, iv] []) := by intro _; rfl) : PDG X (.Subscript o i pos) [] (gSubD to ti g) := ⟨PG_imp (pg_sub ho.pe hi.pe hs ha) fun v σ H Q q => by
  obtain ⟨d, δ, M, R, rv, S, m, h, k⟩ := q
  refine ⟨δ, M, _, S, m, h, fun x M1 v1 H1 h1 e1 r1 m1 => ?_⟩
  refine ⟨δ, M1, _, S.ext e1, m1, h1, fun y M2 v2 H2 h2 e2 r2 m2 => ?_⟩
  refine hg x y d M2 _ H2 v1 v2 v _ h2 m2 (r1.ext e2) r2 (rv.ext (e1.trans e2)) fun M3 H3 h3 e3 m3 => ?_
  exact k δ M3 σ H3 h3 ((e1.trans e2).trans e3) (S.ext ((e1.trans e2).trans e3)) m3 (Out.refl σ)⟩
end
/-- target = value -/
def sAsg (te : DE) (g : DG) : DS := fun E δ M => te δ M fun d M1 => g d δ M1 E.nx
theorem asg_imp {K : PySem.W.Frag} {te : DE} {is : List Nat} {g : DG} (Dd : Ends) (σ : L2.St) (H : Hp) (q : liftS K (sAsg te g) Dd σ H) : tAsg (lift K te) (liftG K is g) Dd σ H := by
  obtain ⟨δ, M, R, S, m, h, k⟩ := q
  refine ⟨δ, M, _, S, m, h, fun d M1 v H1 h1 e1 r1 m1 => ?_⟩
  exact ⟨d, δ, M1, _, r1, S.ext e1, m1, h1, fun δ' M' σ' H' h' e' S' m' _ => k.nx δ' M' σ' H' h' (e1.trans e') S' m'⟩
section
variable {pos : Pos} {tg e : Expr} {te : DE} {is : List Nat} {g : DG}
theorem pds_asg (he : PD X e te) (hg : PDG X tg is g) (hs : swapsWithSole [tg] e pos.line X.env = pure false := by rfl) (hw : swappedStores [tg] e X.env = pure none := by rfl)
    (h1 : (assignEach [tg] X.env).map (·.2) = [assign tg X.env] := by rfl) : PDS X (.Assign [tg] e pos) (sAsg te g) := ⟨PS_imp (ps_asg he.pe hg.pg hs hw h1) asg_imp⟩
theorem gName_imp {K : PySem.W.Frag} {i : Nat} {te : DE} (Dd : Ends) (σ : L2.St) (H : Hp) (q : liftS K (sAsg te (gNm i)) Dd σ H) : tAsg (lift K te) (gName i) Dd σ H := by
  obtain ⟨δ, M, R, S, m, h, k⟩ := q
  refine ⟨δ, M, _, S, m, h, fun d M1 v H1 h1 e1 r1 m1 => ?_⟩
  exact k.nx _ M1 _ H1 h1 e1 ((S.ext e1).set r1) m1
theorem pds_set {i : Nat} {x : Str} {pos' : Pos} (hN : X.N.Nodup) (hi : X.N[i]? = some x) (hx : Loc X.env.scope x) (he : PD X e te) (hs : swapsWith e (some (.Name x pos')) pos.line X.env = pure false := by rfl) (hf : X.fn x = true ∨ X.env.scope.names.lookup x = some .local := by first | exact .inl rfl | exact .inr rfl | assumption) :
    PDS X (.Assign [.Name x pos'] e pos) (sAsg te (gNm i)) := ⟨PS_imp (ps_set hN hi hx he.pe hs hf) gName_imp⟩
/-- a, b = x, y -/
def sPar (i j : Nat) (ta : DA) : DS := fun E δ M => ta δ M fun ds M1 => match ds with
  | [v, w] => E.nx ((δ.set i (some v)).set j (some w)) M1
  | _ => False
theorem pds_par {i j : Nat} {x y : Str} {a b : Expr} {ta : DA} {px py pt : Pos} {kt k2 : Nat} {pt2 : Pos} (hc : X.calm = true) (hN : X.N.Nodup) (hi : X.N[i]? = some x) (hj : X.N[j]? = some y) (hij : i ≠ j)
    (hx : X.env.scope.names.lookup x = some .local) (hy : X.env.scope.names.lookup y = some .local) (ha : PDA X [a, b] ta)
    (hw : swappedStores [.Tuple [.Name x px, .Name y py] kt pt] (.Tuple [a, b] k2 pt2) X.env = pure (some [x, y]) := by rfl)
    (hs : swapsWithSole [.Tuple [.Name x px, .Name y py] kt pt] (.Tuple [a, b] k2 pt2) pos.line X.env = pure false := by rfl) :
    PDS X (.Assign [.Tuple [.Name x px, .Name y py] kt pt] (.Tuple [a, b] k2 pt2) pos) (sPar i j ta) := ⟨PS_imp (ps_par hc hN hi hj hij hx hy ha.pa hw hs) fun Dd σ H q => by
  obtain ⟨δ, M, R, S, m, h, k⟩ := q
  refine ⟨δ, M, _, S, m, h, fun ds M1 vs H1 h1 e1 r1 m1 => ?_⟩
  split at h1
  · obtain ⟨v, ws, rfl, q1, v2, w2, rfl, q2, t⟩ := r1
    cases t
    exact ⟨v, v2, rfl, k.nx _ M1 _ H1 h1 e1 (((S.ext e1).set q1).set q2) m1⟩
  · exact h1.elim⟩
/-- x op= e -/
abbrev DIp := D → D → Mem → DK → Prop
def IpD (K : PySem.W.Frag) (r : TIp) (g : DIp) : Prop := ∀ x y M R H v w Q, g x y M R → RM K H M → RV K H x v → RV K H y w → KQ K H R Q → r v w H Q
def sAug (i : Nat) (te : DE) (g : DIp) : DS := fun E δ M => match δ[i]? with
  | some (some x) => te δ M fun y M1 => g x y M1 fun z M2 => E.nx (δ.set i (some z)) M2
  | _ => False
theorem pds_aug {i : Nat} {x : Str} {op : Operator} {ti : TIp} {gi : DIp} {pos' : Pos} (hN : X.N.Nodup) (hi : X.N[i]? = some x) (hx : Loc X.env.scope x) (he : PD X e te) (ho : PIp X op ti) (hg : IpD X.K ti gi) (hf : X.fn x = true ∨ X.env.scope.names.lookup x = some .local := by first | exact .inl rfl | exact .inr rfl | assumption) :
    PDS X (.AugAssign (.Name x pos') op e pos) (sAug i te gi) := ⟨PS_imp (ps_aug hN hi hx he.pe ho hf) fun Dd σ H q => by
  obtain ⟨δ, M, R, S, m, h, k⟩ := q
  unfold sAug at h
  split at h
  · rename_i x hx
    obtain ⟨v, a, b⟩ := S.at_ i x hx
    refine ⟨v, a, δ, M, _, S, m, h, fun y M1 w H1 h1 e1 r1 m1 => ?_⟩
    exact hg x y M1 _ H1 v w _ h1 m1 (b.ext e1) r1 fun z M2 u H2 h2 e2 r2 m2 => k.nx _ M2 _ H2 h2 (e1.trans e2) ((S.ext (e1.trans e2)).set r2) m2
  · exact h.elim⟩
end
theorem pip_op {op : Operator} {r : R2} (h : OpR X (inplaceOp op) r) : PIp X op r := h
theorem ipd_op {K : PySem.W.Frag} {r : R2} {g : D2} (h : OpD K r g) : IpD K r g := h

/-! ### while -/
def sWhile (c : DT) (tb : DS) : DS := fun E δ M => ∃ W : Nat → DSt → Mem → Prop, (∃ n, W n δ M) ∧ ∀ n δ M, W n δ M →
  c δ M fun b M1 => if b = true then tb { E with nx := fun δ' M' => ∃ n', n' < n ∧ W n' δ' M', ct := fun δ' M' => ∃ n', n' < n ∧ W n' δ' M', bk := E.nx } δ M1 else E.nx δ M1
theorem pds_while {c : Expr} {body : List Stmt} {tc : DT} {tb : DS} {pos : Pos} (hp : PassesOwn (model X.prog X.w) X.A X.env X.xe) (hc : PDT X c tc) (hb : PDSs X body tb) : PDS X (.While c body [] pos) (sWhile tc tb) := ⟨PS_imp (ps_while hp hc.pt hb.ps) fun Dd σ H q => by
  obtain ⟨δ0, M0, R, S0, m0, ⟨W, ⟨n0, w0⟩, h⟩, k⟩ := q
  refine ⟨fun n σ' H' => ∃ δ M, Sl X.K σ' H' δ ∧ RM X.K H' M ∧ Ext X.K H H' ∧ W n δ M, ⟨n0, δ0, M0, S0, m0, Ext.refl H, w0⟩, ?_⟩
  rintro n σ' H' ⟨δ, M, S, m, e0, w⟩
  refine ⟨δ, M, _, S, m, h n δ M w, fun b M1 H1 h1 e1 m1 => ?_⟩
  cases b with
  | true =>
    rw [if_pos rfl] at h1 ⊢
    refine ⟨fun σ2 H2 => ∃ n', n' < n ∧ ∃ δ M, Sl X.K σ2 H2 δ ∧ RM X.K H2 M ∧ Ext X.K H H2 ∧ W n' δ M, fun σ2 H2 z => z, ?_⟩
    refine ⟨δ, M1, _, S.ext e1, m1, h1, ⟨?_, ?_, ?_, k.rt.ext (e0.trans e1)⟩⟩
    · rintro δ2 M2 σ2 H2 ⟨n', hn, w2⟩ e2 S2 m2
      exact ⟨n', hn, δ2, M2, S2, m2, (e0.trans e1).trans e2, w2⟩
    · rintro δ2 M2 σ2 H2 z e2 S2 m2
      exact k.nx δ2 M2 σ2 H2 z ((e0.trans e1).trans e2) S2 m2
    · rintro δ2 M2 σ2 H2 ⟨n', hn, w2⟩ e2 S2 m2
      exact ⟨n', hn, δ2, M2, S2, m2, (e0.trans e1).trans e2, w2⟩
  | false =>
    rw [if_neg Bool.false_ne_true] at h1 ⊢
    exact k.nx δ M1 σ' H1 h1 (e0.trans e1) (S.ext e1) m1⟩

/-! ### what a loop walks -/
abbrev DI := DSt → Mem → (List D → (Mem → Prop) → Mem → Prop) → Prop
structure ItOk (K : PySem.W.Frag) (H1 : Hp) (J : It) (ds : List D) (ok : Mem → Prop) : Prop where
  go : ∀ i H M, Ext K H1 H → RM K H M → ok M → i < ds.length → J.go i H
  yld : ∀ i H M v H', Ext K H1 H → RM K H M → ok M → i < ds.length → J.yld i H v H' → ∃ x, ds[i]? = some x ∧ Ext K H H' ∧ RV K H' x v ∧ RM K H' M
  stop : ∀ i H M, Ext K H1 H → RM K H M → ok M → ds.length ≤ i → J.stop i H
def liftI (K : PySem.W.Frag) (di : DI) : TI := fun σ H Q => ∃ δ M R, Sl K σ H δ ∧ RM K H M ∧ di δ M R ∧ ∀ ds ok M1 J H1, R ds ok M1 → Ext K H H1 → RM K H1 M1 → ItOk K H1 J ds ok → Q J H1
structure PDI (X : Cx) (tg iter : Expr) (di : DI) : Prop where
  pi : PI X tg iter (liftI X.K di)
theorem PI_imp {tg iter : Expr} {t t' : TI} (h : PI X tg iter t) (f : ∀ σ H Q, t' σ H Q → t σ H Q) : PI X tg iter t' := ⟨fun pins s σ H R I q => h.run pins s σ H R I (f _ _ _ q)⟩
theorem PI_or {tg iter : Expr} {t t' : TI} (h : PI X tg iter t) (h' : PI X tg iter t') : PI X tg iter (fun σ H Q => t σ H Q ∨ t' σ H Q) := ⟨fun pins s σ H R I q => by
  rcases q with q | q
  · exact h.run pins s σ H R I q
  · exact h'.run pins s σ H R I q⟩
def sFor (di : DI) (g : DG) (tb : DS) : DS := fun E δ M => di δ M fun ds ok M1 => ∃ W : Nat → DSt → Mem → Prop, W 0 δ M1 ∧ (∀ i δ M, i ≤ ds.length → W i δ M → ok M) ∧
  (∀ i x δ M, ds[i]? = some x → W i δ M → g x δ M fun δ2 M2 => tb { E with nx := W (i + 1), ct := W (i + 1), bk := E.nx } δ2 M2) ∧ ∀ δ M, W ds.length δ M → E.nx δ M
theorem pds_for {tg iter : Expr} {body : List Stmt} {di : DI} {is : List Nat} {g : DG} {tb : DS} {pos : Pos} (hp : PassesOwn (model X.prog X.w) X.A X.env X.xe) (hc : X.calm = true) (hi : PDI X tg iter di) (hg : PDG X tg is g) (hb : PDSs X body tb)
    (hs : ∀ x, foldedSetIterable iter X.env x = pure x := by intro _; rfl) : PDS X (.For tg iter body [] pos) (sFor di g tb) := ⟨PS_imp (ps_for hp hc hi.pi hg.pg hb.ps hs) fun Dd σ H q => by
  obtain ⟨δ0, M0, R, S0, m0, h, k⟩ := q
  refine ⟨δ0, M0, _, S0, m0, h, fun ds ok M1 J H1 h1 e1 m1 it => ?_⟩
  obtain ⟨W, w0, hok, turn, done⟩ := h1
  refine ⟨fun i n σ' H' => n + i = ds.length ∧ ∃ δ M, Sl X.K σ' H' δ ∧ RM X.K H' M ∧ Ext X.K H1 H' ∧ W i δ M, ⟨ds.length, by omega, δ0, M1, S0.ext e1, m1, Ext.refl H1, w0⟩, ?_⟩
  rintro i n σ' H' ⟨hn, δ, M, S, m, e2, w⟩
  by_cases hi : i < ds.length
  · refine .inr ⟨it.go i H' M e2 m (hok i δ M (by omega) w) hi, fun σ2 H2 => ∃ δ M, Sl X.K σ2 H2 δ ∧ RM X.K H2 M ∧ Ext X.K H1 H2 ∧ W (i + 1) δ M, ?_, ?_⟩
    · rintro σ2 H2 ⟨δ2, M2, z⟩
      exact ⟨n - 1, by omega, by omega, δ2, M2, z⟩
    · intro v H2 y
      obtain ⟨x, hx, e3, rv, m3⟩ := it.yld i H' M v H2 e2 m (hok i δ M (by omega) w) hi y
      refine ⟨x, δ, M, _, rv, S.ext e3, m3, turn i x δ M hx w, fun δ4 M4 σ4 H4 h4 e4 S4 m4 _ => ?_⟩
      refine ⟨δ4, M4, _, S4, m4, h4, ⟨?_, ?_, ?_, k.rt.ext (((e1.trans e2).trans e3).trans e4)⟩⟩
      · intro δ5 M5 σ5 H5 z e5 S5 m5
        exact ⟨δ5, M5, S5, m5, ((e2.trans e3).trans e4).trans e5, z⟩
      · intro δ5 M5 σ5 H5 z e5 S5 m5
        exact k.nx δ5 M5 σ5 H5 z ((((e1.trans e2).trans e3).trans e4).trans e5) S5 m5
      · intro δ5 M5 σ5 H5 z e5 S5 m5
        exact ⟨δ5, M5, S5, m5, ((e2.trans e3).trans e4).trans e5, z⟩
  · have hi' : i = ds.length := by omega
    refine .inl ⟨it.stop i H' M e2 m (hok i δ M (by omega) w) (by omega), ?_⟩
    subst hi'
    exact k.nx δ M σ' H' (done δ M w) (e1.trans e2) S m⟩
end
end DD
end
section
namespace DD
open PySem PySem.Spec PyProof.Rows L2
theorem sqL_inj {K : PySem.W.Frag} {H : Hp} {a : Addr} {vs ws : List V} (h : H a = some (.lst vs)) (h2 : SqL K H a ws) : True := trivial
section
variable {X : Cx} {tg : Expr}
/-! ### for x in a list or a tuple -/
/-- the items; what must stand still -/
def srcD (M : Mem) : D → Option (List D × (Mem → Prop))
  | .tup xs => some (xs, fun _ => True)
  | .rol xs => some (xs, fun _ => True)
  | .ref a => match M a with
    | some (.lst xs) => some (xs, fun M' => M' a = some (.lst xs))
    | _ => none
  | _ => none
def iSeq (te : DE) : DI := fun δ M R => te δ M fun d M1 => match srcD M1 d with
  | some (xs, ok) => R xs ok M1
  | none => False
theorem itl_ok {K : PySem.W.Frag} {H1 : Hp} {a : Addr} {ds : List D} {ok : Mem → Prop} (h : ∀ H M, Ext K H1 H → RM K H M → ok M → ∃ vs, SqL K H a vs ∧ RVs K H ds vs) : ItOk K H1 (Itl K a) ds ok where
  go := fun i H M e m o hi => by
    obtain ⟨vs, s, r⟩ := h H M e m o
    obtain ⟨v, hv, _⟩ := r.get (List.getElem?_eq_getElem hi)
    exact ⟨vs, v, s, hv⟩
  yld := fun i H M v H' e m o hi y => by
    obtain ⟨vs, s, r⟩ := h H M e m o
    obtain ⟨rfl, y⟩ := y
    obtain ⟨u, hu, ru⟩ := r.get (List.getElem?_eq_getElem hi)
    have := (y vs s).symm.trans hu
    cases this
    exact ⟨_, List.getElem?_eq_getElem hi, Ext.refl _, ru, m⟩
  stop := fun i H M e m o hi => by
    obtain ⟨vs, s, r⟩ := h H M e m o
    exact ⟨vs, s, by rw [← r.length]; exact hi⟩
theorem itt_ok {K : PySem.W.Frag} {H1 : Hp} {a : Addr} {ds : List D} {vs : List V} {ok : Mem → Prop} (s : SqT K H1 a vs) (r : RVs K H1 ds vs) : ItOk K H1 (Itt K a) ds ok where
  go := fun i H M e m o hi => by
    obtain ⟨v, hv, _⟩ := r.get (List.getElem?_eq_getElem hi)
    exact ⟨vs, v, e.sqT s, hv⟩
  yld := fun i H M v H' e m o hi y => by
    obtain ⟨rfl, y⟩ := y
    obtain ⟨u, hu, ru⟩ := (r.ext e).get (List.getElem?_eq_getElem hi)
    have := (y vs (e.sqT s)).symm.trans hu
    cases this
    exact ⟨_, List.getElem?_eq_getElem hi, Ext.refl _, ru, m⟩
  stop := fun i H M e m o hi => ⟨vs, e.sqT s, by rw [← r.length]; exact hi⟩
theorem src_imp {K : PySem.W.Frag} {H : Hp} {M : Mem} {d : D} {xs : List D} {ok : Mem → Prop} {v : V} (m : RM K H M) (e : srcD M d = some (xs, ok)) (h : RV K H d v) :
    (∃ a vs, v = .ref a ∧ SqL K H a vs ∧ RVs K H xs vs ∧ ItOk K H (Itl K a) xs ok) ∨ (∃ a vs, v = .ref a ∧ SqT K H a vs ∧ RVs K H xs vs) := by
  unfold srcD at e
  split at e
  · cases e
    obtain ⟨a, vs, rfl, s, r⟩ := h
    exact .inr ⟨a, vs, rfl, s, r⟩
  · cases e
    obtain ⟨a, vs, rfl, s, r⟩ := h
    exact .inl ⟨a, vs, rfl, s.sq, r, itl_ok fun H' M' e' m' _ => ⟨vs, (e'.rol s).sq, r.ext e'⟩⟩
  · cases h
    split at e
    · rename_i ys he
      cases e
      obtain ⟨vs, a1, q1⟩ := rm_lst m he
      refine .inl ⟨_, vs, rfl, .inl (.inl a1), q1, itl_ok fun H' M' e' m' o => ?_⟩
      obtain ⟨ws, a2, q2⟩ := rm_lst m' o
      exact ⟨ws, .inl (.inl a2), q2⟩
    · cases e
  · cases e
/-- what is walked of a value that has come -/
def ItR (X : Cx) (tg : Expr) (r : V → Hp → (It → Hp → Prop) → Prop) : Prop :=
  ∀ (pins : List (Addr × Obj)) (s : Shared) (σ : L2.St) (H : Hp) (x : V) (v : Value) (R : It → Hp → Prop),
    Inv X pins σ H s → RelV x v → r x H R → wpAny (model X.prog X.w) X.A (pyIter v) (PIE X pins σ tg R) X.xe s
def rSeqI (K : PySem.W.Frag) : V → Hp → (It → Hp → Prop) → Prop := fun x H R =>
  (∃ a xs, x = .ref a ∧ SqL K H a xs ∧ R (Itl K a) H) ∨ (∃ a xs, x = .ref a ∧ SqT K H a xs ∧ R (Itt K a) H)
theorem itr_seq : ItR X tg (rSeqI X.K) := by
  intro pins s σ H x v R I rx h
  have fresh_ok : ∀ b ∈ [s.heap.objs.size], FpOk X pins H b := by
    intro b hb
    have hb : b = s.heap.objs.size := List.mem_singleton.mp hb
    rw [hb]
    exact I.fpOk (Nat.le_refl _) (I.hok.fresh (Nat.le_refl _))
  rcases h with ⟨a, xs, rfl, hq, q⟩ | ⟨a, xs, rfl, hq, q⟩
  · cases rx
    obtain ⟨its, _, p, _⟩ := I.list hq
    refine wpAny_pyIter_list p.isList ⟨s.heap.objs.size, [s.heap.objs.size], _, _, H, rfl, ?_, turn_list a _, ?_, fresh_ok, q⟩
    · exact I.kept (t' := s.toks) (fun b o e => Heap.get?_push_of_some _ e)
    · exact ⟨_, Heap.get?_push_size _ rfl, rfl, rfl⟩
  · cases rx
    obtain ⟨its, _, p, _⟩ := I.tuple hq
    have p' : s.heap.IsTuple a its.toArray := p
    refine wpAny_pyIter_tuple p' ⟨s.heap.objs.size, [s.heap.objs.size], _, _, H, rfl, ?_, turn_tuple a _, ?_, fresh_ok, q⟩
    · exact I.kept (t' := s.toks) (fun b o e => Heap.get?_push_of_some _ e)
    · exact ⟨_, Heap.get?_push_size _ rfl, rfl, rfl⟩
theorem pi_of {l : Expr} {tl : TE} {r : V → Hp → (It → Hp → Prop) → Prop} (hr : ItR X tg r) (hl : PE X l tl) : PI X tg l (fun σ H R => tl σ H fun x H1 => r x H1 R) :=
  ⟨fun pins s σ H R I h => thn (hl.run pins s σ H _ I h) fun v s1 ⟨x, H1, I1, r1, q1⟩ => hr pins s1 σ H1 x v R I1 r1 q1⟩
theorem pdi_seq {l : Expr} {tl : DE} (hl : PD X l tl) : PDI X tg l (iSeq tl) := ⟨PI_imp (pi_of itr_seq hl.pe) fun σ H Q q => by
  obtain ⟨δ, M, R, S, m, h, k⟩ := q
  refine ⟨δ, M, _, S, m, h, fun d M1 v H1 h1 e1 r1 m1 => ?_⟩
  split at h1
  · rename_i xs ok he
    rcases src_imp m1 he r1 with ⟨a, vs, rfl, s, rv, it⟩ | ⟨a, vs, rfl, s, rv⟩
    · exact .inl ⟨a, vs, rfl, s, k _ _ M1 _ H1 h1 e1 m1 it⟩
    · exact .inr ⟨a, vs, rfl, s, k _ _ M1 _ H1 h1 e1 m1 (itt_ok s rv)⟩
  · exact h1.elim⟩

/-! ### range -/
def rangeD (lo : Int) (n : Nat) : List D := (List.range n).map fun (i : Nat) => D.int (lo + (i : Int))
theorem rangeD_length (lo : Int) (n : Nat) : (rangeD lo n).length = n := by simp [rangeD]
theorem rangeD_get {lo : Int} {n i : Nat} (h : i < n) : (rangeD lo n)[i]? = some (.int (lo + (i : Int))) := by
  simp [rangeD, List.getElem?_map, List.getElem?_range h]
theorem itr_ok {K : PySem.W.Frag} {H1 : Hp} (lo : Int) (n : Nat) : ItOk K H1 (Itr lo n) (rangeD lo n) (fun _ => True) where
  go := fun i H M e m o hi => by rw [rangeD_length] at hi; exact hi
  yld := fun i H M v H' e m o hi y => by
    rw [rangeD_length] at hi
    obtain ⟨rfl, rfl⟩ := y
    exact ⟨_, rangeD_get hi, Ext.refl _, rfl, m⟩
  stop := fun i H M e m o hi => by rw [rangeD_length] at hi; exact hi
def iRange1 (t : DA) : DI := fun δ M R => t δ M fun ds M1 => match ds with
  | [.int j] => (-(2 ^ 62) ≤ j ∧ j < 2 ^ 62) ∧ R (rangeD 0 j.toNat) (fun _ => True) M1
  | _ => False
def iRange2 (t : DA) : DI := fun δ M R => t δ M fun ds M1 => match ds with
  | [.int i, .int j] => (-(2 ^ 62) ≤ i ∧ i < 2 ^ 62 ∧ -(2 ^ 62) ≤ j ∧ j < 2 ^ 62) ∧ R (rangeD i (j - i).toNat) (fun _ => True) M1
  | _ => False
theorem pdi_range1 {a : Expr} {ta : DA} {p pos : Pos} (hg : Gl X "range") (hm : X.mg "range" = none) (ha : PDA X [a] ta) (hs : starEach [a] X.env = [(false, eval a X.env)] := by rfl) : PDI X tg (.Call (.Name "range" p) [a] [] pos) (iRange1 ta) :=
  ⟨PI_imp (pi_range1 hg hm ha.pa hs) fun σ H Q q => by
    obtain ⟨δ, M, R, S, m, h, k⟩ := q
    refine ⟨δ, M, _, S, m, h, fun ds M1 vs H1 h1 e1 r1 m1 => ?_⟩
    split at h1
    · obtain ⟨v, ws, rfl, q1, t⟩ := r1
      cases t; cases q1
      exact ⟨_, rfl, h1.1.1, h1.1.2, k _ _ M1 _ H1 h1.2 e1 m1 (itr_ok _ _)⟩
    · exact h1.elim⟩
theorem pdi_range2 {a b : Expr} {ta : DA} {p pos : Pos} (hg : Gl X "range") (hm : X.mg "range" = none) (ha : PDA X [a, b] ta) (hs : starEach [a, b] X.env = [(false, eval a X.env), (false, eval b X.env)] := by rfl) (hs2 : starEach [b] X.env = [(false, eval b X.env)] := by rfl) :
    PDI X tg (.Call (.Name "range" p) [a, b] [] pos) (iRange2 ta) :=
  ⟨PI_imp (pi_range2 hg hm ha.pa hs hs2) fun σ H Q q => by
    obtain ⟨δ, M, R, S, m, h, k⟩ := q
    refine ⟨δ, M, _, S, m, h, fun ds M1 vs H1 h1 e1 r1 m1 => ?_⟩
    split at h1
    · obtain ⟨v, ws, rfl, q1, v2, w2, rfl, q2, t⟩ := r1
      cases t; cases q1; cases q2
      exact ⟨_, _, rfl, h1.1, k _ _ M1 _ H1 h1.2 e1 m1 (itr_ok _ _)⟩
    · exact h1.elim⟩

/-! ### list comprehensions -/
def tYesD : DT := fun _ M R => R true M
structure PDTs (X : Cx) (ifs : List Expr) (t : DT) : Prop where
  pt : PTs X ifs (liftT X.K t)
theorem PTs_imp {ifs : List Expr} {t t' : TT} (h : PTs X ifs t) (f : ∀ σ H Q, t' σ H Q → t σ H Q) : PTs X ifs t' := ⟨fun pins s σ H Q I q => h.run pins s σ H Q I (f _ _ _ q)⟩
theorem pdts_nil : PDTs X [] tYesD := ⟨PTs_imp pts_nil fun σ H Q q => by
  obtain ⟨δ, M, R, S, m, h, k⟩ := q
  exact k true M H h (Ext.refl H) m⟩
theorem pdts_one {c : Expr} {t : DT} (h : PDT X c t) : PDTs X [c] t := ⟨pts_one h.pt⟩
/-- p: where the new list stands; W by the turn, the items so far, the memory without it -/
def dLc (di : DI) (g : DG) (tt : DT) (te : DE) (vs : List Nat) : DE := fun δ M R => di δ M fun ds ok M1 => ∀ p, M1 p = none → ∃ W : Nat → List D → Mem → Prop, W 0 [] M1 ∧
  (∀ i acc M, W i acc M → ok (updM M p (.lst acc))) ∧
  (∀ i x acc M, ds[i]? = some x → W i acc M → acc.length < sizeLine ∧ g x (wipeD δ vs) (updM M p (.lst acc)) fun δ2 M2 => tt δ2 M2 fun b M3 =>
    if b = true then te δ2 M3 fun y M4 => ∃ M5, M4 = updM M5 p (.lst acc) ∧ W (i + 1) (acc ++ [y]) M5 else ∃ M5, M3 = updM M5 p (.lst acc) ∧ W (i + 1) acc M5) ∧
  ∀ acc M, W ds.length acc M → R (.ref p) (updM M p (.lst acc))
theorem lc_imp {K : PySem.W.Frag} {di : DI} {is : List Nat} {g : DG} {tt : DT} {te : DE} {vs : List Nat} (hv : ∀ j ∈ is, j ∈ vs) (σ : L2.St) (H : Hp) (Q : VK) (q : lift K (dLc di g tt te vs) σ H Q) :
    tLc (liftI K di) (liftG K is g) (liftT K tt) (lift K te) vs σ H Q := by
  obtain ⟨δ, M, R, S, m, h, k⟩ := q
  refine ⟨δ, M, _, S, m, h, fun ds ok M1 J H1 h1 e1 m1 it => ?_⟩
  intro p hp
  obtain ⟨W, w0, hok, turn, done⟩ := h1 p (rm_none m1 hp)
  refine ⟨fun i n H' => n + i = ds.length ∧ ∃ acc M, RM K H' (updM M p (.lst acc)) ∧ Ext K H1 H' ∧ W i acc M, ⟨ds.length, by omega, [], M1, rm_newL m1 hp .nil, Ext.new hp, w0⟩, ?_⟩
  rintro i n H' ⟨hn, acc, M2, m2, e2, w⟩
  by_cases hi : i < ds.length
  · refine .inr ⟨it.go i H' _ e2 m2 (hok i acc M2 w) hi, fun H2 => ∃ acc M, RM K H2 (updM M p (.lst acc)) ∧ Ext K H1 H2 ∧ W (i + 1) acc M, ?_, ?_⟩
    · rintro H2 ⟨acc2, M3, z⟩
      exact ⟨n - 1, by omega, by omega, acc2, M3, z⟩
    · intro v H2 y
      obtain ⟨x, hx, e3, rv, m3⟩ := it.yld i H' _ v H2 e2 m2 (hok i acc M2 w) hi y
      obtain ⟨hz, t⟩ := turn i x acc M2 hx w
      have S2 : Sl K (L2.wipe σ vs) H2 (wipeD δ vs) := ((S.ext e1).ext (e2.trans e3)).wipe vs
      refine ⟨x, _, _, _, rv, S2, m3, t, fun δ4 M4 σ4 H4 h4 e4 S4 m4 o4 => ?_⟩
      have ww : L2.wipe (L2.wipe σ vs) vs = L2.wipe σ vs := by
        refine List.ext_getElem? fun j => ?_
        have at2 : ∀ (vs : List Nat) (σ : L2.St) (j : Nat), (L2.wipe σ vs)[j]? = if j ∈ vs then (if j < σ.length then some none else none) else σ[j]? := by
          intro vs
          induction vs with
          | nil => intro σ j; simp [L2.wipe]
          | cons v vs ih =>
            intro σ j
            unfold L2.wipe
            by_cases hj : v = j
            · subst hj
              rw [List.getElem?_set_self', ih, if_pos (List.mem_cons_self)]
              by_cases hv : v ∈ vs
              · rw [if_pos hv]; split <;> simp
              · rw [if_neg hv]
                by_cases hl : v < σ.length
                · rw [if_pos hl, List.getElem?_eq_getElem hl]; simp
                · rw [if_neg hl, List.getElem?_eq_none (by omega)]; simp
            · rw [List.getElem?_set_ne hj, ih]
              by_cases hv : j ∈ vs
              · rw [if_pos hv, if_pos (List.mem_cons_of_mem _ hv)]
              · rw [if_neg hv, if_neg (by simp only [List.mem_cons, not_or]; exact ⟨fun z => hj z.symm, hv⟩)]
        rw [at2, at2]
        by_cases hj : j ∈ vs
        · rw [if_pos hj, if_pos hj]; simp [wipe_length]
        · rw [if_neg hj]
      refine ⟨(o4.wipe hv).trans ww, δ4, M4, _, S4, m4, h4, fun b M5 H5 h5 e5 m5 => ?_⟩
      cases b with
      | true =>
        rw [if_pos rfl] at h5 ⊢
        refine ⟨δ4, M5, _, S4.ext e5, m5, h5, fun y M6 w6 H6 h6 e6 r6 m6 => ?_⟩
        obtain ⟨M7, rfl, w7⟩ := h6
        obtain ⟨us, a1, q1⟩ := rm_lst m6 updM_same
        refine ⟨us, a1, by rw [← q1.length]; exact hz, acc ++ [y], M7, ?_, ((((e2.trans e3).trans e4).trans e5).trans e6).trans (ext_lst a1), w7⟩
        have z := rm_putL m6 a1 (q1.append (.cons r6 .nil))
        rw [updM_upd] at z
        exact z
      | false =>
        rw [if_neg Bool.false_ne_true] at h5 ⊢
        obtain ⟨M7, rfl, w7⟩ := h5
        exact ⟨acc, M7, m5, ((e2.trans e3).trans e4).trans e5, w7⟩
  · have hi' : i = ds.length := by omega
    refine .inl ⟨it.stop i H' _ e2 m2 (hok i acc M2 w) (by omega), ?_⟩
    subst hi'
    exact k _ _ _ H' (done acc M2 w) (e1.trans e2) rfl m2
section
variable {elt iter : Expr} {ifs : List Expr} {scope : Scope} {own : List (Str × Nat)} {pos : Pos} {di : DI} {is : List Nat} {g : DG} {tt : DT} {te : DE}
theorem pd_lc (hc : X.calm = true) (hN : X.N.Nodup) (hi : PDI X tg iter di) (ok : BlkOk X.N X.env.scope scope own)
    (hg : ∀ (s : Shared) (H : Hp) (C : Addr) (cl : List (Str × Addr)) (fp : List Addr), PDG (X.blk s H scope (compEnvC scope cl C X.env) fp) tg is g)
    (ht : ∀ (s : Shared) (H : Hp) (C : Addr) (cl : List (Str × Addr)) (fp : List Addr), PDTs (X.blk s H scope (compEnvC scope cl C X.env) fp) ifs tt)
    (he : ∀ (s : Shared) (H : Hp) (C : Addr) (cl : List (Str × Addr)) (fp : List Addr), PD (X.blk s H scope (compEnvC scope cl C X.env) fp) elt te)
    (hv : ∀ j ∈ is, j ∈ own.map (·.2)) (hs : ∀ x, foldedSetIterable iter X.env x = pure x := by intro _; rfl) :
    PD X (.ListComp elt [⟨tg, iter, ifs, 0⟩] scope pos) (dLc di g tt te (own.map (·.2))) :=
  ⟨PE_imp (pe_lc hc hN hi.pi ok (fun s H C cl fp => (hg s H C cl fp).pg) (fun s H C cl fp => (ht s H C cl fp).pt) (fun s H C cl fp => (he s H C cl fp).pe) hs) (lc_imp hv)⟩
/-- name = [..] -/
theorem pds_setLc {i : Nat} {y : Str} {py spos : Pos} (hc : X.calm = true) (hN : X.N.Nodup) (hy : X.N[i]? = some y) (hyl : X.env.scope.names.lookup y = some .local)
    (hsw : swapsWith (.ListComp elt [⟨tg, iter, ifs, 0⟩] scope pos) (some (.Name y py)) spos.line X.env = pure true) (hi : PDI X tg iter di) (ok : BlkOk X.N X.env.scope scope own)
    (hg : ∀ (s : Shared) (H : Hp) (C : Addr) (cl : List (Str × Addr)) (fp : List Addr), PDG (X.blk s H scope (compEnvC scope cl C X.env) fp) tg is g)
    (ht : ∀ (s : Shared) (H : Hp) (C : Addr) (cl : List (Str × Addr)) (fp : List Addr), PDTs (X.blk s H scope (compEnvC scope cl C X.env) fp) ifs tt)
    (he : ∀ (s : Shared) (H : Hp) (C : Addr) (cl : List (Str × Addr)) (fp : List Addr), PD (X.blk s H scope (compEnvC scope cl C X.env) fp) elt te)
    (hv : ∀ j ∈ is, j ∈ own.map (·.2)) (hs : ∀ x, foldedSetIterable iter X.env x = pure x := by intro _; rfl) :
    PDS X (.Assign [.Name y py] (.ListComp elt [⟨tg, iter, ifs, 0⟩] scope pos) spos) (sAsg (dLc di g tt te (own.map (·.2))) (gNm i)) :=
  ⟨PS_imp (ps_setLc hc hN hy hyl hsw hi.pi ok (fun s H C cl fp => (hg s H C cl fp).pg) (fun s H C cl fp => (ht s H C cl fp).pt) (fun s H C cl fp => (he s H C cl fp).pe) hs) fun Dd σ H q => by
    have z := gName_imp Dd σ H q
    exact lc_imp hv σ H _ (by
      obtain ⟨δ, M, R, S, m, h, k⟩ := q
      exact ⟨δ, M, _, S, m, h, fun d M1 v H1 h1 e1 r1 m1 => k.nx _ M1 _ H1 h1 e1 ((S.ext e1).set r1) m1⟩)⟩
end

/-! ### defs of the text -/
abbrev DSp := List D → Mem → DK → Prop
def liftSp (K : PySem.W.Frag) (sp : DSp) : Sp := fun vs H Q _ => ∃ ds M R, RVs K H ds vs ∧ RM K H M ∧ sp ds M R ∧ KQ K H R Q
/-- the world of a claim -/
structure Wd where
  P : Program
  w : World
  K : PySem.W.Frag
  mg : Str → Option Value
  base : Heap
/-- a def (or a method) keeps its promise, by at most k levels -/
structure DFn (W : Wd) (k : Nat) (f : Addr) (fd : FuncData) (ps : List Str) (sp : DSp) : Prop where
  ok : FnOk W.P W.w W.K W.mg W.base CX0 k f fd ps (liftSp W.K sp)
  len : ∀ ds M R, sp ds M R → ds.length = ps.length
  bd : Binds W.K fd ps []
  kp : PySem.W.keepIn W.K (.ref f) = true
theorem DFn.mono {W : Wd} {j k : Nat} {f : Addr} {fd : FuncData} {ps : List Str} {sp : DSp} (F : DFn W j f fd ps sp) (h : j ≤ k) : DFn W k f fd ps sp := ⟨F.ok.mono h, F.len, F.bd, F.kp⟩
/-- a def of the module by its name -/
structure GFn (W : Wd) (k : Nat) (x : Str) (ps : List Str) (sp : DSp) : Prop where
  ex : ∃ f fd, W.mg x = some (.ref f) ∧ DFn W k f fd ps sp
theorem GFn.mono {W : Wd} {j k : Nat} {x : Str} {ps : List Str} {sp : DSp} (F : GFn W j x ps sp) (h : j ≤ k) : GFn W k x ps sp := by
  obtain ⟨f, fd, a, b⟩ := F.ex
  exact ⟨f, fd, a, b.mono h⟩
/-- the context stands in the world W, with room for k levels -/
structure In (X : Cx) (W : Wd) (k : Nat) : Prop where
  P : X.prog = W.P
  w : X.w = W.w
  K : X.K = W.K
  mg : X.mg = W.mg
  base : X.base = W.base
  room : Room k X.A
def dCall (sp : DSp) (t : DA) : DE := fun δ M R => t δ M fun ds M1 => sp ds M1 R
section
variable {W : Wd} {k : Nat} {x : Str} {ps : List Str} {sp : DSp} {p pos : Pos} {e : Expr} {es : List Expr} {t : DA}
theorem pd_call (F : GFn W k x ps sp) (hi : In X W k) (hg : Gl X x) (ha : PDA X (e :: es) t) (hdb : (x == ("__debug__" : Str)) = false := by decide)
    (he : starEach (e :: es) X.env = (false, eval e X.env) :: starEach es X.env := by rfl) (hpl : (backTo pos (starEach es X.env)).any (·.1) = false := by rfl) : PD X (.Call (.Name x p) (e :: es) [] pos) (dCall sp t) := by
  obtain ⟨f, fd, hm, G⟩ := F.ex
  obtain ⟨ok, len, bd, kp⟩ := G
  rw [← hi.P, ← hi.w, ← hi.K, ← hi.mg, ← hi.base] at ok
  rw [← hi.K] at bd kp
  rw [← hi.mg] at hm
  refine ⟨PE_imp (pe_call ok hi.room hg hm kp bd .nil pass0 ha.pa hdb he hpl) fun σ H Q q => ?_⟩
  obtain ⟨δ, M, R, S, m, h, kk⟩ := q
  refine ⟨δ, M, _, S, m, h, fun ds M1 vs H1 h1 e1 r1 m1 => ?_⟩
  show liftSp X.K sp (vs ++ []) H1 Q E0
  rw [List.append_nil]
  exact ⟨ds, M1, R, r1, m1, h1, kk.ext e1⟩
theorem pd_call0 (F : GFn W k x ps sp) (hi : In X W k) (hg : Gl X x) (hdb : (x == ("__debug__" : Str)) = false := by decide) : PD X (.Call (.Name x p) [] [] pos) (dCall sp aNil) := by
  obtain ⟨f, fd, hm, G⟩ := F.ex
  obtain ⟨ok, len, bd, kp⟩ := G
  rw [← hi.P, ← hi.w, ← hi.K, ← hi.mg, ← hi.base] at ok
  rw [← hi.K] at bd kp
  rw [← hi.mg] at hm
  refine ⟨PE_imp (pe_call0 ok hi.room hg hm kp bd .nil pass0 hdb) fun σ H Q q => ?_⟩
  obtain ⟨δ, M, R, S, m, h, kk⟩ := q
  exact ⟨[], M, R, .nil, m, h, kk⟩
end
def startD (N : List Str) (ds : List D) : DSt := ds.map some ++ List.replicate (N.length - ds.length) none
theorem start_sl {K : PySem.W.Frag} {H : Hp} {N : List Str} {ds : List D} {vs : List V} (r : RVs K H ds vs) : Sl K (L2.start N vs) H (startD N ds) := by
  refine ⟨by unfold L2.start startD; simp [r.length], fun i d q => ?_⟩
  unfold startD at q
  unfold L2.start
  by_cases hi : i < ds.length
  · rw [List.getElem?_append_left (by simpa using hi), List.getElem?_map] at q
    cases e : ds[i]? with
    | none => rw [e] at q; cases q
    | some d' =>
      rw [e] at q
      cases q
      obtain ⟨v, a, b⟩ := r.get e
      refine ⟨v, ?_, b⟩
      rw [List.getElem?_append_left (by simpa [← r.length] using hi), List.getElem?_map, a]
      rfl
  · rw [List.getElem?_append_right (by simpa using hi), List.getElem?_replicate] at q
    split at q <;> cases q
/-- what a body is to reach: R, of less memory where one likes -/
def endsF (R : DK) : DEnds where
  nx := fun _ M' => ∃ M0, Sub M0 M' ∧ R .non M0
  rt := fun d M' => ∃ M0, Sub M0 M' ∧ R d M0
abbrev BX (W : Wd) (N : List Str) (qual : Str) (sc : Scope) (f : Addr) (cdv : Value) (A : Around) (outer : List Env) (s : Shared) (H : Hp) (E : XK) : Cx := (cxOf CX0 W.P W.w W.K W.mg W.base N qual sc f cdv A outer s H E).nox
/-- a def's body: its reading t, wherever it runs -/
def Body (W : Wd) (k : Nat) (N : List Str) (qual : Str) (sc : Scope) (body : List Stmt) (t : DS) : Prop :=
  ∀ (f : Addr) (cdv : Value) (A : Around) (outer : List Env) (s : Shared) (H : Hp) (E : XK), In (BX W N qual sc f cdv A outer s H E) W k → PDSs (BX W N qual sc f cdv A outer s H E) body t
theorem dfn_mk {W : Wd} {k : Nat} {x qual : Str} {st : Stmt} {f : Addr} {fd : FuncData} {N ps : List Str} {sp : DSp} (F : Fun W.K x qual st f fd) (S : FnScope N ps (defScope st)) (bd : Binds W.K fd ps [])
    (len : ∀ ds M R, sp ds M R → ds.length = ps.length) (h : ∃ t, Body W k N qual (defScope st) (defBody st) t ∧ ∀ ds M R, sp ds M R → t (endsF R) (startD N ds) M) : DFn W (k + 1) f fd ps sp := by
  obtain ⟨t, hb, hr⟩ := h
  refine ⟨F.ok S (fun vs H Q E q => ?_) (fun cdv A outer s H vs Q E hroom q => ?_), len, bd, F.kp⟩
  · obtain ⟨ds, M, R, r, m, h, kk⟩ := q
    rw [← r.length]
    exact len ds M R h
  · refine ⟨_, (hb f cdv A outer s H E ⟨rfl, rfl, rfl, rfl, rfl, hroom⟩).ps, ?_⟩
    obtain ⟨ds, M, R, r, m, h, kk⟩ := q
    refine ⟨_, M, endsF R, start_sl r, m, hr ds M R h, ⟨?_, ?_, ?_, ?_⟩⟩
    · rintro δ M' σ H' ⟨M0, hs, q⟩ e S' m'
      exact kk .non M0 .non H' q e rfl (rm_sub m' hs)
    · intro δ M' σ H' q
      exact q.elim
    · intro δ M' σ H' q
      exact q.elim
    · rintro d M' v H' ⟨M0, hs, q⟩ e rv m'
      exact kk d M0 v H' q e rv (rm_sub m' hs)
end
end DD
end
section
namespace DD
open PySem PySem.Spec PyProof.Rows L2
/-! ### own classes -/
theorem lookup_at : ∀ {ws : List (Str × V)} {i : Nat} {f : Str} {v : V}, (ws.map (·.1)).Nodup → (ws.map (·.1))[i]? = some f → (ws.map (·.2))[i]? = some v → ws.lookup f = some v
  | [], _, _, _, _, h, _ => by simp at h
  | (k, x) :: r, 0, f, v, nd, h1, h2 => by
    simp at h1 h2
    subst h1; subst h2
    simp [List.lookup]
  | (k, x) :: r, i + 1, f, v, nd, h1, h2 => by
    have nd' := List.nodup_cons.mp nd
    have h1' : (r.map (·.1))[i]? = some f := by simpa using h1
    have ne : (f == k) = false := by
      refine beq_eq_false_iff_ne.mpr fun z => nd'.1 ?_
      rw [← z]
      exact List.mem_of_getElem? h1'
    simp only [List.lookup, ne]
    exact lookup_at nd'.2 h1' (by simpa using h2)
theorem putF_set : ∀ {ws : List (Str × V)} {i : Nat} {f : Str} {v : V}, (ws.map (·.1)).Nodup → (ws.map (·.1))[i]? = some f → (putF f v ws).map (·.1) = ws.map (·.1) ∧ (putF f v ws).map (·.2) = (ws.map (·.2)).set i v
  | [], _, _, _, _, h => by simp at h
  | (k, x) :: r, 0, f, v, nd, h1 => by
    simp at h1
    subst h1
    simp [putF]
  | (k, x) :: r, i + 1, f, v, nd, h1 => by
    have nd' := List.nodup_cons.mp nd
    have h1' : (r.map (·.1))[i]? = some f := by simpa using h1
    have ne : k ≠ f := fun z => nd'.1 (by
      have := List.mem_of_getElem? h1'
      rw [← z] at this
      exact this)
    obtain ⟨a, b⟩ := putF_set (v := v) nd'.2 h1'
    unfold putF
    rw [if_neg ne]
    simp [a, b]
theorem putF_new : ∀ {ws : List (Str × V)} {f : Str} {v : V}, f ∉ ws.map (·.1) → putF f v ws = ws ++ [(f, v)]
  | [], _, _, _ => rfl
  | (k, x) :: r, f, v, h => by
    have ne : k ≠ f := fun z => h (by simp [z])
    unfold putF
    rw [if_neg ne, putF_new fun z => h (List.mem_cons_of_mem _ z)]
    rfl
def putD (i : Nat) (v : D) (ds : List D) : List D := if i < ds.length then ds.set i v else ds ++ [v]
/-- the facts of a class that attributes ask -/
structure DCls (W : Wd) (C : Addr) (ns : List Str) : Prop where
  cl : Cls W.K C
  na : ∀ f ∈ ns, NoAttr W.K C f
  nd : ns.Nodup
  few : ns.length < 1000
section
variable {X : Cx} {W : Wd} {k : Nat} {C : Addr} {ns : List Str}
def onIns (C : Addr) (ns : List Str) (d : D) (M : Mem) (Q : Addr → List D → Prop) : Prop := match d with
  | .ref a => match M a with
    | some (.ins C' ns' ds) => C' = C ∧ ns' = ns ∧ Q a ds
    | _ => False
  | _ => False
theorem onIns_imp {K : PySem.W.Frag} {d : D} {M : Mem} {H : Hp} {v : V} {Q : Addr → List D → Prop} (h : onIns C ns d M Q) (m : RM K H M) (r : RV K H d v) :
    ∃ a dx ws ds, v = .ref a ∧ M a = some (.ins C ns ds) ∧ H a = some (.ins C dx ws) ∧ ws.map (·.1) = ns.take ds.length ∧ RVs K H ds (ws.map (·.2)) ∧ Q a ds := by
  unfold onIns at h
  split at h
  · cases r
    split at h
    · rename_i C' ns' ds he
      obtain ⟨rfl, rfl, q⟩ := h
      obtain ⟨dx, ws, a1, a2, a3⟩ := m _ _ he
      exact ⟨_, dx, ws, ds, rfl, he, a1, a2, a3, q⟩
    · exact h.elim
  · exact h.elim
def dFld (C : Addr) (ns : List Str) (i : Nat) (t : DE) : DE := fun δ M R => t δ M fun d M1 => onIns C ns d M1 fun _ ds => match ds[i]? with
  | some v => R v M1
  | none => False
theorem take_get {α : Type} {l : List α} {i n : Nat} {x : α} (h : l[i]? = some x) (hi : i < n) : (l.take n)[i]? = some x := by
  rw [List.getElem?_take_of_lt hi]; exact h
theorem pd_fld {e : Expr} {f : Str} {pos : Pos} {t : DE} {i : Nat} (c : DCls W C ns) (hi : In X W k) (hf : ns[i]? = some f) (he : PD X e t) (hb : attributeBase e f X.env (eval e X.env) = eval e X.env := by rfl) : PD X (.Attribute e f pos) (dFld C ns i t) :=
  ⟨PE_imp (pe_fld he.pe hb) fun σ H Q q => by
    obtain ⟨δ, M, R, S, m, h, kk⟩ := q
    refine ⟨δ, M, _, S, m, h, fun d M1 v H1 h1 e1 r1 m1 => ?_⟩
    obtain ⟨a, dx, ws, ds, rfl, _, a1, a2, a3, q⟩ := onIns_imp h1 m1 r1
    have c1 : Cls X.K C := by rw [hi.K]; exact c.cl
    have c2 : NoAttr X.K C f := by rw [hi.K]; exact c.na f (List.mem_of_getElem? hf)
    split at q
    · rename_i y hy
      have hil : i < ds.length := (List.getElem?_eq_some_iff.mp hy).1
      obtain ⟨u, b1, b2⟩ := a3.get hy
      refine ⟨a, C, dx, ws, u, rfl, a1, c1, c2, lookup_at (by rw [a2]; exact c.nd.sublist (List.take_sublist _ _)) (by rw [a2]; exact take_get hf hil) b1, ?_⟩
      exact kk y M1 u H1 q e1 b2 m1
    · exact q.elim⟩
/-- the object at a with another list of values -/
theorem put_ins {K : PySem.W.Frag} {H : Hp} {M : Mem} {a dx : Addr} {ws : List (Str × V)} {ds : List D} {i : Nat} {f : Str} {d : D} {v : V} (m : RM K H M) (nd : ns.Nodup) (hf : ns[i]? = some f) (a1 : H a = some (.ins C dx ws))
    (a2 : ws.map (·.1) = ns.take ds.length) (a3 : RVs K H ds (ws.map (·.2))) (hi : i ≤ ds.length) (r : RV K H d v) :
    Ext K H (upd H a (.ins C dx (putF f v ws))) ∧ RM K (upd H a (.ins C dx (putF f v ws))) (updM M a (.ins C ns (putD i d ds))) := by
  have e : Ext K H (upd H a (.ins C dx (putF f v ws))) := Ext.mut a1 (fun _ z => by cases z) (fun _ _ z => by cases z)
  refine ⟨e, rm_put m a1 e ?_⟩
  have nl : i < ns.length := (List.getElem?_eq_some_iff.mp hf).1
  by_cases hl : i < ds.length
  · obtain ⟨b1, b2⟩ := putF_set (v := v) (ws := ws) (i := i) (f := f) (by rw [a2]; exact nd.sublist (List.take_sublist _ _)) (by rw [a2]; exact take_get hf hl)
    refine ⟨dx, _, upd_same, ?_, ?_⟩
    · unfold putD
      rw [if_pos hl, b1, a2, List.length_set]
    · unfold putD
      rw [if_pos hl, b2]
      exact (a3.set i r).ext e
  · have hil : i = ds.length := by omega
    have nin : f ∉ ws.map (·.1) := by
      rw [a2]
      intro z
      obtain ⟨j, hj, hz⟩ := List.getElem_of_mem z
      rw [List.length_take] at hj
      have z2 : ns[j]? = some f := by
        rw [← hz, List.getElem_take]
        exact List.getElem?_eq_getElem (by omega)
      have := nodup_ix nd z2 hf
      omega
    refine ⟨dx, _, upd_same, ?_, ?_⟩
    · unfold putD
      rw [if_neg hl, putF_new nin, List.map_append, a2, List.length_append]
      show ns.take ds.length ++ [f] = ns.take (ds.length + 1)
      rw [List.take_add_one, ← hil, hf]
      rfl
    · unfold putD
      have z := (a3.append (RVs.cons r RVs.nil)).ext e
      rw [putF_new nin] at z
      rw [if_neg hl, putF_new nin, List.map_append]
      exact z
def sFldD (C : Addr) (ns : List Str) (i : Nat) (to tv : DE) : DS := fun E δ M => tv δ M fun y M1 => to δ M1 fun x M2 => onIns C ns x M2 fun a ds => i ≤ ds.length ∧ E.nx δ (updM M2 a (.ins C ns (putD i y ds)))
theorem pds_fld {o value : Expr} {f : Str} {pos pos' : Pos} {to tv : DE} {i : Nat} (c : DCls W C ns) (hi : In X W k) (hf : ns[i]? = some f) (ho : PD X o to) (hv : PD X value tv)
    (hs : swapsWith value (some (.Attribute o f pos')) pos.line X.env = pure false := by rfl) : PDS X (.Assign [.Attribute o f pos'] value pos) (sFldD C ns i to tv) :=
  ⟨PS_imp (ps_fld ho.pe hv.pe hs) fun Dd σ H q => by
    obtain ⟨δ, M, R, S, m, h, kk⟩ := q
    refine ⟨δ, M, _, S, m, h, fun y M1 w H1 h1 e1 r1 m1 => ?_⟩
    refine ⟨δ, M1, _, S.ext e1, m1, h1, fun x M2 v H2 h2 e2 r2 m2 => ?_⟩
    obtain ⟨a, dx, ws, ds, rfl, _, a1, a2, a3, hil, q⟩ := onIns_imp h2 m2 r2
    have c1 : Cls X.K C := by rw [hi.K]; exact c.cl
    have c2 : NoAttr X.K C f := by rw [hi.K]; exact c.na f (List.mem_of_getElem? hf)
    have few : ws.length < 1000 := by
      have z := congrArg List.length a2
      rw [List.length_map, List.length_take] at z
      have := c.few
      omega
    refine ⟨a, C, dx, ws, rfl, a1, c1, c2, few, ?_⟩
    obtain ⟨e3, m3⟩ := put_ins m2 c.nd hf a1 a2 a3 hil (r1.ext e2)
    exact kk.nx δ _ σ _ q ((e1.trans e2).trans e3) (S.ext ((e1.trans e2).trans e3)) m3⟩
def sFldAugD (C : Addr) (ns : List Str) (i : Nat) (to tv : DE) (g : DIp) : DS := fun E δ M => to δ M fun x M1 => onIns C ns x M1 fun a ds => match ds[i]? with
  | some v => tv δ M1 fun y M2 => g v y M2 fun z M3 => onIns C ns x M3 fun a ds => i ≤ ds.length ∧ E.nx δ (updM M3 a (.ins C ns (putD i z ds)))
  | none => False
theorem pds_fldaug {o value : Expr} {f : Str} {tpos pos : Pos} {to tv : DE} {i : Nat} {op : Operator} {rd : V → V → Hp → VK → Prop} {g : DIp} (c : DCls W C ns) (hi : In X W k) (hf : ns[i]? = some f) (ho : PD X o to) (hv : PD X value tv) (hop : InOp X op rd) (hg : IpD X.K rd g) :
    PDS X (.AugAssign (.Attribute o f tpos) op value pos) (sFldAugD C ns i to tv g) :=
  ⟨PS_imp (ps_fldaug ho.pe hv.pe hop) fun Dd σ H q => by
    obtain ⟨δ, M, R, S, m, h, kk⟩ := q
    refine ⟨δ, M, _, S, m, h, fun x M1 v H1 h1 e1 r1 m1 => ?_⟩
    obtain ⟨a, dx, ws, ds, rfl, he, a1, a2, a3, q⟩ := onIns_imp h1 m1 r1
    have c1 : Cls X.K C := by rw [hi.K]; exact c.cl
    have c2 : NoAttr X.K C f := by rw [hi.K]; exact c.na f (List.mem_of_getElem? hf)
    split at q
    · rename_i old hy
      have hil : i < ds.length := (List.getElem?_eq_some_iff.mp hy).1
      obtain ⟨u, b1, b2⟩ := a3.get hy
      refine ⟨a, C, dx, ws, u, rfl, a1, c1, c2, lookup_at (by rw [a2]; exact c.nd.sublist (List.take_sublist _ _)) (by rw [a2]; exact take_get hf hil) b1, ?_⟩
      refine ⟨δ, M1, _, S.ext e1, m1, q, fun y M2 w H2 h2 e2 r2 m2 => ?_⟩
      refine hg old y M2 _ H2 u w _ h2 m2 (b2.ext e2) r2 fun z M3 t H3 h3 e3 r3 m3 => ?_
      obtain ⟨a', dx', ws', ds', ea, _, a1', a2', a3', hil', q'⟩ := onIns_imp h3 m3 ((r1.ext e2).ext e3)
      cases ea
      have few : ws'.length < 1000 := by
        have z := congrArg List.length a2'
        rw [List.length_map, List.length_take] at z
        have := c.few
        omega
      refine ⟨dx', ws', a1', few, ?_⟩
      obtain ⟨e4, m4⟩ := put_ins m3 c.nd hf a1' a2' a3' hil' r3
      exact kk.nx δ _ σ _ q' (((e1.trans e2).trans e3).trans e4) (S.ext (((e1.trans e2).trans e3).trans e4)) m4
    · exact q.elim⟩
/-- a method of the class at C -/
structure MFn (W : Wd) (k : Nat) (C : Addr) (ns : List Str) (x : Str) (ps : List Str) (sp : DSp) : Prop where
  ex : ∃ f fd, Meth W.K C x f ∧ DFn W k f fd ps sp
  no : x ∉ ns
  cl : DCls W C ns
theorem MFn.mono {j k : Nat} {x : Str} {ps : List Str} {sp : DSp} (F : MFn W j C ns x ps sp) (h : j ≤ k) : MFn W k C ns x ps sp := by
  obtain ⟨f, fd, a, b⟩ := F.ex
  exact ⟨⟨f, fd, a, b.mono h⟩, F.no, F.cl⟩
def dMeth (C : Addr) (ns : List Str) (sp : DSp) (to : DE) (t : DA) : DE := fun δ M R => to δ M fun x M1 => onIns C ns x M1 fun _ _ => t δ M1 fun xs M2 => sp (x :: xs) M2 R
theorem lookup_none : ∀ {ws : List (Str × V)} {f : Str}, f ∉ ws.map (·.1) → ws.lookup f = none
  | [], _, _ => rfl
  | (k, x) :: r, f, h => by
    have ne : (f == k) = false := beq_eq_false_iff_ne.mpr fun z => h (by simp [z])
    simp only [List.lookup, ne]
    exact lookup_none fun z => h (List.mem_cons_of_mem _ z)
section
variable {x : Str} {ps : List Str} {sp : DSp} {o e : Expr} {es : List Expr} {apos pos : Pos} {to : DE} {t : DA}
theorem no_field {ws : List (Str × V)} {n : Nat} (a2 : ws.map (·.1) = ns.take n) (h : x ∉ ns) : ws.lookup x = none := lookup_none (by
  rw [a2]
  exact fun z => h (List.mem_of_mem_take z))
theorem pd_meth {pl : Sem Bool} (F : MFn W k C ns x ps sp) (hi : In X W k) (ho : PD X o to) (ha : PDA X (e :: es) t)
    (hst : starEach (e :: es) X.env = (false, eval e X.env) :: starEach es X.env := by rfl) (hpl : (backTo pos (starEach es X.env)).any (·.1) = false := by rfl)
    (ht : eval (.Call (.Attribute o x apos) (e :: es) [] pos) X.env = (do
      let ov ← eval o X.env
      standAt apos.atName
      let (f, first) ← holding [ov] (getMethod ov x pl)
      callWith pos f first (backTo pos (starEach (e :: es) X.env)) (backToKw pos (keywordEach [] X.env))) := by rfl) : PD X (.Call (.Attribute o x apos) (e :: es) [] pos) (dMeth C ns sp to t) := by
  obtain ⟨f, fd, hm, G⟩ := F.ex
  obtain ⟨ok, len, bd, kp⟩ := G
  have c1 : Cls X.K C := by rw [hi.K]; exact F.cl.cl
  rw [← hi.P, ← hi.w, ← hi.K, ← hi.mg, ← hi.base] at ok
  rw [← hi.K] at bd kp hm
  refine ⟨PE_imp (pe_meth ho.pe c1 hm ok hi.room bd .nil pass0 ha.pa hst hpl ht) fun σ H Q q => ?_⟩
  obtain ⟨δ, M, R, S, m, h, kk⟩ := q
  refine ⟨δ, M, _, S, m, h, fun d M1 v H1 h1 e1 r1 m1 => ?_⟩
  obtain ⟨a, dx, ws, ds, rfl, _, a1, a2, a3, q⟩ := onIns_imp h1 m1 r1
  refine ⟨a, dx, ws, rfl, a1, no_field a2 F.no, ?_⟩
  refine ⟨δ, M1, _, S.ext e1, m1, q, fun xs M2 vs H2 h2 e2 r2 m2 => ?_⟩
  show liftSp X.K sp (V.ref a :: (vs ++ [])) H2 Q E0
  rw [List.append_nil]
  exact ⟨d :: xs, M2, R, .cons (r1.ext e2) r2, m2, h2, kk.ext (e1.trans e2)⟩
theorem pd_meth0 {pl : Sem Bool} (F : MFn W k C ns x ps sp) (hi : In X W k) (ho : PD X o to)
    (ht : eval (.Call (.Attribute o x apos) [] [] pos) X.env = (do
      let ov ← eval o X.env
      standAt apos.atName
      let (f, first) ← holding [ov] (getMethod ov x pl)
      callWith pos f first (backTo pos (starEach [] X.env)) (backToKw pos (keywordEach [] X.env))) := by rfl) : PD X (.Call (.Attribute o x apos) [] [] pos) (dMeth C ns sp to aNil) := by
  obtain ⟨f, fd, hm, G⟩ := F.ex
  obtain ⟨ok, len, bd, kp⟩ := G
  have c1 : Cls X.K C := by rw [hi.K]; exact F.cl.cl
  rw [← hi.P, ← hi.w, ← hi.K, ← hi.mg, ← hi.base] at ok
  rw [← hi.K] at bd kp hm
  refine ⟨PE_imp (pe_meth0 ho.pe c1 hm ok hi.room bd .nil pass0 ht) fun σ H Q q => ?_⟩
  obtain ⟨δ, M, R, S, m, h, kk⟩ := q
  refine ⟨δ, M, _, S, m, h, fun d M1 v H1 h1 e1 r1 m1 => ?_⟩
  obtain ⟨a, dx, ws, ds, rfl, _, a1, a2, a3, q⟩ := onIns_imp h1 m1 r1
  refine ⟨a, dx, ws, rfl, a1, no_field a2 F.no, ?_⟩
  exact ⟨[d], M1, R, .cons r1 .nil, m1, q, kk.ext e1⟩
/-- C(..) -/
structure CFn (W : Wd) (k : Nat) (x : Str) (C : Addr) (ns : List Str) (ps : List Str) (sp : DSp) : Prop where
  ex : ∃ f fd, W.mg x = some (.ref C) ∧ Mk W.K C f ∧ DFn W k f fd ps sp
theorem CFn.mono {j k : Nat} {x : Str} {ps : List Str} {sp : DSp} (F : CFn W j x C ns ps sp) (h : j ≤ k) : CFn W k x C ns ps sp := by
  obtain ⟨f, fd, a, b, c⟩ := F.ex
  exact ⟨f, fd, a, b, c.mono h⟩
def dMake (C : Addr) (ns : List Str) (sp : DSp) (t : DA) : DE := fun δ M R => t δ M fun xs M1 => ∀ p, M1 p = none → sp (.ref p :: xs) (updM M1 p (.ins C ns [])) fun _ M2 => R (.ref p) M2
theorem make_imp {K : PySem.W.Frag} {sp' : DSp} {δ : DSt} {xs : List D} {M1 : Mem} {R : DK} {vs : List V} {H H1 : Hp} {Q : VK} (kk : KQ K H R Q) (e1 : Ext K H H1) (r1 : RVs K H1 xs vs) (m1 : RM K H1 M1)
    (h1 : ∀ p, M1 p = none → sp' (.ref p :: xs) (updM M1 p (.ins C ns [])) fun d M2 => R (.ref p) M2) (y dy : Addr) (hy : H1 y = none) (hdy : H1 dy = none) (ne : dy ≠ y)
    (hret : ∀ xs M R, sp' xs M R → sp' xs M fun d M2 => d = .non ∧ R d M2) :
    liftSp K sp' (V.ref y :: vs) (upd (upd H1 dy (.own y)) y (.ins C dy [])) (fun v H2 => v = .non ∧ Q (.ref y) H2) E0 := by
  have e2 : Ext K H1 (upd H1 dy (.own y)) := Ext.new hdy
  have hy2 : (upd H1 dy (.own y)) y = none := by rw [upd_ne ne.symm]; exact hy
  have e3 : Ext K (upd H1 dy (.own y)) (upd (upd H1 dy (.own y)) y (.ins C dy [])) := Ext.new hy2
  have m2 : RM K (upd H1 dy (.own y)) M1 := rm_skip m1 hdy
  refine ⟨.ref y :: xs, _, _, .cons rfl ((r1.ext e2).ext e3), rm_new (o := .ins C ns []) m2 hy2 ⟨dy, [], upd_same, by simp, .nil⟩, hret _ _ _ (h1 y (rm_none m1 hy)), ?_⟩
  rintro d M2 v H2 ⟨rfl, q⟩ e4 rv m3
  exact ⟨rv, kk _ M2 _ H2 q (((e1.trans e2).trans e3).trans e4) rfl m3⟩
theorem pd_make (F : CFn W k x C ns ps sp) (hi : In X W (k + 1)) (hg : Gl X x) (ha : PDA X (e :: es) t) (hret : ∀ xs M R, sp xs M R → sp xs M fun d M2 => d = .non ∧ R d M2) (hdb : (x == ("__debug__" : Str)) = false := by decide)
    (he : starEach (e :: es) X.env = (false, eval e X.env) :: starEach es X.env := by rfl) (hpl : (backTo pos (starEach es X.env)).any (·.1) = false := by rfl) : PD X (.Call (.Name x apos) (e :: es) [] pos) (dMake C ns sp t) := by
  obtain ⟨f, fd, hm, mk, G⟩ := F.ex
  obtain ⟨ok, len, bd, kp⟩ := G
  rw [← hi.P, ← hi.w, ← hi.K, ← hi.mg, ← hi.base] at ok
  rw [← hi.K] at bd kp mk
  rw [← hi.mg] at hm
  refine ⟨PE_imp (pe_make mk ok hi.room hg hm bd .nil pass0 ha.pa hdb he hpl) fun σ H Q q => ?_⟩
  obtain ⟨δ, M, R, S, m, h, kk⟩ := q
  refine ⟨δ, M, _, S, m, h, fun xs M1 vs H1 h1 e1 r1 m1 => ?_⟩
  intro y dy hy hdy ne
  show liftSp X.K sp (V.ref y :: (vs ++ [])) _ _ E0
  rw [List.append_nil]
  exact make_imp (δ := δ) kk e1 r1 m1 h1 y dy hy hdy ne hret
end
end
end DD
end
section
/-! ### enumerate(a tuple), at the library's level -/
namespace PySem
open AutoSeq1 (wpAny_loadPart')
section
variable {prog : Program} {w : World} {A : Around} {E : Value → Shared → Prop} {s : Shared}
theorem dd_meets_enumT (l : Addr) (items : Array Value) (o : Obj) (hc : o.cls = .type "tuple") (n : Nat) (hd : o.data = .seq items n) :
    Meets (Builtin.«enumerate.__new__» ⟨[.type "enumerate", .ref l], []⟩) (fun _ R s => s.heap.get? l = some o ∧
      R (.ok (.ret (.ref (s.heap.push { cls := .type "tuple_iterator", data := .fields #[.ref l, .int 0 0] }).objs.size)))
        { s with heap := (s.heap.push { cls := .type "tuple_iterator", data := .fields #[.ref l, .int 0 0] }).push { cls := .type "enumerate", data := .fields #[.none, .bool false, .ref s.heap.objs.size, rawInt 0, .none, .none] } }) :=
  .of_wp fun prog w A R s h => by
    obtain ⟨hp, g, d, tk, os⟩ := s
    obtain ⟨hl, h⟩ := h
    have hsub := sub_enumerate
    have hL : Heap.IsTuple (Shared.heap ⟨hp, g, d, tk, os⟩) l items := ⟨o, hl, hc, n, hd⟩
    obtain ⟨c, dct, dt, sl⟩ := o
    cases hc
    cases hd
    wp_walk using wpAny_loadPart' hl
    refine wpAny_stack_any fun st => wpAny_pure ?_
    split
    · rename_i c _ _ _ _ _
      cases (c == Value.type "enumerate") <;> (wp_walk using wpAny_loadPart' hl, wpAny_pyIter_tuple hL; exact ⟨_, rfl, h⟩)
    · wp_walk using wpAny_loadPart' hl, wpAny_pyIter_tuple hL
      exact ⟨_, rfl, h⟩
theorem dd_call_enumT {l : Addr} {items : Array Value} {Q : Value → Shared → Prop} (hL : s.heap.IsTuple l items)
    (h : ∀ h', IsEnum h' (s.heap.objs.size + 1) s.heap.objs.size 0 .none → h'.IsTupleIter s.heap.objs.size l 0 → h'.objs.size = s.heap.objs.size + 2 →
      (∀ b o, s.heap.get? b = some o → h'.get? b = some o) → Q (.ref (s.heap.objs.size + 1)) { s with heap := h' }) :
    wpAny (model prog w) A (call (.type "enumerate") [.ref l]) Q E s := by
  obtain ⟨o, hl, hc, n, hd⟩ := hL
  refine callType_new F.called_enumerate (by decide) (F.typeCall_enumerate_1 _) (F.newCall_enumerate_1 _) (fun obj => F.args_object_init_2 obj _) F.entry_enumerate_new
    (dd_meets_enumT l items o hc n hd) ⟨hl, ?_⟩
  have hz : (s.heap.push { cls := .type "tuple_iterator", data := .fields #[.ref l, .int 0 0] }).objs.size = s.heap.objs.size + 1 := Heap.size_push ..
  show _ ∧ _
  rw [hz]
  have he : IsEnum ((s.heap.push { cls := .type "tuple_iterator", data := .fields #[.ref l, .int 0 0] }).push
      { cls := .type "enumerate", data := .fields #[.none, .bool false, .ref s.heap.objs.size, rawInt 0, .none, .none] }) (s.heap.objs.size + 1) s.heap.objs.size 0 .none := by
    have q := Heap.get?_push_size (s.heap.push { cls := .type "tuple_iterator", data := .fields #[.ref l, .int 0 0] })
      (o := { cls := .type "enumerate", data := .fields #[.none, .bool false, .ref s.heap.objs.size, rawInt 0, .none, .none] }) rfl
    rw [hz] at q
    exact q
  refine ⟨⟨_, he, rfl⟩, h _ he ⟨_, Heap.get?_push_of_some _ (Heap.get?_push_size _ rfl), rfl, rfl⟩ (by rw [Heap.size_push, hz]) fun b o x => ?_⟩
  exact Heap.get?_push_of_some _ (Heap.get?_push_of_some _ x)
theorem dd_nextOf_tup {it l : Addr} {i : Nat} {items : Array Value} {x : Value} {Q : Value → Shared → Prop} (hit : s.heap.IsTupleIter it l i) (hl : s.heap.IsTuple l items) (hx : items[i]? = some x)
    (hQ : ∀ h', h'.IsTupleIter it l (i + 1) → Heap.SameBut it s.heap h' → Q x { s with heap := h' }) :
    wpAny (model prog w) A (Builtin.SmallTypes.nextOf (.ref it)) Q E s := by
  obtain ⟨o, ho, hc, hd⟩ := id hit
  obtain ⟨ol, hol, _, nl, hdl⟩ := hl
  unfold Builtin.SmallTypes.nextOf
  refine wpAny_bind (wpAny_callSpecial?_slot (name := Str.ofString "__next__") hit.typeIs F.slot_tuple_iterator_next (wpAny_call_entry F.slot_tuple_iterator_next hit.typeIs F.entry_tuple_iterator_next ?_ (F.args_tuple_iterator_next_1 _)))
  show wpAny _ _ (field (.ref it) 0 >>= _) _ _ s
  refine wpAny_bind (wpAny_field ho hd (x := .ref l) rfl ?_)
  show wpAny _ _ (if (Value.ref l == Value.none) = true then _ else _) _ _ s
  rw [if_neg (show ¬ ((Value.ref l == Value.none) = true) from Bool.false_ne_true)]
  show wpAny _ _ (field (.ref it) 1 >>= _) _ _ s
  refine wpAny_bind (wpAny_field ho hd (x := .int i 0) rfl ?_)
  show wpAny _ _ (seqItems? (.ref l) >>= _) _ _ s
  refine wpAny_bind (wpAny_seqItems hol hdl ?_)
  simp only [Int.toNat_natCast, hx]
  refine wpAny_bind (wpAny_setField ho hd (by simp) (wpAny_pure ⟨x, rfl, wpAny_pure (hQ _ ?_ (Heap.SameBut.update ..))⟩))
  refine ⟨_, Heap.get?_update_self _ ho (Obj.isFreed_of_fields (Obj.data_mapFields hd _)), (Obj.cls_mapFields ..).trans hc, ?_⟩
  rw [Obj.data_mapFields hd]; simp [rawInt]
theorem dd_nextOf_tupEnd {it l : Addr} {i : Nat} {items : Array Value} {Q : Value → Shared → Prop} (hh : A.handled = none) (hit : s.heap.IsTupleIter it l i) (hl : s.heap.IsTuple l items) (hx : items[i]? = none)
    (hE : ∀ h' e, Heap.ExtBut it s.heap h' → (∃ o, h'.get? e = some o ∧ o.cls = .type "StopIteration") → E (.ref e) { s with heap := h' }) :
    wpAny (model prog w) A (Builtin.SmallTypes.nextOf (.ref it)) Q E s := by
  obtain ⟨o, ho, hc, hd⟩ := id hit
  obtain ⟨ol, hol, _, nl, hdl⟩ := hl
  unfold Builtin.SmallTypes.nextOf
  refine wpAny_bind (wpAny_callSpecial?_slot (name := Str.ofString "__next__") hit.typeIs F.slot_tuple_iterator_next (wpAny_call_entry F.slot_tuple_iterator_next hit.typeIs F.entry_tuple_iterator_next ?_ (F.args_tuple_iterator_next_1 _)))
  show wpAny _ _ (field (.ref it) 0 >>= _) _ _ s
  refine wpAny_bind (wpAny_field ho hd (x := .ref l) rfl ?_)
  show wpAny _ _ (if (Value.ref l == Value.none) = true then _ else _) _ _ s
  rw [if_neg (show ¬ ((Value.ref l == Value.none) = true) from Bool.false_ne_true)]
  show wpAny _ _ (field (.ref it) 1 >>= _) _ _ s
  refine wpAny_bind (wpAny_field ho hd (x := .int i 0) rfl ?_)
  show wpAny _ _ (seqItems? (.ref l) >>= _) _ _ s
  refine wpAny_bind (wpAny_seqItems hol hdl ?_)
  simp only [Int.toNat_natCast, hx]
  refine wpAny_bind (wpAny_rule (wpAny_bind (wpAny_setField ho hd (by simp) ?_)))
  show wpAny _ _ (newExc (.type "StopIteration") [] >>= _) _ _ _
  refine wpAny_bind ?_
  simp only [newExc, newTuple]
  refine wpAny_bind (wpAny_newObj_type ?_ (by size_fits))
  refine wpAny_bind (m := firstArgMember _ _) (wpAny_of_eq (a := Value.none) (by first | rfl | (simp only [firstArgMember]; rfl)) ?_)
  refine wpAny_newObj_type ?_ (by size_fits)
  simp only [raiseNew]
  refine wpAny_bind (wpAny_handled ?_)
  first
    | rw [show A.in1.handled = none from hh]
    | rw [hh]
  refine wpAny_bind (wpAny_pure (wpAny_throw ?_))
  exact hE _ _ (((Heap.SameBut.update ..).extBut.push _).push _) ⟨_, Heap.get?_push_size _ rfl, rfl⟩
end
theorem dd_drawsT {prog : Program} {w : World} {A : Around} (hh : A.handled = none) (it l : Addr) (hne : l ≠ it) (items : Array Value) :
    Draws prog w A it [it, l] items.size (fun i v => items[i]? = some v) (fun i h => h.IsTupleIter it l i ∧ h.IsTuple l items) where
  live := fun _ _ st => let ⟨o, ho, _⟩ := st.1; ⟨o, ho⟩
  frame := fun _ _ _ st hk => ⟨let ⟨o, ho, r⟩ := st.1; ⟨o, hk it (by simp) o ho, r⟩, let ⟨o, ho, r⟩ := st.2; ⟨o, hk l (by simp) o ho, r⟩⟩
  item := fun i s Q E hi st hQ => by
    refine dd_nextOf_tup st.1 st.2 (x := items[i]) (by simp [hi]) fun h' hit' hs' => ?_
    exact hQ _ h' s.toks (by simp [hi]) ⟨hit', st.2.extBut hs'.extBut hne⟩ hs'
  done := fun s Q E st hE => dd_nextOf_tupEnd hh st.1 st.2 (by simp) hE
theorem dd_enum_end {prog : Program} {w : World} {A : Around} {E : Value → Shared → Prop} {s : Shared} {e it l : Addr} {i : Nat} {items : Array Value} {old : Value} {Q : Option Value → Shared → Prop} (hh : A.in1.handled = none)
    (he : IsEnum s.heap e it i old) (hit : s.heap.IsTupleIter it l i) (hl : s.heap.IsTuple l items) (hx : items[i]? = none)
    (hQ : ∀ h', Heap.ExtBut it s.heap h' → Q none { s with heap := h' }) : wpAny (model prog w) A (pyNext (.ref e)) Q E s := by
  have hT : s.TypeIs (.ref e) "enumerate" := ⟨_, he, rfl⟩
  unfold pyNext
  refine wpAny_bind (wpAny_attempt (wpAny_callSpecial?_slot (name := Str.ofString "__next__") hT F.slot_enumerate_next (wpAny_call_entry F.slot_enumerate_next hT F.entry_enumerate_next ?_ (F.args_enumerate_next_1 _))))
  show wpAny _ _ (field (.ref e) 2 >>= _) _ _ _
  refine wpAny_bind (wpAny_field he rfl (x := .ref it) rfl ?_)
  refine wpAny_bind (dd_nextOf_tupEnd hh hit hl hx fun h' x he' hx' => ?_)
  obtain ⟨o, ho, hc⟩ := hx'
  refine wpAny_bind (wpAny_isInstance (T := "StopIteration") (b := true) ⟨o, ho, hc⟩ isSubtype_stop ?_)
  exact wpAny_pure (hQ _ he')
end PySem

namespace DD
open PySem PySem.Spec PyProof.Rows L2
def IteT (K : PySem.W.Frag) (a : Addr) : It :=
  ⟨fun i H => ∃ (xs : List V) (x : V), SqT K H a xs ∧ xs[i]? = some x, fun i H v H' => ∃ T x, v = .ref T ∧ H T = none ∧ H' = upd H T (.tup [.int (i : Nat), x]) ∧ ∀ xs, SqT K H a xs → xs[i]? = some x, fun i H => ∃ xs : List V, SqT K H a xs ∧ xs.length ≤ i⟩
theorem turn_enumT {P : Program} {w : World} {K : PySem.W.Frag} {elts : List Expr} {kk : Nat} {tpos : Pos} (a e it : Addr) :
    Turn P w K (.Tuple elts kk tpos) (IteT K a) [e, it] e (fun i h => (∃ old, IsEnum h e it ((i : Nat) : Int) old) ∧ h.IsTupleIter it a i ∧ e ≠ it) where
  mem := by simp
  obj := fun i h st b hb => by
    obtain ⟨⟨old, he⟩, ⟨o, ho, hc, hd⟩, _⟩ := st
    have e' : b = e ∨ b = it := by simpa using hb
    rcases e' with z | z
    · rw [z]; exact ⟨_, he, fun v q => nomatch q⟩
    · rw [z]; exact ⟨o, ho, fun v q => by rw [hd] at q; cases q⟩
  keep := fun i h h' st k => let ⟨⟨old, he⟩, ⟨o, ho, r⟩, hne⟩ := st; ⟨⟨old, k e (by simp) _ he⟩, ⟨o, k it (by simp) o ho, r⟩, hne⟩
  item := by
    intro X hP hw hK hc i pins s σ H E I hf st hg
    subst hP hw hK
    obtain ⟨⟨old, he⟩, hit, hne⟩ := st
    obtain ⟨xs, x, hq, hx⟩ := hg
    obtain ⟨its, rv, p, hz⟩ := I.tuple hq
    obtain ⟨u, hu, ru⟩ := rv.get hx
    have p' : s.heap.IsTuple a its.toArray := p
    have hel : e < s.heap.objs.size := Heap.lt_size he
    have hil : it < s.heap.objs.size := by obtain ⟨_, q, _⟩ := hit; exact Heap.lt_size q
    have hai : a ≠ it := fun z => by
      obtain ⟨o1, q1, c1, _⟩ := p'
      obtain ⟨o2, q2, c2, _⟩ := hit
      rw [z, q2] at q1; cases q1
      rw [c2] at c1; exact absurd (Value.type.inj c1) (by decide)
    have hae : a ≠ e := fun z => by
      obtain ⟨o1, q1, c1, _⟩ := p'
      rw [z, he] at q1
      cases q1; exact absurd (Value.type.inj c1) (by decide)
    have hil2 : i < its.toArray.size := by
      have := rv.length
      have := (List.getElem?_eq_some_iff.mp hx).1
      simp only [List.size_toArray]; omega
    have hh : X.A.in1.handled = none := I.ok.hd hc
    refine wpAny_pyNext_enum_itemD (dd_drawsT (A := X.A.in1) hh it a hai its.toArray) he ⟨hit, p'⟩ hil2 hne (by simp [hne, Ne.symm hae]) fun y h' tk hP ho hs' hT hsz hk => ?_
    have hy : y = u := by
      have z : its.toArray[i]? = some y := hP
      have z2 : its.toArray[i]? = some u := by simpa using hu
      rw [z2] at z; cases z; rfl
    subst hy
    refine ⟨_, rfl, wpAny_letOwnedTupleGo_enum (s := { s with heap := h', toks := tk + 1 }) ho fun h'' he' sb => ?_⟩
    have hT2 : h''.get? s.heap.objs.size = some { cls := .type "tuple", data := .seq #[.int i tk, y] } := (sb.2 _ (Nat.ne_of_gt hel)).trans hT
    have new : ObjOk X.prog X.w (upd H s.heap.objs.size (.tup [.int (i : Nat), x])) h'' s.heap.objs.size (.tup [.int (i : Nat), x]) :=
      ⟨by show 2 ≤ sizeLine; decide, [.int i tk, y], .cons ⟨_, rfl⟩ (.cons ru .nil), ⟨_, hT2, rfl, _, rfl⟩⟩
    have I1 : Inv X pins σ (upd H s.heap.objs.size (.tup [.int (i : Nat), x])) { s with heap := h'', toks := tk + 1 } :=
      I.turnedNew (ch := [e, it]) (fun b ob hb q => (sb.2 b (fun z => hb (by simp [z]))).trans (hk b ob (fun z => hb (by simp [z])) (fun z => hb (by simp [z])) q)) hf (Nat.le_refl _) new
    refine ⟨.ref s.heap.objs.size, _, I1, rfl, ⟨_, x, rfl, I.hok.fresh (Nat.le_refl _), rfl, fun ys hy => by rw [I.tuple_inj hy hq]; exact hx⟩, ⟨⟨y, ?_⟩, ?_, hne⟩, fun b hb => ?_⟩
    · have e1 : ((i + 1 : Nat) : Int) = (i : Int) + 1 := by omega
      rw [e1]
      exact he'
    · obtain ⟨o, q, r⟩ := hs'.1
      exact ⟨o, (sb.2 it (Ne.symm hne)).trans q, r⟩
    · have hb' : b < s.heap.objs.size := by
        have e' : b = e ∨ b = it := by simpa using hb
        rcases e' with z | z
        · rw [z]; exact hel
        · rw [z]; exact hil
      rw [upd_ne (Nat.ne_of_lt hb')]
      exact (hf b hb).1
  done := by
    intro X hP hw hK hc i pins s σ H E I hf st hg
    subst hP hw hK
    obtain ⟨⟨old, he⟩, hit, hne⟩ := st
    obtain ⟨xs, hq, hx⟩ := hg
    obtain ⟨its, rv, p, hz⟩ := I.tuple hq
    have p' : s.heap.IsTuple a its.toArray := p
    obtain ⟨f0, f1, f2, f3, f4, f5⟩ := hf it (by simp)
    have hl := rv.length
    have hai : a ≠ it := fun z => by
      obtain ⟨o1, q1, c1, _⟩ := p'
      obtain ⟨o2, q2, c2, _⟩ := hit
      rw [z, q2] at q1; cases q1
      rw [c2] at c1; exact absurd (Value.type.inj c1) (by decide)
    have hh : X.A.in1.handled = none := I.ok.hd hc
    -- the end, with the iterator's place as it stands
    refine dd_enum_end hh he hit p' (by simp only [List.getElem?_toArray]; exact List.getElem?_eq_none (by omega)) fun h' eb => ⟨rfl, I.turned (t' := s.toks) (fun b o hb q => eb b o hb q) f0 f1 f3 f4 f5⟩
  self := fun A i s Q E st h => let ⟨⟨_, he⟩, _⟩ := st; wpAny_pyIter_enum he h
section
variable {X : Cx}
def iEnumA (K : PySem.W.Frag) (ta : TA) : TI := fun σ H R => ta σ H fun vs H1 => ∃ a xs, vs = [V.ref a] ∧ ((SqL K H1 a xs ∧ R (Ite K a) H1) ∨ (SqT K H1 a xs ∧ R (IteT K a) H1))
theorem pi_enumA {e : Expr} {ta : TA} {p pos tpos : Pos} {elts : List Expr} {kk : Nat} (hg : Gl X "enumerate") (hm : X.mg "enumerate" = none) (ha : PA X [e] ta) (hs : starEach [e] X.env = [(false, eval e X.env)] := by rfl) :
    PI X (.Tuple elts kk tpos) (.Call (.Name "enumerate" p) [e] [] pos) (iEnumA X.K ta) := by
  refine ⟨fun pins s σ H R I h => ?_⟩
  refine Call_ (ld_blt I hg hm boot_enumerate (PyProof.Rows.callWith_type1 (thn (ha.run pos pins s σ H _ I h) fun us s1 ⟨vs, H1, I1, r1, q1⟩ => ?_) hs rfl))
  obtain ⟨a, xs, ex, q⟩ := q1
  subst ex
  have fresh2 : ∀ b ∈ [s1.heap.objs.size + 1, s1.heap.objs.size], FpOk X pins H1 b := by
    intro b hb
    have e' : b = s1.heap.objs.size + 1 ∨ b = s1.heap.objs.size := by simpa using hb
    have hle : s1.heap.objs.size ≤ b := by rcases e' with z | z <;> omega
    exact I1.fpOk hle (I1.hok.fresh hle)
  cases r1 with
  | cons r rr =>
    cases rr
    cases r
    rcases q with ⟨hq, q⟩ | ⟨hq, q⟩
    · obtain ⟨its, rv, p', hz⟩ := I1.list hq
      refine call_enumerate_list p'.isList fun h' he hit hsz hk => wpAny_pyIter_enum he ?_
      have I2 : Inv X pins σ H1 { s1 with heap := h' } := I1.kept (t' := s1.toks) hk
      exact ⟨_, _, _, _, H1, rfl, I2, turn_enum a (s1.heap.objs.size + 1) s1.heap.objs.size, ⟨⟨.none, he⟩, hit, Nat.succ_ne_self _⟩, fresh2, q⟩
    · obtain ⟨its, rv, p', hz⟩ := I1.tuple hq
      have p2 : s1.heap.IsTuple a its.toArray := p'
      refine dd_call_enumT p2 fun h' he hit hsz hk => wpAny_pyIter_enum he ?_
      have I2 : Inv X pins σ H1 { s1 with heap := h' } := I1.kept (t' := s1.toks) hk
      exact ⟨_, _, _, _, H1, rfl, I2, turn_enumT a (s1.heap.objs.size + 1) s1.heap.objs.size, ⟨⟨.none, he⟩, hit, Nat.succ_ne_self _⟩, fresh2, q⟩
/-- (0, x), (1, y), .. -/
def enumD (xs : List D) : List D := (List.range xs.length).map fun (i : Nat) => D.tup [.int (i : Int), xs.getD i .non]
theorem enumD_length (xs : List D) : (enumD xs).length = xs.length := by simp [enumD]
theorem enumD_get {xs : List D} {i : Nat} {x : D} (h : xs[i]? = some x) : (enumD xs)[i]? = some (.tup [.int (i : Int), x]) := by
  have hi := (List.getElem?_eq_some_iff.mp h).1
  simp [enumD, List.getElem?_map, List.getElem?_range hi, h]
theorem new_tup {K : PySem.W.Frag} {H : Hp} {M : Mem} {T : Addr} {ds : List D} {vs : List V} (m : RM K H M) (hT : H T = none) (r : RVs K H ds vs) :
    Ext K H (upd H T (.tup vs)) ∧ RV K (upd H T (.tup vs)) (.tup ds) (.ref T) ∧ RM K (upd H T (.tup vs)) M :=
  ⟨Ext.new hT, ⟨T, vs, rfl, .inl (.inl upd_same), r.ext (Ext.new hT)⟩, rm_skip m hT⟩
theorem ite_ok {K : PySem.W.Frag} {H1 : Hp} {a : Addr} {xs : List D} {ok : Mem → Prop} (h : ∀ H M, Ext K H1 H → RM K H M → ok M → ∃ vs, SqL K H a vs ∧ RVs K H xs vs) : ItOk K H1 (Ite K a) (enumD xs) ok where
  go := fun i H M e m o hi => by
    rw [enumD_length] at hi
    obtain ⟨vs, s, r⟩ := h H M e m o
    obtain ⟨v, hv, _⟩ := r.get (List.getElem?_eq_getElem hi)
    exact ⟨vs, v, s, hv⟩
  yld := fun i H M v H' e m o hi y => by
    rw [enumD_length] at hi
    obtain ⟨vs, s, r⟩ := h H M e m o
    obtain ⟨T, x, rfl, hT, rfl, hx⟩ := y
    obtain ⟨u, hu, ru⟩ := r.get (List.getElem?_eq_getElem hi)
    have z := (hx vs s).symm.trans hu
    cases z
    obtain ⟨a1, a2, a3⟩ := new_tup m hT (ds := [.int (i : Int), xs[i]]) (.cons rfl (.cons ru .nil))
    exact ⟨_, enumD_get (List.getElem?_eq_getElem hi), a1, a2, a3⟩
  stop := fun i H M e m o hi => by
    rw [enumD_length] at hi
    obtain ⟨vs, s, r⟩ := h H M e m o
    exact ⟨vs, s, by rw [← r.length]; exact hi⟩
theorem iteT_ok {K : PySem.W.Frag} {H1 : Hp} {a : Addr} {xs : List D} {vs : List V} {ok : Mem → Prop} (s : SqT K H1 a vs) (r : RVs K H1 xs vs) : ItOk K H1 (IteT K a) (enumD xs) ok where
  go := fun i H M e m o hi => by
    rw [enumD_length] at hi
    obtain ⟨v, hv, _⟩ := r.get (List.getElem?_eq_getElem hi)
    exact ⟨vs, v, e.sqT s, hv⟩
  yld := fun i H M v H' e m o hi y => by
    rw [enumD_length] at hi
    obtain ⟨T, x, rfl, hT, rfl, hx⟩ := y
    obtain ⟨u, hu, ru⟩ := (r.ext e).get (List.getElem?_eq_getElem hi)
    have z := (hx vs (e.sqT s)).symm.trans hu
    cases z
    obtain ⟨a1, a2, a3⟩ := new_tup m hT (ds := [.int (i : Int), xs[i]]) (.cons rfl (.cons ru .nil))
    exact ⟨_, enumD_get (List.getElem?_eq_getElem hi), a1, a2, a3⟩
  stop := fun i H M e m o hi => by
    rw [enumD_length] at hi
    exact ⟨vs, e.sqT s, by rw [← r.length]; exact hi⟩
def iEnumerate (t : DA) : DI := fun δ M R => t δ M fun ds M1 => match ds with
  | [d] => match srcD M1 d with
    | some (xs, ok) => R (enumD xs) ok M1
    | none => False
  | _ => False
theorem src_imp2 {K : PySem.W.Frag} {H : Hp} {M : Mem} {d : D} {xs : List D} {ok : Mem → Prop} {v : V} (m : RM K H M) (e : srcD M d = some (xs, ok)) (h : RV K H d v) :
    (∃ a vs, v = .ref a ∧ SqL K H a vs ∧ RVs K H xs vs ∧ ∀ H' M', Ext K H H' → RM K H' M' → ok M' → ∃ vs, SqL K H' a vs ∧ RVs K H' xs vs) ∨ (∃ a vs, v = .ref a ∧ SqT K H a vs ∧ RVs K H xs vs) := by
  unfold srcD at e
  split at e
  · cases e
    obtain ⟨a, vs, rfl, s, r⟩ := h
    exact .inr ⟨a, vs, rfl, s, r⟩
  · cases e
    obtain ⟨a, vs, rfl, s, r⟩ := h
    exact .inl ⟨a, vs, rfl, s.sq, r, fun H' M' e' m' _ => ⟨vs, (e'.rol s).sq, r.ext e'⟩⟩
  · cases h
    split at e
    · rename_i ys he
      cases e
      obtain ⟨vs, a1, q1⟩ := rm_lst m he
      refine .inl ⟨_, vs, rfl, .inl (.inl a1), q1, fun H' M' e' m' o => ?_⟩
      obtain ⟨ws, a2, q2⟩ := rm_lst m' o
      exact ⟨ws, .inl (.inl a2), q2⟩
    · cases e
  · cases e
theorem pdi_enumerate {e : Expr} {ta : DA} {p pos tpos : Pos} {elts : List Expr} {kk : Nat} (hg : Gl X "enumerate") (hm : X.mg "enumerate" = none) (ha : PDA X [e] ta) (hs : starEach [e] X.env = [(false, eval e X.env)] := by rfl) :
    PDI X (.Tuple elts kk tpos) (.Call (.Name "enumerate" p) [e] [] pos) (iEnumerate ta) := ⟨PI_imp (pi_enumA hg hm ha.pa hs) fun σ H Q q => by
  obtain ⟨δ, M, R, S, m, h, k⟩ := q
  refine ⟨δ, M, _, S, m, h, fun ds M1 vs H1 h1 e1 r1 m1 => ?_⟩
  split at h1
  · obtain ⟨v, ws, rfl, q1, t⟩ := r1
    cases t
    split at h1
    · rename_i xs ok he
      rcases src_imp2 m1 he q1 with ⟨a, us, rfl, s, rv, it⟩ | ⟨a, us, rfl, s, rv⟩
      · exact ⟨a, us, rfl, .inl ⟨s, k _ _ M1 _ H1 h1 e1 m1 (ite_ok it)⟩⟩
      · exact ⟨a, us, rfl, .inr ⟨s, k _ _ M1 _ H1 h1 e1 m1 (iteT_ok s rv)⟩⟩
    · exact h1.elim
  · exact h1.elim⟩
end
end DD
end
section
namespace DD
open PySem PySem.Spec PyProof.Rows L2
/-- the built-in names that the module leaves alone -/
structure NB (W : Wd) : Prop where
  len : W.mg "len" = none
  abs : W.mg "abs" = none
  sum : W.mg "sum" = none
  min : W.mg "min" = none
  max : W.mg "max" = none
  any : W.mg "any" = none
  all : W.mg "all" = none
  sorted : W.mg "sorted" = none
  isinstance : W.mg "isinstance" = none
  int_ : W.mg "int" = none
  bool_ : W.mg "bool" = none
  str_ : W.mg "str" = none
  list_ : W.mg "list" = none
  tuple_ : W.mg "tuple" = none
  dict_ : W.mg "dict" = none
  set_ : W.mg "set" = none
  range : W.mg "range" = none
  enumerate : W.mg "enumerate" = none
  zip : W.mg "zip" = none
  reversed : W.mg "reversed" = none
/-- a constant of the module -/
structure GConst (W : Wd) (x : Str) (d : D) : Prop where
  ex : ∃ u v, W.mg x = some u ∧ RelV v u ∧ ∀ H, RV W.K H d v
section
variable {X : Cx} {W : Wd} {k : Nat}
theorem In.blk {s : Shared} {H : Hp} {scope : Scope} {cenv : Env} {fp : List Addr} (hi : In X W k) : In (X.blk s H scope cenv fp) W k := ⟨hi.P, hi.w, hi.K, hi.mg, hi.base, hi.room⟩
theorem GConst.pd {x : Str} {d : D} {pos : Pos} (g : GConst W x d) (hi : In X W k) (hg : Gl X x) (hd : (x == ("__debug__" : Str)) = false := by decide) : PD X (.Name x pos) (dC d) := by
  obtain ⟨u, v, hm, r, hr⟩ := g.ex
  refine pd_c (pe_glob hg (by rw [hi.mg]; exact hm) r hd) fun H => ?_
  rw [hi.K]
  exact hr H
theorem pd_ty {x : Str} {n : String} {pos : Pos} (hg : Gl X x) (hm : X.mg x = none) (hv : bootBuiltins x = some (.type n)) (hn : x ≠ "__name__" := by decide) (hd : (x == ("__debug__" : Str)) = false := by decide) : PD X (.Name x pos) (dC (.ty n)) :=
  pd_c (v := .ty n) (pe_bltn hg hm hv rfl hn hd) fun _ => rfl
/-! ### n += 1 of a field -/
abbrev gAddI : D2 := gI0 fun i j => .int (i + j)
theorem in_addI : InOp X .Add rAdd := in_add
theorem od_addI {K : PySem.W.Frag} : IpD K rAdd gAddI := by
  intro x y M R H v w Q q m rx ry k
  unfold gAddI gI0 at q
  split at q
  · cases rx; cases ry
    exact ⟨_, _, rfl, rfl, kq_keep k m q rfl⟩
  · exact q.elim
theorem od_iadd {K : PySem.W.Frag} : OpD K (rI0 fun i j => .int (i + j)) gAddI := od_I0 fun _ _ _ => rfl
/-! ### isinstance of a value and a built-in type -/
def tyD (M : Mem) : D → Option String
  | .non => some "NoneType"
  | .bl _ => some "bool"
  | .int _ => some "int"
  | .str _ => some "str"
  | .tup _ => some "tuple"
  | .rol _ => some "list"
  | .ref a => match M a with
    | some (.lst _) => some "list"
    | some (.dK _) => some "dict"
    | _ => none
  | .ty _ => none
def isB (a b : String) : Bool := a == b || (a == "bool" && b == "int")
theorem kit_isB : ∀ a ∈ ["NoneType", "bool", "int", "str", "tuple", "list", "dict"], ∀ b ∈ ["bool", "int", "str", "tuple", "list", "dict"], kitB a b = some (isB a b) := by decide +kernel
theorem tyD_mem {M : Mem} {d : D} {a : String} (h : tyD M d = some a) : a ∈ ["NoneType", "bool", "int", "str", "tuple", "list", "dict"] := by
  cases d with
  | ref p =>
    have h : (match M p with
      | some (.lst _) => some "list"
      | some (.dK _) => some "dict"
      | _ => none) = some a := h
    split at h <;> first | (cases h; simp) | cases h
  | ty n => cases h
  | _ => cases h; simp
theorem tyD_x {K : PySem.W.Frag} {H : Hp} {M : Mem} {d : D} {a : String} {v : V} (m : RM K H M) (h : tyD M d = some a) (r : RV K H d v) : TyX K H v (.type a) := by
  cases d with
  | non => cases h; cases r; exact .base .non
  | bl b => cases h; cases r; exact .base (.bl b)
  | int b => cases h; cases r; exact .base (.int b)
  | str b => cases h; cases r; exact .base (.str b)
  | ty n => cases h
  | tup ds =>
    cases h
    obtain ⟨p, vs, rfl, s, _⟩ := r
    rcases s with (s | ⟨o, s⟩) | ⟨o, its, n, hk, hc, _⟩
    · exact .base (.tup s)
    · exact .fTuple s
    · exact .kTuple hk hc
  | rol ds =>
    cases h
    obtain ⟨p, vs, rfl, s, _⟩ := r
    rcases s with ⟨o, s⟩ | ⟨o, its, n, hk, hc, _⟩
    · exact .base (.frz s)
    · exact .kList hk hc
  | ref p =>
    cases r
    have h : (match M p with
      | some (.lst _) => some "list"
      | some (.dK _) => some "dict"
      | _ => none) = some a := h
    split at h
    · rename_i xs he
      cases h
      obtain ⟨us, a1, _⟩ := rm_lst m he
      exact .base (.lst a1)
    · rename_i xs he
      cases h
      obtain ⟨us, a1, _⟩ := m _ _ he
      exact .base (.dK a1)
    · cases h
def gIsi : DC1 := fun xs M R => match xs with
  | [d, .ty n] => match tyD M d with
    | some a => n ∈ ["bool", "int", "str", "tuple", "list", "dict"] ∧ R (.bl (isB a n)) M
    | none => False
  | _ => False
theorem cd_isi {K : PySem.W.Frag} : CallD K (rIsi K) gIsi := by
  intro xs M R H vs Q g m r k
  unfold gIsi at g
  split at g
  · obtain ⟨v, ws, rfl, q, v2, w2, rfl, q2, t⟩ := r
    cases t; cases q2
    split at g
    · rename_i a ha
      exact ⟨v, .ty _, .type a, .type _, isB a _, rfl, .ty _, tyD_x m ha q, kit_ty (kit_isB a (tyD_mem ha) _ g.1), kq_keep k m g.2 rfl⟩
    · exact g.elim
  · exact g.elim

/-! ### sorted(xs), xs a list of data that can be compared -/
def toP (d : D) : PyData := (pyd d).getD .none
theorem pyds_map : ∀ {xs : List D} {ps : List PyData}, pyds xs = some ps → ps = xs.map toP ∧ ∀ x ∈ xs, pyd x = some (toP x)
  | [], _, h => by cases h; exact ⟨rfl, fun _ z => nomatch z⟩
  | x :: xs, ps, h => by
    unfold pyds at h
    split at h
    · rename_i y ys h1 h2
      cases h
      obtain ⟨a, b⟩ := pyds_map h2
      refine ⟨?_, fun z hz => ?_⟩
      · rw [a, List.map_cons]
        unfold toP
        rw [h1]; rfl
      · rcases List.mem_cons.mp hz with rfl | hz
        · unfold toP
          rw [h1]; rfl
        · exact b z hz
    · cases h
def dLe : D → D → Bool := PySem.W.dataLe false toP
def gSorted : DC1 := fun xs M R => match xs with
  | [d] => match itemsD M d with
    | some ys => isLst d M ∧ (∃ ps, pyds ys = some ps) ∧ PySem.W.AllAlike (ys.map toP) ∧ PySem.W.Sortable (ys.map toP) ∧ (∀ y ∈ ys, (toP y).depth ≤ 60) ∧ ys.length ≤ sizeLine ∧
      ∃ M0, Sub M0 M ∧ ∀ p, M0 p = none → R (.ref p) (updM M0 p (.lst (ys.mergeSort dLe)))
    | none => False
  | _ => False
theorem each_of {K : PySem.W.Frag} {H : Hp} : ∀ {ds : List D} {vs : List V} {us : List Value}, RVs K H ds vs → Vals vs us → PySem.W.EachIs (fun u d => ∃ v, RelV v u ∧ RV K H d v) us ds
  | [], _, _, h, r => by cases h; cases r; exact .nil
  | d :: ds, _, _, h, r => by
    obtain ⟨v, ws, rfl, q, t⟩ := h
    cases r with
    | cons r1 r2 => exact .cons ⟨v, r1, q⟩ (each_of t r2)
theorem of_each {K : PySem.W.Frag} {H : Hp} : ∀ {ds : List D} {us : List Value}, PySem.W.EachIs (fun u d => ∃ v, RelV v u ∧ RV K H d v) us ds → ∃ vs, RVs K H ds vs ∧ Vals vs us
  | _, _, .nil => ⟨[], .nil, .nil⟩
  | _, _, .cons ⟨v, r, q⟩ t => by
    obtain ⟨vs, a, b⟩ := of_each t
    exact ⟨v :: vs, .cons q a, .cons r b⟩
def rSortedD (K : PySem.W.Frag) : List V → Hp → VK → Prop := fun vs H Q => ∃ (a : Addr) (xs : List V) (ds : List D), vs = [V.ref a] ∧ H a = some (.lst xs) ∧ RVs K H ds xs ∧ (∀ x ∈ ds, pyd x = some (toP x)) ∧ PySem.W.AllAlike (ds.map toP) ∧ PySem.W.Sortable (ds.map toP) ∧ (∀ y ∈ ds, (toP y).depth ≤ 60) ∧
  ∀ p ys, RVs K H (ds.mergeSort dLe) ys → H p = none → Q (.ref p) (upd H p (.lst ys))
theorem cr_sortedD (hu : X.A.units + 64 < cLine) : CallR X (.builtin "sorted") (rSortedD X.K) := by
  intro pins s σ H vs us Q I r h
  obtain ⟨a, xs, ds, rfl, hs, rd, hp, hal, hso, hdp, q⟩ := h
  obtain ⟨its, rv, hl, hz⟩ := I.list (.inl (.inl hs))
  rw [Vals.ref1 r]
  have e := each_of rd rv
  have er : PySem.W.EachIs (fun v b => ∃ as, Reads s.heap v (toP b) as) its ds := by
    have gen : ∀ {us : List Value} {ds : List D}, (∀ x ∈ ds, pyd x = some (toP x)) → PySem.W.EachIs (fun u d => ∃ v, RelV v u ∧ RV X.K H d v) us ds → PySem.W.EachIs (fun v b => ∃ as, Reads s.heap v (toP b) as) us ds := by
      intro us ds hp e
      induction e with
      | nil => exact .nil
      | cons h t ih =>
        obtain ⟨v, r1, q1⟩ := h
        exact .cons (Dp.reads I _ v _ (pyd_dp (hp _ List.mem_cons_self) q1) r1) (ih fun x hx => hp x (List.mem_cons_of_mem _ hx))
    exact gen hp e
  have hlen : ds.length = its.length := rd.length.trans rv.length
  refine PySem.W.sorted_data hl.isList e er hal hso (by rw [rd.length]; exact hz) (fun b hb => by have := hdp b hb; omega) fun out ho eo => ?_
  obtain ⟨ys, b1, b2⟩ := of_each eo
  have hfr : H (s.heap.objs.size + 1) = none := I.hok.fresh (Nat.le_succ _)
  obtain ⟨n, hn⟩ := PyProof.Rows.sortedAll_at s.heap its out.toArray
  refine ⟨.ref (s.heap.objs.size + 1), upd H (s.heap.objs.size + 1) (.lst ys), I.laid (t' := s.toks) (fun b o e => PyProof.Rows.sortedAll_old e) (Nat.le_succ _) ⟨?_, out, n, b2, hn⟩, rfl, q _ ys b1 hfr⟩
  rw [b2.length, ho, rd.length]
  exact hz
theorem cd_sorted {K : PySem.W.Frag} : CallD K (rSortedD K) gSorted := by
  intro xs M R H vs Q g m r k
  unfold gSorted at g
  split at g
  · rename_i d
    obtain ⟨v, ws, rfl, q, t⟩ := r
    cases t
    split at g
    · rename_i ys he
      obtain ⟨hl, ⟨ps, hp⟩, h1, h2, h3, h4, M0, hs, g⟩ := g
      unfold isLst at hl
      split at hl
      · rename_i a
        cases q
        split at hl
        · rename_i zs hz
          have e2 : itemsD M (.ref a) = some zs := by
            show (match M a with
              | some (.lst xs) => some xs
              | _ => none) = some zs
            rw [hz]
          rw [e2] at he
          cases he
          obtain ⟨us, a1, r2⟩ := rm_lst m hz
          exact ⟨a, us, _, rfl, a1, r2, (pyds_map hp).2, h1, h2, h3, fun p ws rw' hp' => kq_new k (rm_sub m hs) hp' rw' (g p (rm_none (rm_sub m hs) hp'))⟩
        · exact hl.elim
      · exact hl.elim
    · exact g.elim
  · exact g.elim
/-! ### gcd -/
def gGcd : DC1 := fun xs M R => match xs with
  | [.int a, .int b] => R (.int ((Nat.gcd a.natAbs b.natAbs : Nat) : Int)) M
  | _ => False
theorem cd_gcd {K : PySem.W.Frag} : CallD K rGcd gGcd := by
  intro xs M R H vs Q g m r k
  unfold gGcd at g
  split at g
  · obtain ⟨v, ws, rfl, q, v2, w2, rfl, q2, t⟩ := r
    cases t; cases q; cases q2
    exact ⟨_, _, rfl, kq_keep k m g rfl⟩
  · exact g.elim
/-! ### f(k = v, ..), keywords alone -/
structure PDK (X : Cx) (kws : List Keyword) (t : DA) : Prop where
  pk : PK X kws (liftA X.K t)
theorem PK_imp {kws : List Keyword} {t t' : TA} (h : PK X kws t) (f : ∀ σ H Q, t' σ H Q → t σ H Q) : PK X kws t' := ⟨fun pos pins s σ H Q I q => h.run pos pins s σ H Q I (f _ _ _ q)⟩
theorem pdk_nil : PDK X [] aNil := ⟨PK_imp pk_nil fun σ H Q h => by
  obtain ⟨δ, M, R, S, m, h, k⟩ := h
  exact k [] M [] H h (Ext.refl H) .nil m⟩
theorem pdk_cons {nm : Option Str} {kpos : Pos} {e : Expr} {kws : List Keyword} {te : DE} {t : DA} (ha : PD X e te) (hr : PDK X kws t) : PDK X (⟨nm, e, kpos⟩ :: kws) (aCons te t) := ⟨PK_imp (pk_cons ha.pe hr.pk) fun σ H Q h => by
  obtain ⟨δ, M, R, S, m, h, k⟩ := h
  refine ⟨δ, M, _, S, m, h, fun x M1 v H1 h1 e1 r1 m1 => ?_⟩
  refine ⟨δ, M1, _, S.ext e1, m1, h1, fun xs M2 vs H2 h2 e2 r2 m2 => ?_⟩
  exact k _ M2 _ H2 h2 (e1.trans e2) (.cons (r1.ext e2) r2) m2⟩
/-- the items at these places -/
def permL {α : Type} (is : List Nat) (xs : List α) : List α := is.filterMap fun i => xs[i]?
theorem permL_rel {K : PySem.W.Frag} {H : Hp} {ds : List D} {vs : List V} (r : RVs K H ds vs) : ∀ is : List Nat, RVs K H (permL is ds) (permL is vs)
  | [] => .nil
  | i :: is => by
    unfold permL
    rw [List.filterMap_cons, List.filterMap_cons]
    cases e : ds[i]? with
    | none =>
      have : vs[i]? = none := by
        rw [List.getElem?_eq_none_iff] at e ⊢
        rw [← r.length]; exact e
      rw [this]
      exact permL_rel r is
    | some d =>
      obtain ⟨v, a, b⟩ := r.get e
      rw [a]
      exact .cons b (permL_rel r is)
theorem permL_vals {vs : List V} {us : List Value} (r : Vals vs us) : ∀ is : List Nat, Vals (permL is vs) (permL is us)
  | [] => .nil
  | i :: is => by
    unfold permL
    rw [List.filterMap_cons, List.filterMap_cons]
    cases e : vs[i]? with
    | none =>
      rw [r.none_of e]
      exact permL_vals r is
    | some d =>
      obtain ⟨v, a, b⟩ := r.get e
      rw [a]
      exact .cons b (permL_vals r is)
/-- a def that may be called by these keywords alone -/
structure GFnK (W : Wd) (k : Nat) (x : Str) (ps : List Str) (sp : DSp) (ks : List Str) (is : List Nat) : Prop where
  ex : ∃ f fd, W.mg x = some (.ref f) ∧ DFn W k f fd ps sp ∧ ∀ (s : Shared) (ws : List Value), ws.length = ks.length → BindsTo s fd ⟨[], ks.zip ws⟩ (ps.zip (permL is ws))
def dCallK (sp : DSp) (is : List Nat) (n : Nat) (t : DA) : DE := fun δ M R => t δ M fun ds M1 => ds.length = n ∧ sp (permL is ds) M1 R
theorem pd_callK {x : Str} {ps ks : List Str} {sp : DSp} {is : List Nat} {p pos : Pos} {kws : List Keyword} {t : DA} (F : GFnK W k x ps sp ks is) (hi : In X W k) (hg : Gl X x) (hkw : PDK X kws t)
    (hall : (backToKw pos (keywordEach kws X.env)).all (·.1.isSome) = true := by rfl) (hks : (backToKw pos (keywordEach kws X.env)).filterMap (·.1) = ks := by rfl)
    (hdb : (x == ("__debug__" : Str)) = false := by decide)
    (hpl : ((backTo pos (starEach [] X.env)).any (·.1) || (backToKw pos (keywordEach kws X.env)).any (·.1.isNone)) = false := by rfl) :
    PD X (.Call (.Name x p) [] kws pos) (dCallK sp is ks.length t) := by
  obtain ⟨f, fd, hm, G, hb⟩ := F.ex
  obtain ⟨ok, len, bd, kp⟩ := G
  rw [← hi.P, ← hi.w, ← hi.K, ← hi.mg, ← hi.base] at ok
  rw [← hi.K] at kp
  rw [← hi.mg] at hm
  refine ⟨⟨fun pins s σ H Q I h => ?_⟩⟩
  obtain ⟨δ, M, R, S, m, h, kk⟩ := h
  refine wpAny_Call_Name_kw (ld_glob I hg hm ?_ hdb)
  refine PySem.W.callWith_KW0 (h₀ := X.base) I.ok.mod.kin kp hall (thn (hkw.pk.run pos pins s σ H (fun vs H1 => vs.length = ks.length ∧ liftSp X.K sp (permL is vs) H1 Q E0) I ?_) fun ws s2 ⟨zs, H2, I2, rz, hn, q2⟩ => ⟨I2.kIn, ?_⟩) hpl
  · refine ⟨δ, M, _, S, m, h, fun ds M1 vs H1 h1 e1 r1 m1 => ⟨by rw [← r1.length]; exact h1.1, permL is ds, M1, R, permL_rel r1 is, m1, h1.2, kk.ext e1⟩⟩
  · rw [hks]
    show wpAny _ _ (call (.ref f) [] (ks.zip ws)) _ _ _
    refine wpAny_call (codeAny_mono (ok.run X.A X.stack s2 H2 ⟨[], ks.zip ws⟩ (permL is ws) (permL is zs) Q E0 hi.room I2.env0 (hb s2 ws (by rw [← rz.length]; exact hn)) (permL_vals rz is) q2) fun r s' hq => ?_)
    cases r with
    | error e => exact hq.elim
    | ok fl =>
      cases fl with
      | ret u => exact I2.after hq
      | next => exact False.elim hq
      | brk => exact False.elim hq
      | cont => exact False.elim hq
end
end DD
end
section
namespace DD
open PySem PySem.Spec PyProof.Rows L2 GxR
/-! ### the table of code objects -/
theorem rm_tab {K : PySem.W.Frag} {H H' : Hp} {M : Mem} {P : Addr} (m : RM K H M) (t : M P = some .tbl) (h : Tabbed P H H') : RM K H' M ∧ Ext K H H' := by
  obtain ⟨ps, h1, h2⟩ := m P _ t
  obtain ⟨⟨qs, q1, q2⟩, ne⟩ := h
  have e : Ext K H H' := ⟨fun a xs e => by
    have : a ≠ P := fun z => by rw [z, h1] at e; cases e
    rw [ne a this]; exact e, fun a o xs e => by
    have : a ≠ P := fun z => by rw [z, h1] at e; cases e
    rw [ne a this]; exact e⟩
  refine ⟨fun a o ha => ?_, e⟩
  by_cases hp : a = P
  · subst hp
    rw [t] at ha; cases ha
    exact ⟨qs, q1, q2⟩
  · exact ro_stay e (ne a hp) (m a o ha)
theorem tab_of {K : PySem.W.Frag} {H : Hp} {M : Mem} {P : Addr} (m : RM K H M) (t : M P = some .tbl) : TabG H P := m P _ t
/-- the generator expression's own scope, two names -/
structure GenS2 (env : Env) (scope : Scope) (xa xb : Str) : Prop where
  kind : scope.kind = .function
  co : scope.isCoroutine = false
  cell : ∀ y ∈ scope.names, y.2 ≠ .cell
  dot : scope.names.lookup (".0" : Str) = some NameKind.local
  la : scope.names.lookup xa = some .local
  lb : scope.names.lookup xb = some .local
  ne : xa ≠ xb
  free : ∀ y ∈ scope.names, y.2 = .free → ∃ c, env.cells.lookup y.1 = some c
theorem genS2_plain {env : Env} {scope : Scope} {xa xb : Str} (kind : scope.kind = .function) (co : scope.isCoroutine = false) (cf : ∀ y ∈ scope.names, y.2 ≠ .cell ∧ y.2 ≠ .free) (dot : scope.names.lookup (".0" : Str) = some NameKind.local)
    (la : scope.names.lookup xa = some .local) (lb : scope.names.lookup xb = some .local) (ne : xa ≠ xb) : GenS2 env scope xa xb := ⟨kind, co, fun y hy => (cf y hy).1, dot, la, lb, ne, fun y hy e => absurd e (cf y hy).2⟩
/-- a quiet element over two ints -/
def QE2 (prog : Program) (w : World) (scope : Scope) (xa xb : Str) (e : Expr) (C : Int → Int → Prop) (f : Int → Int → Int) : Prop :=
  ∀ (cenv : Env) (A' : Around) (E' : Value → Shared → Prop) (i n : Int) (t u : Tok) (s₂ : Shared) (m₂ : Str → Option Value), cenv.scope = scope → s₂.heap.Ns cenv.locals m₂ → m₂ xa = some (.int i t) → m₂ xb = some (.int n u) → C i n →
    wpAny (model prog w) A' (eval e cenv) (fun y s₃ => (∃ t, y = .int (f i n) t) ∧ Keeps s₂ s₃) E' s₂
theorem keeps_then {s s1 s2 : Shared} (a : Keeps s s1) (b : Keeps s1 s2) : Keeps s s2 := by
  obtain ⟨h1, t1, rfl, k1⟩ := a
  obtain ⟨h2, t2, rfl, k2⟩ := b
  exact ⟨h2, t2, rfl, fun b o e => k2 b o (k1 b o e)⟩
section
variable {prog : Program} {w : World} {scope : Scope} {xa xb : Str} {pos : Pos}
theorem qe_a {C : Int → Int → Prop} (hk : scope.kind = .function) (hl : scope.names.lookup xa = some .local) (hd : (xa == ("__debug__" : Str)) = false := by decide) : QE2 prog w scope xa xb (.Name xa pos) C (fun i _ => i) := by
  intro cenv A' E' i n t u s₂ m₂ hs hn ha hb _
  exact wpAny_Name (wpAny_loadName_local (by rw [hs]; exact hk) (show cenv.scope.names.lookup xa = some .local by rw [hs]; exact hl) hn ha ⟨⟨t, rfl⟩, keeps_refl _⟩) hd
theorem qe_b {C : Int → Int → Prop} (hk : scope.kind = .function) (hl : scope.names.lookup xb = some .local) (hd : (xb == ("__debug__" : Str)) = false := by decide) : QE2 prog w scope xa xb (.Name xb pos) C (fun _ n => n) := by
  intro cenv A' E' i n t u s₂ m₂ hs hn ha hb _
  exact wpAny_Name (wpAny_loadName_local (by rw [hs]; exact hk) (show cenv.scope.names.lookup xb = some .local by rw [hs]; exact hl) hn hb ⟨⟨u, rfl⟩, keeps_refl _⟩) hd
theorem qe_c {C : Int → Int → Prop} {j : Int} {kk : Nat} : QE2 prog w scope xa xb (.Constant (.int j) kk pos) C (fun _ _ => j) := by
  intro cenv A' E' i n t u s₂ m₂ hs hn ha hb _
  exact wpAny_Constant_int ⟨⟨_, rfl⟩, keeps_tok _ _⟩
theorem qe_add {C : Int → Int → Prop} {a b : Expr} {f g : Int → Int → Int} (ha : QE2 prog w scope xa xb a C f) (hb : QE2 prog w scope xa xb b C g) : QE2 prog w scope xa xb (.BinOp a .Add b pos) C (fun i n => f i n + g i n) := by
  intro cenv A' E' i n t u s₂ m₂ hs hn h1 h2 hc
  refine wpAny_BinOp (wpAny_mono (ha cenv A' E' i n t u s₂ m₂ hs hn h1 h2 hc) (fun x s3 r => ?_) fun _ _ e => e)
  obtain ⟨⟨t3, rfl⟩, k3⟩ := r
  refine wpAny_mono (hb cenv A' E' i n t u s3 m₂ hs (by obtain ⟨h, tk, rfl, kk⟩ := k3; exact hn.keeps kk) h1 h2 hc) (fun y s4 r => ?_) fun _ _ e => e
  obtain ⟨⟨t4, rfl⟩, k4⟩ := r
  exact PySem.P.add_int ⟨⟨_, rfl⟩, keeps_then k3 (keeps_then k4 (keeps_tok _ _))⟩
theorem qe_mul {C : Int → Int → Prop} {a b : Expr} {f g : Int → Int → Int} (ha : QE2 prog w scope xa xb a C f) (hb : QE2 prog w scope xa xb b C g) (hm : ∀ i n, C i n → MulOk (f i n) (g i n)) : QE2 prog w scope xa xb (.BinOp a .Mult b pos) C (fun i n => f i n * g i n) := by
  intro cenv A' E' i n t u s₂ m₂ hs hn h1 h2 hc
  refine wpAny_BinOp (wpAny_mono (ha cenv A' E' i n t u s₂ m₂ hs hn h1 h2 hc) (fun x s3 r => ?_) fun _ _ e => e)
  obtain ⟨⟨t3, rfl⟩, k3⟩ := r
  refine wpAny_mono (hb cenv A' E' i n t u s3 m₂ hs (by obtain ⟨h, tk, rfl, kk⟩ := k3; exact hn.keeps kk) h1 h2 hc) (fun y s4 r => ?_) fun _ _ e => e
  obtain ⟨⟨t4, rfl⟩, k4⟩ := r
  exact PyProof.Rows.mul_int ⟨⟨_, rfl⟩, keeps_then k3 (keeps_then k4 (keeps_tok _ _))⟩ (hm i n hc).ok
end
section
variable {X : Cx} {pins : List (Addr × Obj)} {σ : L2.St} {H : Hp} {s : Shared}
/-- the generator g of ints, ready to be walked -/
def ReadyI (X : Cx) (pins : List (Addr × Obj)) (σ : L2.St) (H1 : Hp) (P : Addr) (n : Nat) (val : Nat → Int) (g : Addr) (s5 : Shared) : Prop :=
  ∃ (fp wr : List Addr) (G : Array GenState → Array GenState → Prop) (F : Nat → Value → Prop) (St : Nat → Shared → Prop),
    WalksS X.prog X.w X.A.in1 g fp wr G n F St ∧ St 0 s5 ∧ (∀ b ∈ fp, b < s5.heap.objs.size) ∧ (∀ i v, F i v → ∃ t, v = .int (val i) t) ∧
    ∀ s', Moved wr G s5 s' → ∃ H2, Tabbed P H1 H2 ∧ Inv X pins σ H2 s'
theorem passing_all (n : Nat) : passing (fun _ => true) n 0 = List.range n := GxR.passing_true n
theorem gen_enumI {c P : Addr} {elt e : Expr} {xa xb : Str} {pa pb pt p ipos gpos : Pos} {kt : Nat} {scope : Scope} {C : Int → Int → Prop} {f : Int → Int → Int} {ta : TA} {k : Nat} {Q' : Value → Shared → Prop} {R : List Int → Hp → Prop}
    (hr : Room k X.A) (TB : TabB X.base X.mg c P) (hcode : X.env.code = .ref c) (S : GenS2 X.env scope xa xb) (hg : Gl X "enumerate") (hm : X.mg "enumerate" = none) (ha : PA X [e] ta) (hel : QE2 X.prog X.w scope xa xb elt C f)
    (hs : ∀ v, genFold (.Call (.Name "enumerate" p) [e] [] ipos) X.env v = pure v) (hse : starEach [e] X.env = [(false, eval e X.env)]) (I : Inv X pins σ H s)
    (h : ta σ H fun vs H1 => ∃ a ns, vs = [V.ref a] ∧ SqT X.K H1 a (ns.map V.int) ∧ TabG H1 P ∧ (∀ (i : Nat) (n : Int), ns[i]? = some n → C (i : Int) n) ∧ R ns H1)
    (hQ : ∀ (ns : List Int) (H1 : Hp) (g : Addr) (s5 : Shared), R ns H1 → ReadyI X pins σ H1 P ns.length (fun i => f (i : Int) (ns.getD i 0)) g s5 → Q' (.ref g) s5) :
    wpAny (model X.prog X.w) X.A (eval (.GeneratorExp elt [⟨.Tuple [.Name xa pa, .Name xb pb] kt pt, .Call (.Name "enumerate" p) [e] [] ipos, [], 0⟩] scope gpos) X.env) Q' X.xe s := by
  refine wpAny_GeneratorExp_walksQT hr.hd S.co (closure_ok S.free) S.cell S.dot S.la S.lb S.ne S.kind (by have := hr.dp; omega) ?_ hs
  refine wpAny_Call_Name_kw (ld_blt I hg hm boot_enumerate (PyProof.Rows.callWith_type1 (thn (ha.run ipos pins s σ H _ I h) fun us s0 ⟨vs, H1, I0, r1, q1⟩ => ?_) hse rfl))
  obtain ⟨a, ns, ex, hq, ⟨ps, hP, ht⟩, hC, q1⟩ := q1
  subst ex
  cases r1 with
  | cons r rr =>
  cases rr
  cases r
  obtain ⟨its, rv, p', hz⟩ := I0.tuple hq
  have p2 : s0.heap.IsTuple a its.toArray := p'
  refine dd_call_enumT p2 fun h1 he hit hsz1 hk1 => wpAny_pyIter_enum he ?_
  have I1 : Inv X pins σ H1 { s0 with heap := h1 } := I0.kept (t' := s0.toks) hk1
  have hPs0 : s0.heap.get? P = some { cls := .none, data := .fields ps } := I0.hok P _ hP
  have hPs : h1.get? P = some { cls := .none, data := .fields ps } := hk1 _ _ hPs0
  have hPlt : P < s0.heap.objs.size := Heap.lt_size hPs0
  have p2' : h1.IsTuple a its.toArray := let ⟨o, q, r⟩ := p2; ⟨o, hk1 _ _ q, r⟩
  have halt : a < s0.heap.objs.size := let ⟨o, q, r⟩ := p2; Heap.lt_size q
  have cd : PySem.W.CodeHd h1 c P := TB.code.keeps fun b u e => hk1 _ _ (I0.bk b u e)
  have lim1 : h1.NoLimit := I1.nolimit
  have hcl0 : cStatics < s0.heap.objs.size := let ⟨_, hns, _⟩ := I0.nolimit; hns.lt
  have hlen : ns.length = its.length := by
    have := rv.length
    simpa using this
  have cont : ∀ (code : Value) (h3 : Heap) (tk : Nat) (ps' : Array Value), Heap.ExtBut P h1 h3 → h1.objs.size ≤ h3.objs.size → h3.get? P = some { cls := .none, data := .fields ps' } → (∃ more, ps' = ps ++ more) → TriplesOk ps'.toList →
      wpAny (model X.prog X.w) X.A (builtinsFor X.env.globals X.env.builtins) (fun bi s₄ =>
        ∃ Ia fp wr n₀ Pt St₀ Mid pz F, Value.ref (s0.heap.objs.size + 1) = .ref Ia ∧ (∀ A' : Around, A'.handled = none → WalksU X.prog X.w A' Ia fp wr n₀ Pt St₀ Mid) ∧ (∀ i vals, Pt i vals → ∃ va vb, vals = #[va, vb]) ∧ St₀ 0 s₄.heap ∧ (∀ b ∈ fp, b < s₄.heap.objs.size) ∧ s₄.heap.NoLimit ∧ cStatics ∉ wr ∧
          (∀ href : Heap, (∀ b o, s₄.heap.get? b = some o → href.get? b = some o) →
            QuietGenT X.prog X.w (genEnv scope (cloFrom X.env.cells scope.names []) s₄.heap.objs.size code bi X.env) xa xb [] elt (List.range s₄.heap.objs.size) wr Pt pz F href) ∧
          (∀ a h₅ tk gs, gs.bare = true → s₄.heap.objs.size < a → h₅.objs.size = a + 1 → (∀ b o, s₄.heap.get? b = some o → h₅.get? b = some o) →
            WalksS X.prog X.w X.A.in4 a (a :: s₄.heap.objs.size :: List.range s₄.heap.objs.size) (s₄.heap.objs.size :: wr) (GenOnlyQ s₄.gens.size) (passing pz n₀ 0).length
              (fun j y => ∃ i, (passing pz n₀ 0)[j]? = some i ∧ F i y) (GenAt X.prog X.w X.A.in4 a s₄.gens.size s₄.heap.objs.size (List.range s₄.heap.objs.size) wr pz n₀ F) →
            GenAt X.prog X.w X.A.in4 a s₄.gens.size s₄.heap.objs.size (List.range s₄.heap.objs.size) wr pz n₀ F 0 { s₄ with gens := s₄.gens.push gs, toks := tk, heap := h₅ } →
            Q' (.ref a) { s₄ with gens := s₄.gens.push gs, toks := tk, heap := h₅ })) X.xe { s0 with heap := h3, toks := tk } := by
    intro code h3 tk ps' hx hsz hP3 hmore ht3
    obtain ⟨bm, ob, e1, e2, e3, e4, e5, e6, e7, e8⟩ := TB.bm
    have hcP : cStatics ≠ P := fun e => by
      obtain ⟨_, hns, _⟩ := I0.nolimit
      obtain ⟨o', es, ep, ho, hd, _⟩ := hns
      rw [e, hPs0] at ho
      cases ho
      cases hd
    have keep3 : ∀ b u, b ≠ P → s0.heap.get? b = some u → h3.get? b = some u := fun b u hb e => hx b u hb (hk1 _ _ e)
    refine wpAny_builtinsFor (m := X.mg) (by rw [I0.ok.glob]; exact ((I0.mod.glob.keeps I0.bk).keeps hk1).extBut hx TB.gP) e1 e2 (keep3 _ _ e4 (I0.bk _ _ e5)) e6 e7 e8 ?_
    have hne : a ≠ s0.heap.objs.size := Nat.ne_of_lt halt
    have WT := fun (A' : Around) (hA : A'.handled = none) => (WalksT.enumerateD (A := A') (dd_drawsT (prog := X.prog) (w := X.w) (A := A'.in1) hA s0.heap.objs.size a hne its.toArray) (s0.heap.objs.size + 1) (Nat.succ_ne_self _) (fun hm => by
      rcases List.mem_cons.mp hm with z | z
      · exact Nat.succ_ne_self _ z
      · have z := List.mem_singleton.mp z
        have z2 : @Eq Nat (s0.heap.objs.size + 1) a := z
        have h2 : @LT.lt Nat _ a s0.heap.objs.size := halt
        omega) (List.mem_cons_self)).toU
    refine ⟨s0.heap.objs.size + 1, _, _, its.toArray.size, _, _, _, (fun _ => true), (fun i y => i < ns.length ∧ ∃ t, y = .int (f (i : Int) (ns.getD i 0)) t), rfl, WT, ?_, ?_, ?_, lim1.extBut hx hcP, ?_, ?_, ?_⟩
    · rintro i vals ⟨t, x, _, rfl⟩
      exact ⟨_, _, rfl⟩
    · have nP1 : s0.heap.objs.size + 1 ≠ P := by
        have h2 : @LT.lt Nat _ P s0.heap.objs.size := hPlt
        intro z
        have z2 : @Eq Nat (s0.heap.objs.size + 1) P := z
        omega
      have nP2 : s0.heap.objs.size ≠ P := by
        have h2 : @LT.lt Nat _ P s0.heap.objs.size := hPlt
        intro z
        have z2 : @Eq Nat s0.heap.objs.size P := z
        omega
      have nP3 : a ≠ P := fun z => by
        obtain ⟨o, q, c1, _⟩ := p2
        rw [z, hPs0] at q
        cases q
        cases c1
      refine ⟨⟨.none, ?_⟩, ?_, ?_⟩
      · exact hx _ _ nP1 he
      · obtain ⟨o, q, r⟩ := hit
        exact ⟨o, hx _ _ nP2 q, r⟩
      · obtain ⟨o, q, r⟩ := p2'
        exact ⟨o, hx _ _ nP3 q, r⟩
    · intro b hb
      have hsz' : (s0.heap.objs.size + 2 : Nat) ≤ h3.objs.size := by rw [← hsz1]; exact hsz
      have ha' : @LT.lt Nat _ a s0.heap.objs.size := halt
      show @LT.lt Nat _ b h3.objs.size
      have hb' : b = s0.heap.objs.size + 1 ∨ b = s0.heap.objs.size ∨ b = a := by simpa using hb
      rcases hb' with z | z | z
      · have z : @Eq Nat b (s0.heap.objs.size + 1) := z
        omega
      · have z : @Eq Nat b s0.heap.objs.size := z
        omega
      · rw [z]; omega
    · intro z
      have z : @Eq Nat cStatics (s0.heap.objs.size + 1) ∨ @Eq Nat cStatics s0.heap.objs.size := by simpa using z
      have h2 : @LT.lt Nat _ cStatics s0.heap.objs.size := hcl0
      omega
    · intro href hhref
      refine ⟨fun A' E' i va vb s₂ m₂ hA hPv hn hma hmb hk => ?_, fun A' E' i va vb s₂ m₂ hA hPv hp hn hma hmb hk => ?_⟩
      · simp only [List.forIn_nil]
        exact wpAny_pure ⟨rfl, keeps_refl _⟩
      · obtain ⟨t, x, hx1, hx2⟩ := hPv
        have e1 : va = .int (i : Int) t := by
          have z := congrArg (fun z : Array Value => z[0]?) hx2
          simpa using z
        have e2 : vb = x := by
          have z := congrArg (fun z : Array Value => z[1]?) hx2
          simpa using z
        subst e1 e2
        have hx1 : its.toArray[i]? = some vb := hx1
        have hi : i < its.length := by
          have := (Array.getElem?_eq_some_iff.mp hx1).1
          simpa using this
        have hi2 : i < ns.length := by rw [hlen]; exact hi
        have hn1 : (ns.map V.int)[i]? = some (.int ns[i]) := by simp [hi2]
        obtain ⟨u, hu, ru⟩ := rv.get hn1
        have e3 : vb = u := by
          have z : its.toArray[i]? = some u := by simpa using hu
          rw [hx1] at z
          exact Option.some.inj z
        obtain ⟨tt, rfl⟩ := ru
        subst e3
        have hg : ns.getD i 0 = ns[i] := by simp [List.getD, hi2]
        exact wpAny_mono (hel _ A' E' (i : Int) ns[i] t tt s₂ m₂ rfl hn hma hmb (hC i _ (List.getElem?_eq_getElem hi2))) (fun y s3 r => ⟨⟨hi2, by rw [hg]; exact r.1⟩, r.2⟩) fun _ _ e => e
    · intro g h5 tk5 gs hgb hag hsz5 hk5 W5 hat
      simp only [passing_all, List.length_range] at W5
      have hsn : its.toArray.size = ns.length := by simp [hlen]
      rw [hsn] at W5 hat
      refine hQ ns H1 g _ q1 ⟨_, _, _, _, _, W5.in4_1, hat, ?_, ?_, fun s' hm => ?_⟩
      · intro b hb
        have hag : @LT.lt Nat _ h3.objs.size g := hag
        show @LT.lt Nat _ b h5.objs.size
        rw [hsz5]
        have hb' : b = g ∨ b = h3.objs.size ∨ b < h3.objs.size := by simpa using hb
        have gg : @LT.lt Nat _ g (g + 1) := Nat.lt_succ_self g
        rcases hb' with z | z | z
        · rw [z]; exact gg
        · rw [z]; exact Nat.lt_trans hag gg
        · exact Nat.lt_trans (Nat.lt_trans z hag) gg
      · rintro i v ⟨j, hj, hF, t, rfl⟩
        obtain ⟨hjl, ej⟩ := List.getElem?_eq_some_iff.mp hj
        rw [List.getElem_range] at ej
        subst ej
        exact ⟨t, rfl⟩
      · obtain ⟨more, em⟩ := hmore
        have nwr : ∀ b u, s0.heap.get? b = some u → b ∉ h3.objs.size :: [s0.heap.objs.size + 1, s0.heap.objs.size] := fun b u e hb => by
          have hl : @LT.lt Nat _ b s0.heap.objs.size := Heap.lt_size e
          have hsz' : (s0.heap.objs.size + 2 : Nat) ≤ h3.objs.size := by rw [← hsz1]; exact hsz
          have hb' : @Eq Nat b h3.objs.size ∨ @Eq Nat b (s0.heap.objs.size + 1) ∨ @Eq Nat b s0.heap.objs.size := by simpa using hb
          have hsz'' : @LE.le Nat _ (s0.heap.objs.size + 2) h3.objs.size := hsz'
          omega
        have J := inv_tab (more := more) (h' := s'.heap) (g' := s'.gens) (d' := s'.drawn) (t' := s'.toks) I0 hP (fun b u hb e => hm.heap b u (nwr b u e) (hk5 b u (keep3 b u hb e)))
          (by rw [← em]; exact hm.heap P _ (nwr P _ hPs0) (hk5 P _ hP3)) (AllBare.movedS (I0.bare.push hgb) hm)
        rw [sh_eta s0 s' hm.os] at J
        refine ⟨upd H1 P (.tbl (ps ++ more)), ⟨⟨ps ++ more, upd_same, by rw [← em]; exact ht3⟩, fun b hb => upd_ne hb⟩, J⟩
  refine ⟨lim1, ?_⟩
  cases hf : codeAmong gpos ps.toList with
  | none =>
    refine wpAny_genexprCodeX hcode (cd.code hPs ht) (cd.tab hPs) hf fun c' h' tk hx hge hlt hco' _ htab' _ => ?_
    obtain ⟨o1, vs, f1, tf, fl, tg, inF, tx, tt, op, _, _, _, _, _, _, _, _, _, htr, _⟩ := hco'
    exact cont _ h' tk _ hx (Nat.le_trans hge (Nat.le_of_lt hlt)) htab'.2 ⟨_, rfl⟩ htr
  | some cv =>
    refine wpAny_genexprCode_hit hcode (cd.code hPs ht) hf ?_
    exact cont cv h1 s0.toks ps (Heap.ExtBut.refl _ _) (Nat.le_refl _) hPs ⟨#[], by simp⟩ ht
/-- sum(elt for i, n in enumerate(tuple of ints)) -/
def sumF (f : Int → Int → Int) (ns : List Int) : Int := preSum (fun i => f (i : Int) (ns.getD i 0)) ns.length
def dSumEnum (P : Addr) (C : Int → Int → Prop) (f : Int → Int → Int) (t : DA) : DE := fun δ M R => t δ M fun ds M1 => match ds with
  | [.tup xs] => M1 P = some .tbl ∧ ∃ ns : List Int, xs = ns.map D.int ∧ (∀ (i : Nat) (n : Int), ns[i]? = some n → C (i : Int) n) ∧
      (∀ j, j < ns.length → InLong (f (j : Int) (ns.getD j 0)) ∧ InLong (preSum (fun i => f (i : Int) (ns.getD i 0)) (j + 1))) ∧ R (.int (sumF f ns)) M1
  | _ => False
theorem pd_sumEnum {c P : Addr} {elt e : Expr} {xa xb : Str} {pa pb pt p sp pos ipos gpos : Pos} {kt : Nat} {scope : Scope} {C : Int → Int → Prop} {f : Int → Int → Int} {t : DA} {k : Nat}
    (hr : Room k X.A) (TB : TabB X.base X.mg c P) (hcode : X.env.code = .ref c) (S : GenS2 X.env scope xa xb) (hgs : Gl X "sum") (hms : X.mg "sum" = none) (hg : Gl X "enumerate") (hm : X.mg "enumerate" = none) (ha : PDA X [e] t) (hel : QE2 X.prog X.w scope xa xb elt C f)
    (hs : ∀ v, genFold (.Call (.Name "enumerate" p) [e] [] ipos) X.env v = pure v := by intro _; rfl) (hse : starEach [e] X.env = [(false, eval e X.env)] := by rfl)
    (he : starEach [.GeneratorExp elt [⟨.Tuple [.Name xa pa, .Name xb pb] kt pt, .Call (.Name "enumerate" p) [e] [] ipos, [], 0⟩] scope gpos] X.env = (false, eval (.GeneratorExp elt [⟨.Tuple [.Name xa pa, .Name xb pb] kt pt, .Call (.Name "enumerate" p) [e] [] ipos, [], 0⟩] scope gpos) X.env) :: starEach [] X.env := by rfl) :
    PD X (.Call (.Name "sum" sp) [.GeneratorExp elt [⟨.Tuple [.Name xa pa, .Name xb pb] kt pt, .Call (.Name "enumerate" p) [e] [] ipos, [], 0⟩] scope gpos] [] pos) (dSumEnum P C f t) := by
  refine ⟨⟨fun pins s σ H Q I h => ?_⟩⟩
  obtain ⟨δ, M, R, S0, m, h, kk⟩ := h
  refine wpAny_Call_Name_kw (ld_blt I hgs hms (by decide +kernel : bootBuiltins "sum" = some (.builtin "sum")) ?_)
  refine PyProof.Rows.callWith_builtin1 ?_ he (by rfl)
  rw [he]
  show wpAny _ _ (spliced ((false, eval (.GeneratorExp elt [⟨.Tuple [.Name xa pa, .Name xb pb] kt pt, .Call (.Name "enumerate" p) [e] [] ipos, [], 0⟩] scope gpos) X.env) :: backTo pos (starEach [] X.env))) _ _ s
  refine Calls.spliced_cons (gen_enumI (R := fun ns H1 => (∀ j, j < ns.length → InLong (f (j : Int) (ns.getD j 0)) ∧ InLong (preSum (fun i => f (i : Int) (ns.getD i 0)) (j + 1))) ∧ ∀ H2, Tabbed P H1 H2 → Q (.int (sumF f ns)) H2) hr TB hcode S hg hm ha.pa hel hs hse I ?_ fun ns H1 g s5 hR hG => ?_)
  · refine ⟨δ, M, _, S0, m, h, fun ds M1 vs H1 h1 e1 r1 m1 => ?_⟩
    split at h1
    · obtain ⟨tb, ns, rfl, hC, hin, hQ⟩ := h1
      obtain ⟨v, ws, rfl, q, t⟩ := r1
      cases t
      obtain ⟨a, vs, rfl, hs, rs⟩ := q
      cases rs.ints
      refine ⟨a, ns, rfl, hs, tab_of m1 tb, hC, hin, fun H2 ht => ?_⟩
      obtain ⟨m2, e2⟩ := rm_tab m1 tb ht
      exact kk _ M1 _ H2 hQ (e1.trans e2) rfl m2
    · exact h1.elim
  · obtain ⟨hin, hR⟩ := hR
    obtain ⟨fp, wr, G, F, St, W, hst, hfp, hval, hI⟩ := hG
    refine Calls.spliced_nil ?_
    refine call_sum_walkS (W.self 0 _ _ _ hst ⟨g, fp, wr, G, ns.length, F, St, _, rfl, W, hst, hfp, hval, hin, fun s' t' hmv => ?_⟩)
    obtain ⟨H2, hT, J⟩ := hI s' hmv
    exact ⟨.int _, H2, J, ⟨t', rfl⟩, hR H2 hT⟩
end
/-! ### a def whose code object is told -/
def BodyC (W : Wd) (k : Nat) (N : List Str) (qual : Str) (sc : Scope) (body : List Stmt) (cdv : Value) (t : DS) : Prop :=
  ∀ (f : Addr) (A : Around) (outer : List Env) (s : Shared) (H : Hp) (E : XK), In (BX W N qual sc f cdv A outer s H E) W k → PDSs (BX W N qual sc f cdv A outer s H E) body t
theorem Body.c {W : Wd} {k : Nat} {N : List Str} {qual : Str} {sc : Scope} {body : List Stmt} {cdv : Value} {t : DS} (h : Body W k N qual sc body t) : BodyC W k N qual sc body cdv t := fun f A outer s H E hi => h f cdv A outer s H E hi
end DD
end
section
namespace DD
open PySem PySem.Spec PyProof.Rows L2
section
variable {X : Cx} {W : Wd} {k : Nat}
theorem In.tab {c P : Addr} (hi : In X W k) (TB : GxR.TabB W.base W.mg c P) : GxR.TabB X.base X.mg c P := by
  rw [hi.base, hi.mg]; exact TB
theorem pd_makeS {x : Str} {C : Addr} {ns ps : List Str} {sp : DSp} {e : Expr} {es : List Expr} {apos pos : Pos} {t : DA} (hk : 0 < k) (F : CFn W (k - 1) x C ns ps sp) (hi : In X W k) (hg : Gl X x) (ha : PDA X (e :: es) t) (hret : ∀ xs M R, sp xs M R → sp xs M fun d M2 => d = .non ∧ R d M2) (hdb : (x == ("__debug__" : Str)) = false := by decide)
    (he : starEach (e :: es) X.env = (false, eval e X.env) :: starEach es X.env := by rfl) (hpl : (backTo pos (starEach es X.env)).any (·.1) = false := by rfl) : PD X (.Call (.Name x apos) (e :: es) [] pos) (dMake C ns sp t) := by
  obtain ⟨j, rfl⟩ : ∃ j, k = j + 1 := ⟨k - 1, by omega⟩
  exact pd_make F hi hg ha hret hdb he hpl
end
/-! ### defs as the head tells them -/
abbrev FnP (K : PySem.W.Frag) (x qual : Str) (st : Stmt) (f : Addr) (fd : FuncData) : Prop := FunD K x qual (defArgs st) (defBody st) (defScope st) [] [] f fd
theorem dfn_mkD {W : Wd} {k : Nat} {x qual : Str} {st : Stmt} {f : Addr} {fd : FuncData} {N ps : List Str} {sp : DSp} (F : FnP W.K x qual st f fd) (S : FnScope N ps (defScope st)) (bd : Binds W.K fd ps [])
    (len : ∀ ds M R, sp ds M R → ds.length = ps.length) (h : ∃ t, BodyC W k N qual (defScope st) (defBody st) fd.code t ∧ ∀ ds M R, sp ds M R → t (endsF R) (startD N ds) M) : DFn W (k + 1) f fd ps sp := by
  obtain ⟨t, hb, hr⟩ := h
  have kp := F.kp
  obtain ⟨oc, od, dV, kV, doc, pm, an, cdv, ct, osl, rfl, lk, hcd, _, _⟩ := F.ex
  refine ⟨fn_of lk hcd S (fun vs H Q E q => ?_) (fun A outer s H vs Q E hroom q => ?_), len, bd, kp⟩
  · obtain ⟨ds, M, R, r, m, h, kk⟩ := q
    rw [← r.length]
    exact len ds M R h
  · refine ⟨_, PSs.nox (hb f A outer s H E ⟨rfl, rfl, rfl, rfl, rfl, hroom⟩).ps, ?_⟩
    obtain ⟨ds, M, R, r, m, h, kk⟩ := q
    refine ⟨_, M, endsF R, start_sl r, m, hr ds M R h, ⟨?_, ?_, ?_, ?_⟩⟩
    · rintro δ M' σ H' ⟨M0, hs, q⟩ e S' m'
      exact kk .non M0 .non H' q e rfl (rm_sub m' hs)
    · intro δ M' σ H' q
      exact q.elim
    · intro δ M' σ H' q
      exact q.elim
    · rintro d M' v H' ⟨M0, hs, q⟩ e rv m'
      exact kk d M0 v H' q e rv (rm_sub m' hs)
/-! ### the end of a law -/
/-- the promise of law: the script comes, True goes -/
def spLaw (tabs : List Addr) : DSp := fun ds M R => ∃ (d : D) (cells : List Int), ds = [d] ∧ itemsD M d = some (cells.map D.int) ∧ isSc M d ∧ cells.length ≤ 63 ∧ (∀ z ∈ cells, Builtin.Int.intBits z ≤ 1048576) ∧ (∀ p ∈ tabs, M p = some .tbl) ∧ ∀ M', R (.bl true) M'
where isSc (M : Mem) : D → Prop
  | .rol _ => True
  | .ref a => ∃ xs, M a = some (.lst xs)
  | _ => False
theorem spLaw_ok {K : PySem.W.Frag} {H : Hp} {a : Addr} {ns : List Int} {tabs : List Addr} (hl : ns.length ≤ 63) (hb : ∀ z ∈ ns, Builtin.Int.intBits z ≤ 1048576) (hT : ∀ p ∈ tabs, H p = some (.tbl #[])) (hS : SqL K H a (ns.map V.int)) :
    liftSp K (spLaw tabs) [.ref a] H (fun v _ => v = .bl true) fun _ _ _ => False := by
  have ro : ∀ b, b ∈ tabs → RO K H b .tbl := fun b hb => ⟨#[], hT b hb, trivial⟩
  rcases hS with (hS | ⟨u, hS⟩) | hS
  · have na : a ∉ tabs := fun z => by
      have := hT a z
      rw [hS] at this
      cases this
    refine ⟨[.ref a], fun b => if b = a then some (.lst (ns.map D.int)) else if b ∈ tabs then some .tbl else none, fun d _ => d = .bl true, .cons rfl .nil, fun b o h => ?_, ⟨.ref a, ns, rfl, ?_, ⟨_, if_pos rfl⟩, hl, hb, fun p hp => ?_, fun _ => rfl⟩, ?_⟩
    · by_cases z : b = a
      · simp only [if_pos z] at h
        cases h
        rw [z]
        exact ⟨_, hS, RVs.of_ints ns⟩
      · simp only [if_neg z] at h
        by_cases z2 : b ∈ tabs
        · rw [if_pos z2] at h
          cases h
          exact ro b z2
        · rw [if_neg z2] at h
          cases h
    · show (match (if a = a then some (MO.lst (ns.map D.int)) else _) with
        | some (.lst xs) => some xs
        | _ => none) = _
      rw [if_pos rfl]
    · have z : p ≠ a := fun e => na (e ▸ hp)
      show (if p = a then _ else if p ∈ tabs then _ else _) = _
      rw [if_neg z, if_pos hp]
    · rintro d M' v H' rfl e rv m'
      exact rv
  all_goals
    have hR : RoL K H a (ns.map V.int) := by
      first
        | exact .inl ⟨u, hS⟩
        | exact .inr hS
    refine ⟨[.rol (ns.map D.int)], fun b => if b ∈ tabs then some .tbl else none, fun d _ => d = .bl true, .cons ⟨a, _, rfl, hR, RVs.of_ints ns⟩ .nil, fun b o h => ?_, ⟨.rol (ns.map D.int), ns, rfl, rfl, trivial, hl, hb, fun p hp => if_pos hp, fun _ => rfl⟩, ?_⟩
    · by_cases z2 : b ∈ tabs
      · simp only [if_pos z2] at h
        cases h
        exact ro b z2
      · simp only [if_neg z2] at h
        cases h
    · rintro d M' v H' rfl e rv m'
      exact rv
/-- what the law's text gives: from the head's facts, the def of law -/
theorem lawAt {l : PySem.W.OpenLaw} {w : World} {K : PySem.W.Frag} {mg : Str → Option Value} {fa : Addr} {h : Heap} {k : Nat} {fd : FuncData} {x : Str} {fs : List He.Fa} {fn : List He.DefD} {tf : List He.Defn} {ex : PySem.W.Frag → Bool}
    (Y : He.SaysX fs fn [] tf ex w h K) (hKin : K.In h) (hb : ∀ (s : Shared) (u : Value), BindsTo s fd ⟨[u], []⟩ [(x, u)])
    (F : ∀ base : Heap, K.In base → base.Ns mainGlobals mg → (∀ p ∈ tf, GxR.TabB base mg (He.cT K p).1 (He.cT K p).2) → DFn ⟨l.prog, w, K, mg, base⟩ k fa fd [x] (spLaw (tf.map fun p => (He.cT K p).2))) :
    LamX.LawAtS l w K CX0 k 63 x mg fa h := by
  refine ⟨fd, tf.map (He.cT K), liftSp K (spLaw (tf.map fun p => (He.cT K p).2)), fun p hp => ?_, fun p hp => ?_, fun p hp => ?_, hb, fun H a ns hl hbits hT hS => ?_, fun base hKb hN hTB => ?_⟩
  · obtain ⟨q, hq, rfl⟩ := List.mem_map.mp hp
    exact Y.empty q hq
  · obtain ⟨q, hq, rfl⟩ := List.mem_map.mp hp
    exact Y.out q hq
  · obtain ⟨q, hq, rfl⟩ := List.mem_map.mp hp
    exact PySem.W.codeHd_of_K hKin (Y.hd q hq)
  · refine spLaw_ok hl hbits (fun p hp => ?_) hS
    obtain ⟨q, hq, rfl⟩ := List.mem_map.mp hp
    exact hT _ (List.mem_map_of_mem hq)
  · have z := F base hKb hN fun p hp => have q := hTB _ (List.mem_map_of_mem hp); ⟨q.code, q.bm, q.gP⟩
    exact z.ok
end DD
end
section
namespace DD
open PySem PySem.Spec PyProof.Rows L2
/-! ### readings, unfolded by simp -/
section
variable {δ : DSt} {M : Mem} {R : DK} {RT : Bool → Mem → Prop} {RA : List D → Mem → Prop} {E : DEnds}
@[simp] theorem eq_dVar {i : Nat} : dVar i δ M R = (match δ[i]? with
  | some (some d) => R d M
  | _ => False) := propext Iff.rfl
@[simp] theorem eq_dC {d : D} : dC d δ M R = R d M := propext Iff.rfl
@[simp] theorem eq_dBin {g : D2} {ta tb : DE} : dBin g ta tb δ M R = ta δ M fun x M1 => tb δ M1 fun y M2 => g x y M2 R := propext Iff.rfl
@[simp] theorem eq_dUn {g : D1} {ta : DE} : dUn g ta δ M R = ta δ M fun x M1 => g x M1 R := propext Iff.rfl
@[simp] theorem eq_dTest {t : DE} : dTest t δ M RT = t δ M fun d M1 => (match d with
  | .bl b => RT b M1
  | _ => False) := propext Iff.rfl
@[simp] theorem eq_gI {C : Int → Int → Prop} {f : Int → Int → D} {i j : Int} : gI C f (.int i) (.int j) M R = (C i j ∧ R (f i j) M) := propext Iff.rfl
@[simp] theorem eq_gI0 {f : Int → Int → D} {i j : Int} : gI0 f (.int i) (.int j) M R = R (f i j) M := propext Iff.rfl
@[simp] theorem eq_gAddii {i j : Int} : gAdd (.int i) (.int j) M R = R (.int (i + j)) M := propext Iff.rfl
@[simp] theorem eq_gAddtt {xs ys : List D} : gAdd (.tup xs) (.tup ys) M R = (xs.length + ys.length ≤ sizeLine ∧ R (.tup (xs ++ ys)) M) := propext Iff.rfl
@[simp] theorem eq_gAddll {a b : Addr} : gAdd (.ref a) (.ref b) M R = (match M a, M b with
    | some (.lst xs), some (.lst ys) => xs.length + ys.length ≤ sizeLine ∧ ∀ p, M p = none → R (.ref p) (updM M p (.lst (xs ++ ys)))
    | _, _ => False) := propext Iff.rfl
@[simp] theorem eq_gNeg {i : Int} : gNeg (.int i) M R = R (.int (-i)) M := propext Iff.rfl
@[simp] theorem eq_gEqii {i j : Int} : gEq (.int i) (.int j) M R = R (.bl (decide (i = j))) M := by
  show (true = true ∧ true = true ∧ R (.bl (PyData.eqv (.int i) (.int j))) M) = _
  have : PyData.eqv (.int i) (.int j) = decide (i = j) := by
    unfold PyData.eqv
    exact Bool.eq_iff_iff.mpr (by simp)
  rw [this]; simp
@[simp] theorem eq_gNeii {i j : Int} : gNe (.int i) (.int j) M R = R (.bl (!decide (i = j))) M := by
  show (true = true ∧ true = true ∧ R (.bl (!PyData.eqv (.int i) (.int j))) M) = _
  have : PyData.eqv (.int i) (.int j) = decide (i = j) := by
    unfold PyData.eqv
    exact Bool.eq_iff_iff.mpr (by simp)
  rw [this]; simp
@[simp] theorem eq_gIsN {d : D} : gIsN d .non M R = R (.bl (isNon d)) M := propext Iff.rfl
@[simp] theorem eq_gNotN {d : D} : gNotN d .non M R = R (.bl (!isNon d)) M := propext Iff.rfl
@[simp] theorem eq_aNil : aNil δ M RA = RA [] M := propext Iff.rfl
@[simp] theorem eq_aCons {ta : DE} {tr : DA} : aCons ta tr δ M RA = ta δ M fun x M1 => tr δ M1 fun xs M2 => RA (x :: xs) M2 := propext Iff.rfl
@[simp] theorem eq_dTup {t : DA} : dTup t δ M R = t δ M fun xs M1 => xs.length ≤ sizeLine ∧ R (.tup xs) M1 := propext Iff.rfl
@[simp] theorem eq_dLst {t : DA} : dLst t δ M R = t δ M fun xs M1 => xs.length ≤ sizeLine ∧ ∀ p, M1 p = none → R (.ref p) (updM M1 p (.lst xs)) := propext Iff.rfl
@[simp] theorem eq_gIxt {xs : List D} {i : Int} : gIx (.tup xs) (.int i) M R = (match atI xs i with
    | some d => R d M
    | none => False) := propext Iff.rfl
@[simp] theorem eq_gIxr {xs : List D} {i : Int} : gIx (.rol xs) (.int i) M R = (match atI xs i with
    | some d => R d M
    | none => False) := propext Iff.rfl
@[simp] theorem eq_gIxl {a : Addr} {i : Int} : gIx (.ref a) (.int i) M R = (match M a with
    | some (.lst xs) => (match atI xs i with
      | some d => R d M
      | none => False)
    | _ => False) := propext Iff.rfl
@[simp] theorem eq_gIxs {z : Str} {i : Int} : gIx (.str z) (.int i) M R = (match atI z.cps.toList i with
    | some c => z.length ≤ sizeLine ∧ R (.str ⟨#[c]⟩) M
    | none => False) := propext Iff.rfl
@[simp] theorem eq_dCB {g : DC1} {t : DA} : dCB g t δ M R = t δ M fun xs M1 => g xs M1 R := propext Iff.rfl
@[simp] theorem eq_gLent {xs : List D} : gLen [.tup xs] M R = R (.int xs.length) M := propext Iff.rfl
@[simp] theorem eq_gLenr {xs : List D} : gLen [.rol xs] M R = R (.int xs.length) M := propext Iff.rfl
@[simp] theorem eq_gLenl {a : Addr} : gLen [.ref a] M R = (match M a with
    | some (.lst xs) => R (.int xs.length) M
    | _ => False) := by
  show (match (match M a with
      | some (.lst xs) => some xs
      | _ => none) with
    | some ys => R (.int (List.length ys)) M
    | none => False) = _
  cases M a with
  | none => rfl
  | some o => cases o <;> rfl
@[simp] theorem eq_gLens {z : Str} : gLen [.str z] M R = (z.length ≤ sizeLine ∧ R (.int z.length) M) := propext Iff.rfl
@[simp] theorem eq_gAbs {i : Int} : gAbs [.int i] M R = R (.int (if i < 0 then -i else i)) M := propext Iff.rfl
@[simp] theorem eq_gInti {i : Int} : gInt [.int i] M R = R (.int i) M := propext Iff.rfl
@[simp] theorem eq_gMax2 {i j : Int} : gMax2 [.int i, .int j] M R = R (.int (if j > i then j else i)) M := propext Iff.rfl
@[simp] theorem eq_gMin2 {i j : Int} : gMin2 [.int i, .int j] M R = R (.int (if j < i then j else i)) M := propext Iff.rfl
@[simp] theorem eq_gGcd {a b : Int} : gGcd [.int a, .int b] M R = R (.int ((Nat.gcd a.natAbs b.natAbs : Nat) : Int)) M := propext Iff.rfl
@[simp] theorem items_ref {a : Addr} : itemsD M (.ref a) = (match M a with
      | some (.lst xs) => some xs
      | _ => none) := rfl
@[simp] theorem items_tup {xs : List D} : itemsD M (.tup xs) = some xs := rfl
@[simp] theorem items_rol {xs : List D} : itemsD M (.rol xs) = some xs := rfl
@[simp] theorem eq_gTuple {d : D} : gTuple [d] M R = (match itemsD M d with
    | some ys => ∃ M0, Sub M0 M ∧ R (.tup ys) M0
    | none => False) := propext Iff.rfl
@[simp] theorem eq_gList {d : D} : gList [d] M R = (match itemsD M d with
    | some ys => ∀ p, M p = none → R (.ref p) (updM M p (.lst ys))
    | none => False) := propext Iff.rfl
@[simp] theorem eq_dBM {ty : D → Mem → Prop} {g : DM} {to : DE} {t : DA} : dBM ty g to t δ M R = to δ M fun x M1 => ty x M1 ∧ t δ M1 fun xs M2 => g x xs M2 R := propext Iff.rfl
@[simp] theorem eq_dBM0 {ty : D → Mem → Prop} {g : DM} {to : DE} : dBM0 ty g to δ M R = to δ M fun x M1 => ty x M1 ∧ g x [] M1 R := propext Iff.rfl
@[simp] theorem onLst_at {a : Addr} {Q : Addr → List D → Prop} : onLst (.ref a) M Q = (match M a with
    | some (.lst xs) => Q a xs
    | _ => False) := propext Iff.rfl
@[simp] theorem isLst_at {a : Addr} : isLst (.ref a) M = (match M a with
    | some (.lst _) => True
    | _ => False) := propext Iff.rfl
@[simp] theorem eq_gAppend {x y : D} : gAppend x [y] M R = onLst x M fun a xs => xs.length < sizeLine ∧ R .non (updM M a (.lst (xs ++ [y]))) := propext Iff.rfl
@[simp] theorem eq_gReverse {x : D} : gReverse x [] M R = onLst x M fun a xs => R .non (updM M a (.lst xs.reverse)) := propext Iff.rfl
@[simp] theorem eq_gPop {x : D} : gPop x [] M R = onLst x M fun a xs => (match xs[xs.length - 1]? with
    | some y => R y (updM M a (.lst xs.dropLast))
    | none => False) := propext Iff.rfl
@[simp] theorem eq_dTru {t : DE} : dTru t δ M RT = t δ M fun d M1 => (match truD M1 d with
  | some b => RT b M1
  | none => False) := propext Iff.rfl
@[simp] theorem eq_dAnd {t u : DT} : dAnd t u δ M RT = t δ M fun b M1 => if b = true then u δ M1 RT else RT false M1 := propext Iff.rfl
@[simp] theorem eq_dOr {t u : DT} : dOr t u δ M RT = t δ M fun b M1 => if b = true then RT true M1 else u δ M1 RT := propext Iff.rfl
@[simp] theorem eq_dNot {t : DT} : dNot t δ M RT = t δ M fun b M1 => RT (!b) M1 := propext Iff.rfl
@[simp] theorem eq_dIf {t : DT} {ta tb : DE} : dIf t ta tb δ M R = t δ M fun b M1 => if b = true then ta δ M1 R else tb δ M1 R := propext Iff.rfl
@[simp] theorem eq_dAndV {ta tb : DE} : dAndV ta tb δ M R = ta δ M fun d M1 => (match truD M1 d with
  | some true => tb δ M1 R
  | some false => R d M1
  | none => False) := propext Iff.rfl
@[simp] theorem eq_dOrV {ta tb : DE} : dOrV ta tb δ M R = ta δ M fun d M1 => (match truD M1 d with
  | some true => R d M1
  | some false => tb δ M1 R
  | none => False) := propext Iff.rfl
@[simp] theorem eq_dNotV {ta : DE} : dNotV ta δ M R = ta δ M fun d M1 => (match truD M1 d with
  | some b => R (.bl (!b)) M1
  | none => False) := propext Iff.rfl
@[simp] theorem eq_sNext : sNext E δ M = E.nx δ M := propext Iff.rfl
@[simp] theorem eq_sSeq {t u : DS} : sSeq t u E δ M = t { E with nx := u E } δ M := propext Iff.rfl
@[simp] theorem eq_sDrop {te : DE} : sDrop te E δ M = te δ M fun _ M1 => E.nx δ M1 := propext Iff.rfl
@[simp] theorem eq_sRet {te : DE} : sRet te E δ M = te δ M E.rt := propext Iff.rfl
@[simp] theorem eq_sRetN : sRetN E δ M = E.rt .non M := propext Iff.rfl
@[simp] theorem eq_sIf {c : DT} {t u : DS} : sIf c t u E δ M = c δ M fun b M1 => if b = true then t E δ M1 else u E δ M1 := propext Iff.rfl
@[simp] theorem eq_sBreak : sBreak E δ M = E.bk δ M := propext Iff.rfl
@[simp] theorem eq_sCont : sCont E δ M = E.ct δ M := propext Iff.rfl
@[simp] theorem eq_gNm {i : Nat} {d : D} {Q : DSt → Mem → Prop} : gNm i d δ M Q = Q (δ.set i (some d)) M := propext Iff.rfl
@[simp] theorem eq_gsNil {Q : DSt → Mem → Prop} : gsNil [] δ M Q = Q δ M := propext Iff.rfl
@[simp] theorem eq_gsCons {t : DG} {u : DGs} {d : D} {r : List D} {Q : DSt → Mem → Prop} : gsCons t u (d :: r) δ M Q = t d δ M fun δ' M' => u r δ' M' Q := propext Iff.rfl
@[simp] theorem eq_gUnp {n : Nat} {t : DGs} {d : D} {Q : DSt → Mem → Prop} : gUnp n t d δ M Q = (match itemsD M d with
  | some xs => xs.length = n ∧ t xs δ M Q
  | none => False) := propext Iff.rfl
@[simp] theorem eq_gSetL {x z : D} {i : Int} {Q : Mem → Prop} : gSetL x (.int i) z M Q = onLst x M fun a xs => (match ixN xs.length i with
    | some j => Q (updM M a (.lst (xs.set j z)))
    | none => False) := propext Iff.rfl
@[simp] theorem eq_gSubD {to ti : DE} {t : DSet} {d : D} {Q : DSt → Mem → Prop} : gSubD to ti t d δ M Q = to δ M fun o M1 => ti δ M1 fun i M2 => t o i d M2 fun M3 => Q δ M3 := propext Iff.rfl
@[simp] theorem eq_sAsg {te : DE} {g : DG} : sAsg te g E δ M = te δ M fun d M1 => g d δ M1 E.nx := propext Iff.rfl
@[simp] theorem eq_sPar {i j : Nat} {t : DA} : sPar i j t E δ M = t δ M fun ds M1 => (match ds with
  | [v, w] => E.nx ((δ.set i (some v)).set j (some w)) M1
  | _ => False) := propext Iff.rfl
@[simp] theorem eq_sAug {i : Nat} {te : DE} {g : DIp} : sAug i te g E δ M = (match δ[i]? with
  | some (some x) => te δ M fun y M1 => g x y M1 fun z M2 => E.nx (δ.set i (some z)) M2
  | _ => False) := propext Iff.rfl
@[simp] theorem eq_dCall {sp : DSp} {t : DA} : dCall sp t δ M R = t δ M fun ds M1 => sp ds M1 R := propext Iff.rfl
@[simp] theorem eq_dCallK {sp : DSp} {is : List Nat} {n : Nat} {t : DA} : dCallK sp is n t δ M R = t δ M fun ds M1 => ds.length = n ∧ sp (permL is ds) M1 R := propext Iff.rfl
@[simp] theorem onIns_at {C a : Addr} {ns : List Str} {Q : Addr → List D → Prop} : onIns C ns (.ref a) M Q = (match M a with
    | some (.ins C' ns' ds) => C' = C ∧ ns' = ns ∧ Q a ds
    | _ => False) := propext Iff.rfl
@[simp] theorem eq_dFld {C : Addr} {ns : List Str} {i : Nat} {t : DE} : dFld C ns i t δ M R = t δ M fun d M1 => onIns C ns d M1 fun _ ds => (match ds[i]? with
  | some v => R v M1
  | none => False) := propext Iff.rfl
@[simp] theorem eq_sFldD {C : Addr} {ns : List Str} {i : Nat} {to tv : DE} : sFldD C ns i to tv E δ M = tv δ M fun y M1 => to δ M1 fun x M2 => onIns C ns x M2 fun a ds => i ≤ ds.length ∧ E.nx δ (updM M2 a (.ins C ns (putD i y ds))) := propext Iff.rfl
@[simp] theorem eq_sFldAugD {C : Addr} {ns : List Str} {i : Nat} {to tv : DE} {g : DIp} : sFldAugD C ns i to tv g E δ M = to δ M fun x M1 => onIns C ns x M1 fun a ds => (match ds[i]? with
  | some v => tv δ M1 fun y M2 => g v y M2 fun z M3 => onIns C ns x M3 fun a ds => i ≤ ds.length ∧ E.nx δ (updM M3 a (.ins C ns (putD i z ds)))
  | none => False) := propext Iff.rfl
@[simp] theorem eq_dMeth {C : Addr} {ns : List Str} {sp : DSp} {to : DE} {t : DA} : dMeth C ns sp to t δ M R = to δ M fun x M1 => onIns C ns x M1 fun _ _ => t δ M1 fun xs M2 => sp (x :: xs) M2 R := propext Iff.rfl
@[simp] theorem eq_dMake {C : Addr} {ns : List Str} {sp : DSp} {t : DA} : dMake C ns sp t δ M R = t δ M fun xs M1 => ∀ p, M1 p = none → sp (.ref p :: xs) (updM M1 p (.ins C ns [])) fun _ M2 => R (.ref p) M2 := propext Iff.rfl
@[simp] theorem eq_rt {R' : DK} {d : D} : (endsF R').rt d M = ∃ M0, Sub M0 M ∧ R' d M0 := propext Iff.rfl
@[simp] theorem eq_nx {R' : DK} : (endsF R').nx δ M = ∃ M0, Sub M0 M ∧ R' .non M0 := propext Iff.rfl
@[simp] theorem eq_startD {N : List Str} {ds : List D} : startD N ds = ds.map some ++ List.replicate (N.length - ds.length) none := rfl
@[simp] theorem updM_at {a b : Addr} {o : MO} : updM M a o b = if b = a then some o else M b := rfl
end
/-! ### the values at places -/
theorem atI_nat {α : Type} {xs : List α} {i : Int} {d : α} (h0 : 0 ≤ i) (h : xs[i.toNat]? = some d) : atI xs i = some d := by
  unfold atI ixN
  have hi : i.toNat < xs.length := (List.getElem?_eq_some_iff.mp h).1
  rw [if_pos h0, if_pos (by omega)]
  exact h
theorem ixN_nat {n : Nat} {i : Int} (h0 : 0 ≤ i) (h : i < n) : ixN n i = some i.toNat := by
  unfold ixN
  rw [if_pos h0, if_pos h]
end DD
end
section
namespace DD
open PySem PySem.Spec PyProof.Rows L2
/-! ### comprehensions and loops that leave the memory alone -/
def LcIn (g : DG) (tt : DT) (te : DE) (vs : List Nat) (δ : DSt) (R : DK) (ds : List D) (ok : Mem → Prop) (M1 : Mem) : Prop := ∀ p, M1 p = none → ∃ W : Nat → List D → Mem → Prop, W 0 [] M1 ∧
  (∀ i acc M, W i acc M → ok (updM M p (.lst acc))) ∧
  (∀ i x acc M, ds[i]? = some x → W i acc M → acc.length < sizeLine ∧ g x (wipeD δ vs) (updM M p (.lst acc)) fun δ2 M2 => tt δ2 M2 fun b M3 =>
    if b = true then te δ2 M3 fun y M4 => ∃ M5, M4 = updM M5 p (.lst acc) ∧ W (i + 1) (acc ++ [y]) M5 else ∃ M5, M3 = updM M5 p (.lst acc) ∧ W (i + 1) acc M5) ∧
  ∀ acc M, W ds.length acc M → R (.ref p) (updM M p (.lst acc))
@[simp] theorem eq_dLc {di : DI} {g : DG} {tt : DT} {te : DE} {vs : List Nat} {δ : DSt} {M : Mem} {R : DK} : dLc di g tt te vs δ M R = di δ M (LcIn g tt te vs δ R) := propext Iff.rfl
@[simp] theorem eq_iSeq {te : DE} {δ : DSt} {M : Mem} {Q : List D → (Mem → Prop) → Mem → Prop} : iSeq te δ M Q = te δ M fun d M1 => (match srcD M1 d with
  | some (xs, ok) => Q xs ok M1
  | none => False) := propext Iff.rfl
@[simp] theorem eq_srct {M : Mem} {xs : List D} : srcD M (.tup xs) = some (xs, fun _ => True) := rfl
@[simp] theorem eq_srcr {M : Mem} {xs : List D} : srcD M (.rol xs) = some (xs, fun _ => True) := rfl
@[simp] theorem eq_srcl {M : Mem} {a : Addr} : srcD M (.ref a) = (match M a with
    | some (.lst xs) => some (xs, fun M' => M' a = some (.lst xs))
    | _ => none) := rfl
@[simp] theorem eq_iRange1 {t : DA} {δ : DSt} {M : Mem} {Q : List D → (Mem → Prop) → Mem → Prop} : iRange1 t δ M Q = t δ M fun ds M1 => (match ds with
  | [.int j] => (-(2 ^ 62) ≤ j ∧ j < 2 ^ 62) ∧ Q (rangeD 0 j.toNat) (fun _ => True) M1
  | _ => False) := propext Iff.rfl
@[simp] theorem eq_iRange2 {t : DA} {δ : DSt} {M : Mem} {Q : List D → (Mem → Prop) → Mem → Prop} : iRange2 t δ M Q = t δ M fun ds M1 => (match ds with
  | [.int i, .int j] => (-(2 ^ 62) ≤ i ∧ i < 2 ^ 62 ∧ -(2 ^ 62) ≤ j ∧ j < 2 ^ 62) ∧ Q (rangeD i (j - i).toNat) (fun _ => True) M1
  | _ => False) := propext Iff.rfl
@[simp] theorem eq_tYesD {δ : DSt} {M : Mem} {Q : Bool → Mem → Prop} : tYesD δ M Q = Q true M := propext Iff.rfl
def ForIn (g : DG) (tb : DS) (E : DEnds) (δ : DSt) (ds : List D) (ok : Mem → Prop) (M1 : Mem) : Prop := ∃ W : Nat → DSt → Mem → Prop, W 0 δ M1 ∧ (∀ i δ M, i ≤ ds.length → W i δ M → ok M) ∧
  (∀ i x δ M, ds[i]? = some x → W i δ M → g x δ M fun δ2 M2 => tb { E with nx := W (i + 1), ct := W (i + 1), bk := E.nx } δ2 M2) ∧ ∀ δ M, W ds.length δ M → E.nx δ M
@[simp] theorem eq_sFor {di : DI} {g : DG} {tb : DS} {E : DEnds} {δ : DSt} {M : Mem} : sFor di g tb E δ M = di δ M (ForIn g tb E δ) := propext Iff.rfl
theorem lc_fm {g : DG} {tt : DT} {te : DE} {vs : List Nat} {δ : DSt} {R : DK} {ds : List D} {ok : Mem → Prop} {M1 : Mem} (f : D → Option D) (hl : ds.length ≤ sizeLine) (hok : ∀ p acc, M1 p = none → ok (updM M1 p (.lst acc)))
    (step : ∀ (x : D) (p : Addr) (acc : List D) (RY : D → Mem → Prop) (RN : Mem → Prop), x ∈ ds → M1 p = none → (∀ y, f x = some y → RY y (updM M1 p (.lst acc))) → (f x = none → RN (updM M1 p (.lst acc))) →
      g x (wipeD δ vs) (updM M1 p (.lst acc)) fun δ2 M2 => tt δ2 M2 fun b M3 => if b = true then te δ2 M3 RY else RN M3)
    (hR : ∀ p, M1 p = none → R (.ref p) (updM M1 p (.lst (ds.filterMap f)))) : LcIn g tt te vs δ R ds ok M1 := by
  intro p hp
  refine ⟨fun i acc M => M = M1 ∧ acc = (ds.take i).filterMap f, ⟨rfl, by simp⟩, ?_, ?_, ?_⟩
  · rintro i acc M ⟨rfl, rfl⟩
    exact hok p _ hp
  · rintro i x acc M hx ⟨rfl, rfl⟩
    have hi : i < ds.length := (List.getElem?_eq_some_iff.mp hx).1
    refine ⟨?_, step x p _ _ _ (List.mem_of_getElem? hx) hp ?_ ?_⟩
    · have h1 := List.length_filterMap_le f (ds.take i)
      rw [List.length_take] at h1
      omega
    · intro y hy
      refine ⟨_, rfl, rfl, ?_⟩
      rw [List.take_add_one, hx, List.filterMap_append]
      simp [hy]
    · intro hy
      refine ⟨_, rfl, rfl, ?_⟩
      rw [List.take_add_one, hx, List.filterMap_append]
      simp [hy]
  · rintro acc M ⟨rfl, rfl⟩
    rw [List.take_length]
    exact hR p hp
theorem lc_map {g : DG} {te : DE} {vs : List Nat} {δ : DSt} {R : DK} {ds : List D} {ok : Mem → Prop} {M1 : Mem} (f : D → D) (hl : ds.length ≤ sizeLine) (hok : ∀ p acc, M1 p = none → ok (updM M1 p (.lst acc)))
    (step : ∀ (x : D) (p : Addr) (acc : List D) (RY : D → Mem → Prop), x ∈ ds → M1 p = none → RY (f x) (updM M1 p (.lst acc)) → g x (wipeD δ vs) (updM M1 p (.lst acc)) fun δ2 M2 => te δ2 M2 RY)
    (hR : ∀ p, M1 p = none → R (.ref p) (updM M1 p (.lst (ds.map f)))) : LcIn g tYesD te vs δ R ds ok M1 := by
  refine lc_fm (fun x => some (f x)) hl hok (fun x p acc RY RN hx hp h1 h2 => ?_) (fun p hp => ?_)
  · simpa using step x p acc RY hx hp (h1 _ rfl)
  · have e : ds.filterMap (fun x => some (f x)) = ds.map f := by simp
    rw [e]
    exact hR p hp
/-- a loop over a list in which the memory and the slots go by W -/
theorem for_in {g : DG} {tb : DS} {E : DEnds} {δ : DSt} {ds : List D} {ok : Mem → Prop} {M1 : Mem} (W : Nat → DSt → Mem → Prop) (h0 : W 0 δ M1) (hok : ∀ i δ M, i ≤ ds.length → W i δ M → ok M)
    (step : ∀ i x δ M, ds[i]? = some x → W i δ M → g x δ M fun δ2 M2 => tb { E with nx := W (i + 1), ct := W (i + 1), bk := E.nx } δ2 M2) (done : ∀ δ M, W ds.length δ M → E.nx δ M) : ForIn g tb E δ ds ok M1 := ⟨W, h0, hok, step, done⟩
/-! ### the bag of numbers that laws draw from -/
structure Bag (M : Mem) (b g c : Addr) (N : Nat) : Prop where
  ex : ∃ (z n : Int) (gs cs : List Int), M b = some (.lst [.int z, .int n, .ref g, .ref c]) ∧ M g = some (.lst (gs.map D.int)) ∧ M c = some (.lst (cs.map D.int)) ∧
    0 ≤ z ∧ 0 ≤ n ∧ n ≤ N ∧ (∀ x ∈ gs, 0 ≤ x) ∧ cs ≠ [] ∧ (∀ x ∈ cs, 0 ≤ x ∧ x < 2147483647)
  bg : b ≠ g
  bc : b ≠ c
  gc : g ≠ c
/-- all but the bag's parts is as it was -/
def SameBut (b g : Addr) (M M' : Mem) : Prop := ∀ a, a ≠ b → a ≠ g → M' a = M a
theorem SameBut.refl {b g : Addr} (M : Mem) : SameBut b g M M := fun _ _ _ => rfl
theorem SameBut.trans {b g : Addr} {M M1 M2 : Mem} (h : SameBut b g M M1) (k : SameBut b g M1 M2) : SameBut b g M M2 := fun a h1 h2 => (k a h1 h2).trans (h a h1 h2)
theorem Bag.mono {M : Mem} {b g c : Addr} {N N' : Nat} (h : Bag M b g c N) (hn : N ≤ N') : Bag M b g c N' := by
  obtain ⟨⟨z, n, gs, cs, h1, h2, h3, h4, h5, h6, h7⟩, q⟩ := h
  exact ⟨⟨z, n, gs, cs, h1, h2, h3, h4, h5, by omega, h7⟩, by assumption, by assumption, by assumption⟩
theorem Bag.frame {M M' : Mem} {b g c : Addr} {N : Nat} (h : Bag M b g c N) (hb : M' b = M b) (hg : M' g = M g) (hc : M' c = M c) : Bag M' b g c N := by
  obtain ⟨⟨z, n, gs, cs, h1, h2, h3, h4⟩, q⟩ := h
  exact ⟨⟨z, n, gs, cs, hb.trans h1, hg.trans h2, hc.trans h3, h4⟩, by assumption, by assumption, by assumption⟩
theorem Bag.ne {M : Mem} {b g c p : Addr} {N : Nat} (h : Bag M b g c N) (hp : M p = none) : p ≠ b ∧ p ≠ g ∧ p ≠ c := by
  obtain ⟨⟨z, n, gs, cs, h1, h2, h3, _⟩, _⟩ := h
  refine ⟨fun e => ?_, fun e => ?_, fun e => ?_⟩
  · rw [e, h1] at hp; cases hp
  · rw [e, h2] at hp; cases hp
  · rw [e, h3] at hp; cases hp
theorem Bag.upd {M : Mem} {b g c p : Addr} {o : MO} {N : Nat} (h : Bag M b g c N) (hb : p ≠ b) (hg : p ≠ g) (hc : p ≠ c) : Bag (updM M p o) b g c N :=
  h.frame (updM_ne hb.symm) (updM_ne hg.symm) (updM_ne hc.symm)
theorem Bag.new {M : Mem} {b g c p : Addr} {o : MO} {N : Nat} (h : Bag M b g c N) (hp : M p = none) : Bag (updM M p o) b g c N := h.upd (h.ne hp).1 (h.ne hp).2.1 (h.ne hp).2.2
theorem log2_lt {i : Int} {k : Nat} (h : i.natAbs < 2 ^ k) (hk : 0 < k) : i.natAbs.log2 < k := by
  by_cases z : i.natAbs = 0
  · rw [z]; simpa using hk
  · exact (Nat.log2_lt z).mpr h
theorem mul_ok {i j : Int} (a b : Nat) (hi : i.natAbs < 2 ^ a) (hj : j.natAbs < 2 ^ b) (ha : 0 < a) (hb : 0 < b) (h : a + b < 100000000) : MulOk i j := by
  have h1 := log2_lt hi ha
  have h2 := log2_lt hj hb
  unfold MulOk
  omega
theorem div_ok {i j : Int} (a : Nat) (h0 : j ≠ 0) (hj : j.natAbs < 2 ^ a) (ha : 0 < a) (h : a ≤ 9000) : DivOk i j := ⟨h0, .inl (by have := log2_lt hj ha; omega)⟩
/-- draw: a digit -/
def spDraw : DSp := fun ds M R => ∃ (b g c : Addr) (N : Nat) (many : Int), ds = [.ref b, .int many] ∧ Bag M b g c N ∧ N ≤ 2 ^ 40 ∧ 0 < many ∧ many < 2 ^ 200 ∧
  ∀ (x : Int) (M' : Mem), 0 ≤ x → x < many → Bag M' b g c (N + 1) → SameBut b g M M' → R (.int x) M'
def rK_draw  : DS := sSeq (sAsg (dBin gAdd (dBin gIx (dVar 0) (dC (.int 1))) (dC (.int 1))) (gSubD (dVar 0) (dC (.int 1)) gSetL)) (sSeq (sIf (dAnd (dTest (dBin gEq (dBin gIx (dVar 0) (dC (.int 0))) (dC (.int 0)))) (dTest (dBin gGt (dCB gLen (aCons (dBin gIx (dVar 0) (dC (.int 2))) (aNil))) (dC (.int 0))))) (sAsg (dBM0 isLst gPop (dBin gIx (dVar 0) (dC (.int 2)))) (gSubD (dVar 0) (dC (.int 0)) gSetL)) (sNext)) (sSeq (sIf (dTest (dBin gGt (dBin gIx (dVar 0) (dC (.int 0))) (dC (.int 0)))) (sSeq (sAsg (dBin gMod (dCB gInt (aCons (dBin gIx (dVar 0) (dC (.int 0))) (aNil))) (dVar 1)) (gNm 2)) (sSeq (sAsg (dBin gDiv (dBin gIx (dVar 0) (dC (.int 0))) (dVar 1)) (gSubD (dVar 0) (dC (.int 0)) gSetL)) (sRet (dVar 2)))) (sNext)) (sSeq (sAsg (dBin gIx (dBin gIx (dVar 0) (dC (.int 3))) (dBin gMod (dCB gInt (aCons (dBin gIx (dVar 0) (dC (.int 1))) (aNil))) (dCB gLen (aCons (dBin gIx (dVar 0) (dC (.int 3))) (aNil))))) (gNm 3)) (sSeq (sAsg (dBin gMod (dCB gInt (aCons (dBin gAdd (dBin gAdd (dBin gMul (dVar 3) (dC (.int 48271))) (dBin gMul (dBin gIx (dVar 0) (dC (.int 1))) (dC (.int 69621)))) (dC (.int 1))) (aNil))) (dC (.int 2147483647))) (gNm 4)) (sRet (dBin gMod (dBin gDiv (dBin gMod (dCB gInt (aCons (dBin gAdd (dBin gAdd (dBin gMul (dVar 4) (dVar 4)) (dBin gMul (dVar 4) (dC (.int 16807)))) (dBin gMul (dBin gIx (dVar 0) (dC (.int 1))) (dC (.int 40014)))) (aNil))) (dC (.int 2147483629))) (dC (.int 32))) (dVar 1)))))))
theorem fmod_nn {a b : Int} (h : 0 < b) : 0 ≤ a.fmod b := Int.fmod_nonneg_of_pos a h
theorem fmod_lt {a b : Int} (h : 0 < b) : a.fmod b < b := Int.fmod_lt_of_pos a h
theorem atI4_0 {a b c d : D} : atI [a, b, c, d] 0 = some a := rfl
theorem atI4_1 {a b c d : D} : atI [a, b, c, d] 1 = some b := rfl
theorem atI4_2 {a b c d : D} : atI [a, b, c, d] 2 = some c := rfl
theorem atI4_3 {a b c d : D} : atI [a, b, c, d] 3 = some d := rfl
/-- the last steps of a draw -/
theorem k_draw (ds : List D) (M : Mem) (R : DK) (h : spDraw ds M R) : rK_draw (endsF R) (startD ["bag", "many", "digit", "cell", "mixed"] ds) M := by
  obtain ⟨b, g, c, N, many, rfl, hB, hN, hm0, hm1, k⟩ := h
  obtain ⟨⟨z, n, gs, cs, h1, h2, h3, hz, hn0, hnN, hgs, hcs, hcs2⟩, bg, bc, gc⟩ := hB
  have nb : g ≠ b := bg.symm
  have nc : c ≠ b := bc.symm
  have ncg : c ≠ g := gc.symm
  have ix0 : ixN 4 0 = some 0 := rfl
  have ix1 : ixN 4 1 = some 1 := rfl
  have hm : many ≠ 0 := by omega
  have hdiv : ∀ i, DivOk i many := fun i => div_ok 200 hm (by omega) (by omega) (by omega)
  have hl0 : (0 : Int) < cs.length := by
    cases cs with
    | nil => exact absurd rfl hcs
    | cons a r => simp only [List.length_cons]; omega
  obtain ⟨cell, hcell, hc0, hc1⟩ : ∃ cell, atI (cs.map D.int) ((n + 1).fmod cs.length) = some (.int cell) ∧ 0 ≤ cell ∧ cell < 2147483647 := by
    have a1 := fmod_nn (a := n + 1) hl0
    have a2 := fmod_lt (a := n + 1) hl0
    have hi : ((n + 1).fmod cs.length).toNat < cs.length := by omega
    refine ⟨cs[((n + 1).fmod cs.length).toNat], atI_nat a1 (by simp [hi]), hcs2 _ (List.getElem_mem hi)⟩
  have m1 : MulOk cell 48271 := mul_ok 40 40 (by omega) (by omega) (by omega) (by omega) (by omega)
  have m2 : MulOk (n + 1) 69621 := mul_ok 60 40 (by omega) (by omega) (by omega) (by omega) (by omega)
  have m5 : MulOk (n + 1) 40014 := mul_ok 60 40 (by omega) (by omega) (by omega) (by omega) (by omega)
  have x0 := fmod_nn (a := cell * 48271 + (n + 1) * 69621 + 1) (b := 2147483647) (by omega)
  have x1 := fmod_lt (a := cell * 48271 + (n + 1) * 69621 + 1) (b := 2147483647) (by omega)
  generalize hx : (cell * 48271 + (n + 1) * 69621 + 1).fmod 2147483647 = mixed at x0 x1
  have m3 : MulOk mixed mixed := mul_ok 40 40 (by omega) (by omega) (by omega) (by omega) (by omega)
  have m4 : MulOk mixed 16807 := mul_ok 40 40 (by omega) (by omega) (by omega) (by omega) (by omega)
  have d32 : ∀ i, DivOk i 32 := fun i => div_ok 10 (by omega) (by omega) (by omega) (by omega)
  have bag2 : ∀ (z' : Int) (gs' : List Int) (M' : Mem), 0 ≤ z' → (∀ x ∈ gs', 0 ≤ x) → M' b = some (.lst [.int z', .int (n + 1), .ref g, .ref c]) → M' g = some (.lst (gs'.map D.int)) → M' c = M c → Bag M' b g c (N + 1) :=
    fun z' gs' M' a1 a2 a3 a4 a5 => ⟨⟨z', n + 1, gs', cs, a3, a4, a5.trans h3, a1, by omega, by omega, a2, hcs, hcs2⟩, bg, bc, gc⟩
  have dn : ∀ z' : Int, 0 ≤ z' → 0 ≤ z'.fdiv many := fun z' h => by
    rw [Int.fdiv_eq_ediv_of_nonneg _ (by omega)]; exact Int.ediv_nonneg h (by omega)
  by_cases hz0 : z = 0
  · subst hz0
    rcases List.eq_nil_or_concat gs with rfl | ⟨gs', y, rfl⟩
    · unfold rK_draw
      simp [h1, h2, h3, nb, nc, ncg, bg, bc, gc, atI4_0, atI4_1, atI4_2, atI4_3, ix0, ix1, hcell, m1, m2, m3, m4, m5, hx, hcs, d32, hm]
      exact ⟨_, Sub.refl _, k _ _ (fmod_nn hm0) (fmod_lt hm0) (bag2 0 [] _ (by omega) (by simp) (by simp) (by simp [nb, h2]) (by simp [nc])) fun a a1 a2 => by simp [a1]⟩
    · have hy : 0 ≤ y := hgs y (by simp)
      have hgs' : ∀ x ∈ gs', 0 ≤ x := fun x hx => hgs x (by simp [hx])
      have e1 : (gs' ++ [y])[gs'.length]? = some y := by simp
      by_cases hy0 : 0 < y
      · unfold rK_draw
        simp [h1, h2, h3, nb, nc, ncg, bg, bc, gc, atI4_0, atI4_1, atI4_2, atI4_3, ix0, ix1, hcell, m1, m2, m3, m4, m5, hx, hcs, d32, hm, hdiv, hy0]
        exact ⟨_, Sub.refl _, k _ _ (fmod_nn hm0) (fmod_lt hm0) (bag2 (y.fdiv many) gs' _ (dn y hy) hgs' (by simp) (by simp [nb]) (by simp [nc, ncg])) fun a a1 a2 => by simp [a1, a2]⟩
      · have : y = 0 := by omega
        subst this
        unfold rK_draw
        simp [h1, h2, h3, nb, nc, ncg, bg, bc, gc, atI4_0, atI4_1, atI4_2, atI4_3, ix0, ix1, hcell, m1, m2, m3, m4, m5, hx, hcs, d32, hm, hdiv]
        exact ⟨_, Sub.refl _, k _ _ (fmod_nn hm0) (fmod_lt hm0) (bag2 0 gs' _ (by omega) hgs' (by simp) (by simp [nb]) (by simp [nc, ncg])) fun a a1 a2 => by simp [a1, a2]⟩
  · have hz1 : 0 < z := by omega
    unfold rK_draw
    simp [h1, h2, h3, nb, nc, ncg, bg, bc, gc, atI4_0, atI4_1, atI4_2, atI4_3, ix0, ix1, hm, hdiv, hz0, hz1]
    exact ⟨_, Sub.refl _, k _ _ (fmod_nn hm0) (fmod_lt hm0) (bag2 (z.fdiv many) gs _ (dn z hz) hgs (by simp) (by simp [nb, h2]) (by simp [nc])) fun a a1 a2 => by simp [a1]⟩
theorem len_draw (ds : List D) (M : Mem) (R : DK) (h : spDraw ds M R) : ds.length = 2 := by
  obtain ⟨b, g, c, N, many, rfl, _⟩ := h
  rfl
/-- pick -/
def spPick : DSp := fun ds M R => ∃ (b g c l : Addr) (N : Nat) (xs : List D), ds = [.ref b, .ref l] ∧ Bag M b g c N ∧ N ≤ 2 ^ 40 ∧ M l = some (.lst xs) ∧ xs ≠ [] ∧ xs.length < 2 ^ 60 ∧ l ≠ b ∧ l ≠ g ∧ l ≠ c ∧
  ∀ (x : D) (M' : Mem), x ∈ xs → Bag M' b g c (N + 1) → SameBut b g M M' → R x M'
def rK_pick (sp_draw : DSp) : DS := sRet (dBin gIx (dVar 1) (dCall sp_draw (aCons (dVar 0) (aCons (dCB gLen (aCons (dVar 1) (aNil))) (aNil)))))
theorem k_pick (ds : List D) (M : Mem) (R : DK) (h : spPick ds M R) : rK_pick spDraw (endsF R) (startD ["bag", "some"] ds) M := by
  obtain ⟨b, g, c, l, N, xs, rfl, hB, hN, hl, hx, hx2, lb, lg, lc, k⟩ := h
  have hn : (0 : Int) < xs.length := by
    cases xs with
    | nil => exact absurd rfl hx
    | cons a r => simp only [List.length_cons]; omega
  unfold rK_pick
  simp [hl]
  refine ⟨b, g, c, N, xs.length, rfl, hB, hN, hn, by omega, fun x M' h0 h1 hB' hS => ?_⟩
  have e : M' l = some (.lst xs) := (hS l lb lg).trans hl
  have hi : x.toNat < xs.length := by omega
  have hat : atI xs x = some xs[x.toNat] := atI_nat h0 (List.getElem?_eq_getElem hi)
  simp [e, hat]
  exact ⟨M', Sub.refl _, k _ M' (List.getElem_mem hi) hB' hS⟩
theorem len_pick (ds : List D) (M : Mem) (R : DK) (h : spPick ds M R) : ds.length = 2 := by
  obtain ⟨b, g, c, l, N, xs, rfl, _⟩ := h
  rfl
/-! ### bag -/
def cellsOf (ns : List Int) : List Int := ns.map (fun i => if i < 0 then -i else i) ++ [7]
def spBag : DSp := fun ds M R => ∃ (d : D) (ns : List Int) (ok : Mem → Prop), ds = [d] ∧ srcD M d = some (ns.map D.int, ok) ∧ (∀ p o, M p = none → ok (updM M p o)) ∧ ns.length ≤ 63 ∧
  ∀ (b g c : Addr) (M' : Mem), M b = none → M g = none → M c = none → Bag M' b g c 0 → Sub M M' → R (.ref b) M'
def rK_bag  : DS := sSeq (sAsg (dBin gAdd (dLc (iSeq (dVar 0)) (gNm 2) (tYesD) (dCB gAbs (aCons (dCB gInt (aCons (dVar 2) (aNil))) (aNil))) [2]) (dLst (aCons (dC (.int 7)) (aNil)))) (gNm 1)) (sSeq (sAsg (dLst (aNil)) (gNm 3)) (sSeq (sIf (dTest (dBin gEq (dBin gMod (dCB gInt (aCons (dBin gIx (dVar 1) (dC (.int 0))) (aNil))) (dC (.int 2))) (dC (.int 0)))) (sSeq (sAsg (dLc (iSeq (dVar 1)) (gNm 2) (dTest (dBin gGe (dVar 2) (dBin gPow (dC (.int 10)) (dC (.int 18))))) (dBin gDiv (dVar 2) (dC (.int 2))) [2]) (gNm 3)) (sDrop (dBM0 isLst gReverse (dVar 3)))) (sNext)) (sRet (dLst (aCons (dC (.int 0)) (aCons (dC (.int 0)) (aCons (dVar 3) (aCons (dLc (iSeq (dVar 1)) (gNm 2) (tYesD) (dBin gMod (dCB gInt (aCons (dVar 2) (aNil))) (dC (.int 2147483647))) [2]) (aNil)))))))))
theorem size_line : sizeLine = 16777216 := by decide
theorem new_some {M : Mem} {p : Addr} {o : MO} (h : M p = none) : (updM M p o) p = some o ∧ Sub M (updM M p o) := ⟨updM_same, Sub.new h⟩
theorem Sub.un {M M' : Mem} {a : Addr} (h : Sub M M') (e : M' a = none) : M a = none := by
  cases q : M a with
  | none => rfl
  | some o => rw [h a o q] at e; cases e
theorem Sub.put {M M' : Mem} {a : Addr} {o : MO} (h : Sub M M') (e : M a = none) : Sub M (updM M' a o) := fun b u q => by
  have : b ≠ a := fun z => by rw [z, e] at q; cases q
  rw [updM_ne this]; exact h b u q
theorem ne_none {M : Mem} {p q : Addr} {o : MO} (h : M p = none) (h2 : M q = some o) : q ≠ p := fun e => by rw [e, h] at h2; cases h2
def matA (d : D) : D := match d with
  | .int i => .int (if i < 0 then -i else i)
  | _ => d
def matM (d : D) : D := match d with
  | .int i => .int (i.fmod 2147483647)
  | _ => d
def matG (d : D) : Option D := match d with
  | .int i => if (10 : Int) ^ 18 ≤ i then some (.int (i.fdiv 2)) else none
  | _ => none
theorem map_matA (ns : List Int) : (ns.map D.int).map matA ++ [D.int 7] = (cellsOf ns).map D.int := by
  unfold cellsOf matA
  simp
theorem matG_ints : ∀ ns : List Int, ∃ gs : List Int, (ns.map D.int).filterMap matG = gs.map D.int ∧ ∀ x ∈ gs, 0 ≤ x
  | [] => ⟨[], rfl, fun _ z => nomatch z⟩
  | n :: r => by
    obtain ⟨gs, h1, h2⟩ := matG_ints r
    by_cases hn : (10 : Int) ^ 18 ≤ n
    · refine ⟨n.fdiv 2 :: gs, ?_, ?_⟩
      · simp only [List.map_cons, List.filterMap_cons, matG, if_pos hn, h1]
      · intro x hx
        rcases List.mem_cons.mp hx with rfl | hx
        · rw [Int.fdiv_eq_ediv_of_nonneg _ (by omega)]
          exact Int.ediv_nonneg (by omega) (by omega)
        · exact h2 x hx
    · refine ⟨gs, ?_, h2⟩
      simp only [List.map_cons, List.filterMap_cons, matG, if_neg hn, h1]
theorem matM_ints (ns : List Int) : (ns.map D.int).map matM = (ns.map fun i => i.fmod 2147483647).map D.int := by simp [matM]
theorem k_bag (ds : List D) (M : Mem) (R : DK) (h : spBag ds M R) : rK_bag (endsF R) (startD ["script", "cells", "cell", "great"] ds) M := by
  obtain ⟨d, ns, ok, rfl, hd, hok, hl, k⟩ := h
  have cpow : CPow 10 18 := ⟨by omega, by omega, by decide⟩
  have d2 : ∀ i, DivOk i 2 := fun i => div_ok 10 (by omega) (by omega) (by omega) (by omega)
  have cl : (cellsOf ns).length ≤ 64 := by unfold cellsOf; simp; omega
  have sl := size_line
  unfold rK_bag
  simp only [eq_sSeq, eq_sAsg, eq_dBin, eq_dLc, eq_iSeq, eq_dVar, eq_startD, List.map_cons, List.map_nil, List.cons_append, List.getElem?_cons_zero, hd]
  refine lc_map matA (by simp; omega) (fun p acc hp => hok p _ hp) (fun x p acc RY hx hp h => ?_) (fun p hp => ?_)
  · obtain ⟨n, hn, rfl⟩ := List.mem_map.mp hx
    simpa [wipeD, matA] using h
  obtain ⟨e1, s1⟩ := new_some (o := .lst ((ns.map D.int).map matA)) hp
  generalize updM M p (.lst ((ns.map D.int).map matA)) = M1 at e1 s1
  simp only [eq_dLst, eq_aCons, eq_dC, eq_aNil]
  refine ⟨by simp; omega, fun p2 hp2 => ?_⟩
  obtain ⟨e2, s2⟩ := new_some (o := .lst [D.int 7]) hp2
  generalize updM M1 p2 (.lst [D.int 7]) = M2 at e2 s2
  simp only [eq_gAddll, s2 _ _ e1, e2, map_matA]
  refine ⟨by simp; omega, fun l hl' => ?_⟩
  obtain ⟨e3, s3⟩ := new_some (o := .lst ((cellsOf ns).map D.int)) hl'
  generalize updM M2 l (.lst ((cellsOf ns).map D.int)) = M3 at e3 s3
  have S3 : Sub M M3 := (s1.trans s2).trans s3
  obtain ⟨c0, hc0⟩ : ∃ c0 : Int, atI ((cellsOf ns).map D.int) 0 = some (.int c0) := by
    cases hq : cellsOf ns with
    | nil => simp [cellsOf] at hq
    | cons a r => exact ⟨a, atI_nat (by omega) (by simp)⟩
  simp only [eq_gNm, eq_sSeq, eq_sAsg, eq_dLst, eq_aNil]
  refine ⟨by simp, fun g hg => ?_⟩
  obtain ⟨e4, s4⟩ := new_some (o := .lst []) hg
  generalize updM M3 g (.lst []) = M4 at e4 s4
  have l4 := s4 _ _ e3
  have gM : M g = none := S3.un hg
  have lg : l ≠ g := ne_none hg e3
  -- the rest, from where the list of great cells stands
  have rest : ∀ (M5 : Mem) (g' : Addr) (gs : List Int) (o : Option D), M g' = none → Sub M M5 → M5 l = some (.lst ((cellsOf ns).map D.int)) → M5 g' = some (.lst (gs.map D.int)) → (∀ x ∈ gs, 0 ≤ x) → l ≠ g' →
      (sRet (dLst (aCons (dC (.int 0)) (aCons (dC (.int 0)) (aCons (dVar 3) (aCons (dLc (iSeq (dVar 1)) (gNm 2) (tYesD) (dBin gMod (dCB gInt (aCons (dVar 2) (aNil))) (dC (.int 2147483647))) [2]) (aNil))))))) (endsF R) [some d, some (.ref l), o, some (.ref g')] M5 := by
    intro M5 g' gs o n5 S5 l5 g5 hgs lg5
    simp [l5]
    refine lc_map matM (by simp; omega) (fun q acc hq => ?_) (fun x q acc RY hx hq h => ?_) (fun q hq => ?_)
    · rw [updM_ne (ne_none hq l5)]; exact l5
    · obtain ⟨n, hn, rfl⟩ := List.mem_map.mp hx
      simpa [wipeD, matM] using h
    · obtain ⟨e6, s6⟩ := new_some (o := .lst (((cellsOf ns).map D.int).map matM)) hq
      generalize updM M5 q (.lst (((cellsOf ns).map D.int).map matM)) = M6 at e6 s6
      refine ⟨by omega, fun b hb => ?_⟩
      obtain ⟨e7, s7⟩ := new_some (o := .lst [D.int 0, D.int 0, D.ref g', D.ref q]) hb
      generalize updM M6 b (.lst [D.int 0, D.int 0, D.ref g', D.ref q]) = M7 at e7 s7
      have S7 : Sub M M7 := (S5.trans s6).trans s7
      refine ⟨M7, Sub.refl _, k b g' q M7 ((S5.trans s6).un hb) n5 (S5.un hq) ⟨⟨0, 0, gs, (cellsOf ns).map fun i => i.fmod 2147483647, e7, s7 _ _ (s6 _ _ g5), ?_, Int.le_refl _, Int.le_refl _, Int.le_refl _, hgs, ?_, ?_⟩, ?_, ?_, ?_⟩ S7⟩
      · rw [← matM_ints]; exact s7 _ _ e6
      · simp [cellsOf]
      · intro x hx
        obtain ⟨i, _, rfl⟩ := List.mem_map.mp hx
        exact ⟨fmod_nn (by omega), fmod_lt (by omega)⟩
      · exact (ne_none hb (s6 _ _ g5)).symm
      · exact (ne_none hb e6).symm
      · exact ne_none hq g5
  have fin := rest M4 g [] none gM (S3.trans s4) l4 e4 (fun _ z => nomatch z) lg
  by_cases hev : c0.fmod 2 = 0
  · simp [l4, hc0, hev]
    obtain ⟨gs, hgs, hgs0⟩ := matG_ints (cellsOf ns)
    refine lc_fm matG (by simp; omega) (fun q acc hq => ?_) (fun x q acc RY RN hx hq h1 h2 => ?_) (fun q hq => ?_)
    · rw [updM_ne (ne_none hq l4)]; exact l4
    · obtain ⟨n, hn, rfl⟩ := List.mem_map.mp hx
      by_cases hn18 : (10 : Int) ^ 18 ≤ n
      · have := h1 (.int (n.fdiv 2)) (if_pos hn18)
        simp [wipeD, cpow, d2]
        rw [if_pos (by omega)]
        exact this
      · have := h2 (if_neg hn18)
        simp [wipeD, cpow, d2]
        rw [if_neg (by omega)]
        exact this
    · rw [hgs]
      have lq : l ≠ q := ne_none hq l4
      simp
      have S4 : Sub M M4 := S3.trans s4
      have := rest (updM (updM M4 q (.lst (gs.map D.int))) q (.lst (gs.map D.int).reverse)) q gs.reverse none (S4.un hq) ((S4.put (S4.un hq)).put (S4.un hq)) (by simp [lq, l4]) (by simp) (by simpa using hgs0) lq
      simpa using this
  · simp [l4, hc0, hev]
    simpa [l4] using fin
theorem len_bag (ds : List D) (M : Mem) (R : DK) (h : spBag ds M R) : ds.length = 1 := by
  obtain ⟨d, ns, ok, rfl, _⟩ := h
  rfl
end DD
end
section
namespace DD
open PySem PySem.Spec PyProof.Rows L2
/-! ### same -/
@[simp] theorem eq_gIsi {M : Mem} {R : DK} {d : D} {n : String} : gIsi [d, .ty n] M R = (match tyD M d with
    | some a => n ∈ ["bool", "int", "str", "tuple", "list", "dict"] ∧ R (.bl (isB a n)) M
    | none => False) := propext Iff.rfl
@[simp] theorem ty_non {M : Mem} : tyD M .non = some "NoneType" := rfl
@[simp] theorem ty_bl {M : Mem} {b : Bool} : tyD M (.bl b) = some "bool" := rfl
@[simp] theorem ty_int {M : Mem} {b : Int} : tyD M (.int b) = some "int" := rfl
@[simp] theorem ty_str {M : Mem} {b : Str} : tyD M (.str b) = some "str" := rfl
@[simp] theorem ty_tup {M : Mem} {b : List D} : tyD M (.tup b) = some "tuple" := rfl
@[simp] theorem tru_bl {M : Mem} {b : Bool} : truD M (.bl b) = some b := rfl
@[simp] theorem isNon_non : isNon .non = true := rfl
@[simp] theorem isNon_bl {b : Bool} : isNon (.bl b) = false := rfl
@[simp] theorem isNon_int {b : Int} : isNon (.int b) = false := rfl
@[simp] theorem isNon_str {b : Str} : isNon (.str b) = false := rfl
@[simp] theorem isNon_tup {b : List D} : isNon (.tup b) = false := rfl
theorem isB_1 : isB "NoneType" "bool" = false := by decide
theorem isB_2 : isB "bool" "bool" = true := by decide
theorem isB_3 : isB "int" "bool" = false := by decide
theorem isB_4 : isB "str" "bool" = false := by decide
theorem isB_5 : isB "tuple" "bool" = false := by decide
theorem isB_6 : isB "int" "int" = true := by decide
theorem isB_7 : isB "str" "int" = false := by decide
theorem isB_8 : isB "tuple" "int" = false := by decide
theorem isB_9 : isB "str" "str" = true := by decide
theorem isB_10 : isB "tuple" "str" = false := by decide
theorem isB_11 : isB "tuple" "tuple" = true := by decide
@[simp] theorem eq_gEqbb {M : Mem} {R : DK} {b : Bool} : gEq (.bl b) (.bl b) M R = R (.bl true) M := by
  show (true = true ∧ true = true ∧ R (.bl (PyData.eqv (.bool b) (.bool b))) M) = _
  have : PyData.eqv (.bool b) (.bool b) = true := by unfold PyData.eqv; simp
  rw [this]; simp
@[simp] theorem eq_gEqss {M : Mem} {R : DK} {a b : Str} : gEq (.str a) (.str b) M R = (SeqAt.shaped (.str a) = true ∧ SeqAt.shaped (.str b) = true ∧ R (.bl (decide (a = b))) M) := by
  show (SeqAt.shaped (.str a) = true ∧ SeqAt.shaped (.str b) = true ∧ R (.bl (PyData.eqv (.str a) (.str b))) M) = _
  have : PyData.eqv (.str a) (.str b) = decide (a = b) := by
    unfold PyData.eqv
    exact Bool.eq_iff_iff.mpr (by simp)
  rw [this]
/-- data that _law_same walks: tuples at most n deep -/
def okD : Nat → D → Prop
  | _, .non => True
  | _, .bl _ => True
  | _, .int _ => True
  | _, .str s => SeqAt.shaped (.str s) = true
  | 0, .tup _ => False
  | n + 1, .tup xs => xs.length < 2 ^ 61 ∧ ∀ x ∈ xs, okD n x
  | _, .ref _ => False
  | _, .ty _ => False
  | _, .rol _ => False
def spSame (n : Nat) : DSp := fun ds M R => ∃ x, ds = [x, x] ∧ okD n x ∧ R (.bl true) M
def spNo : DSp := fun _ _ _ => False
def rK_same (sp_l_same : DSp) : DS := sSeq (sIf (dTest (dBin gIsN (dVar 1) (dC .non))) (sRet (dBin gIsN (dVar 0) (dC .non))) (sNext)) (sSeq (sIf (dOr (dTru (dCB gIsi (aCons (dVar 1) (aCons (dC (.ty "bool")) (aNil))))) (dTru (dCB gIsi (aCons (dVar 0) (aCons (dC (.ty "bool")) (aNil)))))) (sRet (dAndV (dCB gIsi (aCons (dVar 1) (aCons (dC (.ty "bool")) (aNil)))) (dAndV (dCB gIsi (aCons (dVar 0) (aCons (dC (.ty "bool")) (aNil)))) (dBin gEq (dVar 0) (dVar 1))))) (sNext)) (sSeq (sIf (dTru (dCB gIsi (aCons (dVar 1) (aCons (dC (.ty "int")) (aNil))))) (sRet (dAndV (dCB gIsi (aCons (dVar 0) (aCons (dC (.ty "int")) (aNil)))) (dBin gEq (dVar 0) (dVar 1)))) (sNext)) (sSeq (sIf (dTru (dCB gIsi (aCons (dVar 1) (aCons (dC (.ty "str")) (aNil))))) (sRet (dAndV (dCB gIsi (aCons (dVar 0) (aCons (dC (.ty "str")) (aNil)))) (dBin gEq (dVar 0) (dVar 1)))) (sNext)) (sSeq (sIf (dOr (dNot (dTru (dCB gIsi (aCons (dVar 1) (aCons (dC (.ty "tuple")) (aNil)))))) (dOr (dNot (dTru (dCB gIsi (aCons (dVar 0) (aCons (dC (.ty "tuple")) (aNil)))))) (dTest (dBin gNe (dCB gLen (aCons (dVar 0) (aNil))) (dCB gLen (aCons (dVar 1) (aNil))))))) (sRet (dC (.bl false))) (sNext)) (sSeq (sFor (iRange1 (aCons (dCB gLen (aCons (dVar 1) (aNil))) (aNil))) (gNm 2) (sIf (dNot (dTru (dCall sp_l_same (aCons (dBin gIx (dVar 0) (dVar 2)) (aCons (dBin gIx (dVar 1) (dVar 2)) (aNil)))))) (sRet (dC (.bl false))) (sNext))) (sRet (dC (.bl true))))))))
theorem range_at {lo : Int} {n i : Nat} {x : D} (h : (rangeD lo n)[i]? = some x) : i < n ∧ x = .int (lo + (i : Int)) := by
  have hi := (List.getElem?_eq_some_iff.mp h).1
  rw [rangeD_length] at hi
  rw [rangeD_get hi] at h
  exact ⟨hi, (Option.some.inj h).symm⟩
theorem k_same (n : Nat) (sp : DSp) (hsp : ∀ m, n = m + 1 → sp = spSame m) (ds : List D) (M : Mem) (R : DK) (h : spSame n ds M R) : rK_same sp (endsF R) (startD ["found", "due", "k"] ds) M := by
  obtain ⟨x, rfl, hx, k⟩ := h
  have fin : ∃ M0, Sub M0 M ∧ R (.bl true) M0 := ⟨M, Sub.refl _, k⟩
  unfold rK_same
  cases x with
  | non => simpa using fin
  | bl b => simpa [isB_2] using fin
  | int b => simpa [isB_3, isB_6] using fin
  | str b =>
    have hs : SeqAt.shaped (.str b) = true := by cases n <;> exact hx
    simpa [isB_4, isB_7, isB_9, hs] using fin
  | ref a => cases n <;> exact hx.elim
  | ty a => cases n <;> exact hx.elim
  | rol a => cases n <;> exact hx.elim
  | tup xs =>
    cases n with
    | zero => exact hx.elim
    | succ n =>
      have e := hsp n rfl
      subst e
      obtain ⟨hl, hx⟩ := hx
      simp [isB_5, isB_8, isB_10, isB_11]
      refine ⟨by omega, for_in (fun i δ M' => M' = M ∧ ∃ o, δ = [some (.tup xs), some (.tup xs), o]) ⟨rfl, _, rfl⟩ (fun _ _ _ _ _ => trivial) ?_ ?_⟩
      · rintro i y δ M' hy ⟨rfl, o, rfl⟩
        obtain ⟨hi, rfl⟩ := range_at hy
        have hat : atI xs (0 + (i : Int)) = some xs[i] := atI_nat (by omega) (by simp [hi])
        simp at hat
        simp [hat]
        exact ⟨xs[i], rfl, hx _ (List.getElem_mem hi), by simp⟩
      · rintro δ M' ⟨rfl, o, rfl⟩
        simpa using fin
theorem len_same (n : Nat) (ds : List D) (M : Mem) (R : DK) (h : spSame n ds M R) : ds.length = 2 := by
  obtain ⟨x, rfl, _⟩ := h
  rfl
end DD
end
section
namespace DD
open PySem PySem.Spec PyProof.Rows L2
/-- a def that is never reached -/
theorem dfn_no {W : Wd} {k : Nat} {x qual : Str} {st : Stmt} {f : Addr} {fd : FuncData} {ps : List Str} (F : FnP W.K x qual st f fd) (bd : Binds W.K fd ps []) : DFn W k f fd ps spNo :=
  ⟨⟨fun vs H Q E h => by obtain ⟨_, _, _, _, _, h, _⟩ := h; exact h.elim, fun A outer s H args us vs Q E hr e b r h => by obtain ⟨_, _, _, _, _, h, _⟩ := h; exact h.elim⟩, fun _ _ _ h => h.elim, bd, F.kp⟩
/-- keywords alone -/
theorem bindsK {K : PySem.W.Frag} {x qual : Str} {params : Arguments} {body : List Stmt} {scope : Scope} {f : Addr} {fd : FuncData} {ps ks : List Str} {is : List Nat} (F : FunD K x qual params body scope [] [] f fd)
    (h : ∀ (kV doc pm : Value) (an : Option Addr) (cdv ct : Value) (ws : List Value), ws.length = ks.length → bindArgs (PySem.W.fnOf x qual params body scope .none kV doc pm an cdv ct) ⟨[], ks.zip ws⟩ = pure (ps.zip (permL is ws))) (s : Shared) (ws : List Value) (hl : ws.length = ks.length) :
    BindsTo s fd ⟨[], ks.zip ws⟩ (ps.zip (permL is ws)) := by
  obtain ⟨oc, od, dV, kV, doc, pm, an, cdv, ct, osl, rfl, lk, hcd, hD, hK⟩ := F.ex
  rcases hD with ⟨_, rfl⟩ | ⟨e, _⟩
  · exact .of_eq (h kV doc pm an cdv ct ws hl)
  · exact absurd rfl e
theorem gconst_int {W : Wd} {x : Str} {i : Int} (h : ∃ t, W.mg x = some (.int i t)) : GConst W x (.int i) := by
  obtain ⟨t, h⟩ := h
  exact ⟨⟨_, .int i, h, ⟨t, rfl⟩, fun _ => rfl⟩⟩
theorem code_at {K : PySem.W.Frag} {p : He.Defn} {x qual : Str} {st : Stmt} {fd : FuncData} (F : FnP K x qual st (He.fAd K p) fd) : fd.code = .ref (He.cT K p).1 := by
  obtain ⟨oc, od, dV, kV, doc, pm, an, cdv, ct, osl, rfl, lk, hcd, hD, hK⟩ := F.ex
  obtain ⟨c, rfl⟩ := He.codeIn_ref hcd
  show Value.ref c = .ref (He.codeOf K p)
  rw [He.codeOf_eq lk rfl]
/-- DCls without a world -/
structure DCls0 (K : PySem.W.Frag) (C : Addr) (ns : List Str) : Prop where
  cl : Cls K C
  na : ∀ f ∈ ns, NoAttr K C f
  nd : ns.Nodup
  few : ns.length < 1000
theorem DCls0.at {W : Wd} {C : Addr} {ns : List Str} (h : DCls0 W.K C ns) : DCls W C ns := ⟨h.cl, h.na, h.nd, h.few⟩
end DD
end
section
/-! ### a tuple, once or never -/
namespace L2
open PySem PySem.Spec PyProof.Rows
theorem dd_mul_one (l : Addr) (items : Array Value) (n : Nat) (dd : Option Addr) (sl : Array (Option Value)) (u : Tok) :
    Meets (Builtin.«tuple.__mul__» ⟨[.ref l, .int 1 u], []⟩) (fun _ R s => s.heap.get? l = some { cls := .type "tuple", dict := dd, data := .seq items n, slots := sl } ∧ R (.ok (.ret (Value.ref l))) s) :=
  .of_wp fun prog w A R s h => by
    obtain ⟨hp, g, d, tk, os⟩ := s
    obtain ⟨hl, h⟩ := h
    have f1 := AutoSeq1.idx_int
    have c1 : (items.isEmpty || (1 : Int) == 1) = true := by simp
    wp_walk using wpAny_loadPart' hl
    repeat (first
      | (refine wpAny_ite_false (decide_eq_false (by decide)) ?_; wp_walk using wpAny_loadPart' hl)
      | (refine wpAny_ite_true (decide_eq_true (by rw [c1])) ?_; wp_walk using wpAny_loadPart' hl)
      | (refine wpAny_ite_true (decide_eq_true (by rfl)) ?_; wp_walk using wpAny_loadPart' hl))
    exact ⟨_, rfl, h⟩
theorem dd_mul_none (l : Addr) (items : Array Value) (n : Nat) (dd : Option Addr) (sl : Array (Option Value)) (x : Int) (u : Tok) (c0 : (decide (x < -(2 ^ 63)) || decide (x ≥ 2 ^ 63)) = false) (c1 : (items.isEmpty || x == 1) = false) (c2 : (decide (x ≤ 0) || items.isEmpty) = true) :
    Meets (Builtin.«tuple.__mul__» ⟨[.ref l, .int x u], []⟩) (fun _ R s => s.heap.get? l = some { cls := .type "tuple", dict := dd, data := .seq items n, slots := sl } ∧
      R (.ok (.ret (Value.ref s.heap.objs.size))) { s with heap := s.heap.push { cls := Value.type "tuple", data := Data.seq #[] } }) :=
  .of_wp fun prog w A R s h => by
    obtain ⟨hp, g, d, tk, os⟩ := s
    obtain ⟨hl, h⟩ := h
    have f1 := AutoSeq1.idx_int
    wp_walk using wpAny_loadPart' hl
    repeat (first
      | (refine wpAny_ite_false (decide_eq_false (by rw [c0]; exact Bool.false_ne_true)) ?_; wp_walk using wpAny_loadPart' hl)
      | (refine wpAny_ite_false (decide_eq_false (by rw [c1]; exact Bool.false_ne_true)) ?_; wp_walk using wpAny_loadPart' hl)
      | (refine wpAny_ite_true (decide_eq_true (by rw [c2])) ?_; wp_walk using wpAny_loadPart' hl))
    exact ⟨_, rfl, h⟩
def rRepA (K : PySem.W.Frag) : R2 := fun x y H Q => ∃ l k xs, x = .ref l ∧ y = .int k ∧ SqT K H l xs ∧ xs ≠ [] ∧ -(2 ^ 62) ≤ k ∧ k ≤ 1 ∧ (k = 1 → Q (.ref l) H) ∧ (k ≤ 0 → ∀ p, H p = none → Q (.ref p) (upd H p (.tup [])))
section
variable {X : Cx}
theorem op_repA : OpR X (binaryOp .Mult) (rRepA X.K) := by
  intro pins s σ H x y v u Q I rx ry h
  obtain ⟨l, k, xs, rfl, rfl, hT, hne, h1, h2, q1, q0⟩ := h
  cases rx
  obtain ⟨t, rfl⟩ := ry
  obtain ⟨its, r, ⟨⟨cls, dd, data, sl⟩, ho, hc, n, hd⟩, hs⟩ := I.tuple hT
  simp only at hc hd
  subst hc hd
  have hle : its.length = xs.length := r.length.symm
  have hn : its ≠ [] := fun e => hne (by
    rw [e] at hle
    exact List.eq_nil_of_length_eq_zero hle.symm)
  have hi : its.toArray.isEmpty = false := by
    cases its with
    | nil => exact absurd rfl hn
    | cons a b => rfl
  have go : ∀ (Rr : Result → Shared → Prop), Rr = Rr → True := fun _ _ => trivial
  by_cases hk : k = 1
  · subst hk
    refine wpAny_binaryOp_repeat_ref (T := "tuple") (U := "int") (by decide) ⟨_, ho, rfl⟩ (fun s' => typeIs_int s' 1 t) noFill_tuple_mul F.fills_int_mul F.slot_int_rmul repeat_tuple F.slot_int_index.lookup
      (call_meets F.slot_int_rmul (typeIs_int s 1 t) F.entry_int_rmul (F.args_int_rmul_2 _ _) (int_rmul_tuple 1 t l its.toArray n dd sl)
        ⟨ho, rfl, ⟨_, ho, rfl⟩, call_meets F.slot_tuple_mul ⟨_, ho, rfl⟩ F.entry_tuple_mul (F.args_tuple_mul_2 _ _) (dd_mul_one l its.toArray n dd sl t) ⟨ho, ?_⟩⟩)
    exact ⟨.ref l, H, I, rfl, q1 rfl⟩
  · have hk0 : k ≤ 0 := by omega
    have c0 : (decide (k < -(2 ^ 63)) || decide (k ≥ 2 ^ 63)) = false := by
      rw [decide_eq_false (by omega), decide_eq_false (by omega)] <;> rfl
    have c1 : (its.toArray.isEmpty || k == 1) = false := by
      rw [hi, Bool.false_or]
      exact beq_eq_false_iff_ne.mpr (by omega)
    have c2 : (decide (k ≤ 0) || its.toArray.isEmpty) = true := by
      rw [decide_eq_true hk0]; rfl
    refine wpAny_binaryOp_repeat_ref (T := "tuple") (U := "int") (by decide) ⟨_, ho, rfl⟩ (fun s' => typeIs_int s' k t) noFill_tuple_mul F.fills_int_mul F.slot_int_rmul repeat_tuple F.slot_int_index.lookup
      (call_meets F.slot_int_rmul (typeIs_int s k t) F.entry_int_rmul (F.args_int_rmul_2 _ _) (int_rmul_tuple k t l its.toArray n dd sl)
        ⟨ho, rfl, ⟨_, ho, rfl⟩, call_meets F.slot_tuple_mul ⟨_, ho, rfl⟩ F.entry_tuple_mul (F.args_tuple_mul_2 _ _) (dd_mul_none l its.toArray n dd sl k t c0 c1 c2) ⟨ho, ?_⟩⟩)
    refine ⟨.ref s.heap.objs.size, _, I.laid (t' := s.toks) (o := .tup []) (fun b ob q => Heap.get?_push_of_some _ q) (Nat.le_refl _) ?_, rfl, q0 hk0 _ (I.hok.fresh (Nat.le_refl _))⟩
    exact ⟨by rw [sizeLine_eq]; simp, [], .nil, IsTup.new _ #[]⟩
end
end L2
namespace DD
open PySem PySem.Spec PyProof.Rows L2
section
variable {X : Cx}
/-! ### * of ints, lists, tuples; - of bools -/
def gMulA : D2 := fun x y M R => match x, y with
  | .int i, .int j => MulOk i j ∧ R (.int (i * j)) M
  | .tup xs, .int k => xs ≠ [] ∧ -(2 ^ 62) ≤ k ∧ k ≤ 1000 ∧ xs.length ≤ 1000 ∧ R (.tup (List.replicate k.toNat xs).flatten) M
  | .ref a, .int k => match M a with
    | some (.lst xs) => -(2 ^ 63) ≤ k ∧ k < 2 ^ 63 ∧ xs.length * k.toNat ≤ sizeLine ∧ ∀ p, M p = none → R (.ref p) (updM M p (.lst (List.replicate k.toNat xs).flatten))
    | _ => False
  | _, _ => False
def rMulA (K : PySem.W.Frag) : R2 := fun x y H Q => (rI MulOk fun i j => V.int (i * j)) x y H Q ∨ rRep x y H Q ∨ rRepT K x y H Q ∨ rRepA K x y H Q
theorem op_mulA : OpR X (binaryOp .Mult) (rMulA X.K) := opr_or op_mulG (opr_or op_rep (opr_or op_repT op_repA))
theorem RVs.rep {K : PySem.W.Frag} {H : Hp} {ds : List D} {vs : List V} (r : RVs K H ds vs) : ∀ n : Nat, RVs K H (List.replicate n ds).flatten (List.replicate n vs).flatten
  | 0 => RVs.nil
  | n + 1 => by
    rw [List.replicate_succ, List.replicate_succ, List.flatten_cons, List.flatten_cons]
    exact r.append (RVs.rep r n)
theorem od_mulA {K : PySem.W.Frag} : OpD K (rMulA K) gMulA := by
  intro x y M R H v w Q g m rx ry k
  unfold gMulA at g
  split at g
  · cases rx; cases ry
    exact .inl ⟨_, _, rfl, rfl, g.1, kq_keep k m g.2 rfl⟩
  · obtain ⟨a, vs, rfl, s1, q1⟩ := rx
    cases ry
    obtain ⟨hne, h1, h2, h3, g⟩ := g
    have hne' : vs ≠ [] := fun e => by
      subst e
      exact hne (List.length_eq_zero_iff.mp (q1.length.trans rfl))
    rename_i n
    by_cases hn : 2 ≤ n
    · exact .inr (.inr (.inl ⟨a, n, vs, rfl, rfl, s1, hne', hn, h2, by rw [← q1.length]; exact h3, fun p hp => kq_newT k m hp (q1.rep _) g⟩))
    · refine .inr (.inr (.inr ⟨a, n, vs, rfl, rfl, s1, hne', h1, by omega, fun e => ?_, fun e p hp => ?_⟩))
      · subst e
        have e1 : ∀ l : List D, (List.replicate (1 : Int).toNat l).flatten = l := fun l => by
          show (List.replicate 1 l).flatten = _
          simp
        rw [e1] at g
        exact kq_keep k m g ⟨a, vs, rfl, s1, q1⟩
      · have e0 : n.toNat = 0 := by omega
        rw [e0] at g
        exact kq_newT k m hp RVs.nil g
  · cases rx; cases ry
    split at g
    · rename_i xs hx
      obtain ⟨vs, a1, q1⟩ := rm_lst m hx
      exact .inr (.inl ⟨_, _, vs, rfl, rfl, a1, g.1, g.2.1, by rw [← q1.length]; exact g.2.2.1, fun p hp => kq_new k m hp (q1.rep _) (g.2.2.2 p (rm_none m hp))⟩)
    · exact g.elim
  · exact g.elim
def gSubA : D2 := fun x y M R => match x, y with
  | .int i, .int j => R (.int (i - j)) M
  | .bl i, .bl j => R (.int (b2i i - b2i j)) M
  | _, _ => False
def rSubA : R2 := fun x y H Q => (rI0 fun i j => V.int (i - j)) x y H Q ∨ ∃ i j, x = .bl i ∧ y = .bl j ∧ Q (.int (b2i i - b2i j)) H
theorem op_subA : OpR X (binaryOp .Sub) rSubA := opr_or op_sub (by
  intro pins s σ H x y v u Q I rx ry h
  obtain ⟨i, j, rfl, rfl, q⟩ := h
  cases rx; cases ry
  exact PyProof.Rows.sub_bool ⟨.int _, H, I.tok _, ⟨_, rfl⟩, q⟩)
theorem od_subA {K : PySem.W.Frag} : OpD K rSubA gSubA := by
  intro x y M R H v w Q g m rx ry k
  unfold gSubA at g
  split at g
  · cases rx; cases ry
    exact .inl ⟨_, _, rfl, rfl, kq_keep k m g rfl⟩
  · cases rx; cases ry
    exact .inr ⟨_, _, rfl, rfl, kq_keep k m g rfl⟩
  · exact g.elim
theorem _root_.L2.Room.units2 {k : Nat} {A : Around} (r : Room k A) : A.units + 65 < cLine := by have := r.un; omega
/-! ### in, not in of a list of data -/
def gIn : D2 := fun x y M R => match pydM M x, pydM M y with
  | some a, some (.list bs) => SeqAt.shaped a = true ∧ SeqAt.shaped (.list bs) = true ∧ R (.bl (bs.any fun z => PyData.eqv z a)) M
  | _, _ => False
def gNotIn : D2 := fun x y M R => match pydM M x, pydM M y with
  | some a, some (.list bs) => SeqAt.shaped a = true ∧ SeqAt.shaped (.list bs) = true ∧ R (.bl (!bs.any fun z => PyData.eqv z a)) M
  | _, _ => False
theorem od_in {K : PySem.W.Frag} : OpD K (rInD K) gIn := by
  intro x y M R H v w Q q m rx ry k
  unfold gIn at q
  split at q
  · rename_i a b e1 e2
    exact ⟨a, b, pydM_dp m e1 rx, pydM_dp m e2 ry, q.1, q.2.1, kq_keep k m q.2.2 rfl⟩
  · exact q.elim
theorem od_notIn {K : PySem.W.Frag} : OpD K (rNotInD K) gNotIn := by
  intro x y M R H v w Q q m rx ry k
  unfold gNotIn at q
  split at q
  · rename_i a b e1 e2
    exact ⟨a, b, pydM_dp m e1 rx, pydM_dp m e2 ry, q.1, q.2.1, kq_keep k m q.2.2 rfl⟩
  · exact q.elim
/-! ### any(a list of data) -/
def gAny : DC1 := fun xs M R => match xs with
  | [.ref a] => match M a with
    | some (.lst ys) => match pyds ys with
      | some ps => PyData.plainAll ps = true ∧ (∀ x ∈ ps, x.fits63) ∧ R (.bl (ps.any PyData.truthy)) M
      | none => False
    | _ => False
  | _ => False
def rAnyD (K : PySem.W.Frag) : List V → Hp → VK → Prop := fun vs H Q => ∃ (a : Addr) (xs : List V) (ps : List PyData), vs = [V.ref a] ∧ H a = some (.lst xs) ∧ DpAll K H xs ps ∧ PyData.plainAll ps = true ∧ (∀ x ∈ ps, x.fits63) ∧ Q (.bl (ps.any PyData.truthy)) H
theorem cr_anyD (hc : X.calm = true) : CallR X (.builtin "any") (rAnyD X.K) := by
  intro pins s σ H vs us Q I r h
  obtain ⟨a, xs, ps, rfl, hs, dp, hp, hf, q⟩ := h
  obtain ⟨its, rv, hl, hz⟩ := I.list (.inl (.inl hs))
  rw [Vals.ref1 r]
  obtain ⟨as, rr⟩ := Dp.readsAll I ps xs its dp rv
  refine PySem.W.any_list_data (I.ok.hd hc) hl.isList (by simpa using rr) hp hf fun h' tk hk => ?_
  exact ⟨.bl _, H, I.kept hk, rfl, q⟩
theorem cd_any {K : PySem.W.Frag} : CallD K (rAnyD K) gAny := by
  intro xs M R H vs Q g m r k
  unfold gAny at g
  split at g
  · obtain ⟨v, ws, rfl, q, t⟩ := r
    cases t; cases q
    split at g
    · rename_i ys he
      split at g
      · rename_i ps hps
        obtain ⟨us, a1, r2⟩ := rm_lst m he
        exact ⟨_, us, ps, rfl, a1, pyds_dp hps r2, g.1, g.2.1, kq_keep k m g.2.2 rfl⟩
      · exact g.elim
    · exact g.elim
  · exact g.elim
/-! ### three names at once -/
def sPar3 (i j l : Nat) (ta : DA) : DS := fun E δ M => ta δ M fun ds M1 => match ds with
  | [u, v, w] => E.nx (((δ.set i (some u)).set j (some v)).set l (some w)) M1
  | _ => False
theorem pds_par3 {i j l : Nat} {x y z : Str} {a b c : Expr} {ta : DA} {px py pz pt pos : Pos} {kt k2 : Nat} {pt2 : Pos} (hc : X.calm = true) (hN : X.N.Nodup) (hi : X.N[i]? = some x) (hj : X.N[j]? = some y) (hl : X.N[l]? = some z) (hij : i ≠ j) (hil : i ≠ l) (hjl : j ≠ l)
    (hx : X.env.scope.names.lookup x = some .local) (hy : X.env.scope.names.lookup y = some .local) (hz : X.env.scope.names.lookup z = some .local) (ha : PDA X [a, b, c] ta)
    (hw : swappedStores [.Tuple [.Name x px, .Name y py, .Name z pz] kt pt] (.Tuple [a, b, c] k2 pt2) X.env = pure (some [x, y, z]) := by rfl)
    (hs : swapsWithSole [.Tuple [.Name x px, .Name y py, .Name z pz] kt pt] (.Tuple [a, b, c] k2 pt2) pos.line X.env = pure false := by rfl) :
    PDS X (.Assign [.Tuple [.Name x px, .Name y py, .Name z pz] kt pt] (.Tuple [a, b, c] k2 pt2) pos) (sPar3 i j l ta) := ⟨PS_imp (ps_par3 hc hN hi hj hl hij hil hjl hx hy hz ha.pa hw hs) fun Dd σ H q => by
  obtain ⟨δ, M, R, S, m, h, k⟩ := q
  refine ⟨δ, M, _, S, m, h, fun ds M1 vs H1 h1 e1 r1 m1 => ?_⟩
  split at h1
  · obtain ⟨v, ws, rfl, q1, v2, w2, rfl, q2, v3, w3, rfl, q3, t⟩ := r1
    cases t
    exact ⟨v, v2, v3, rfl, k.nx _ M1 _ H1 h1 e1 ((((S.ext e1).set q1).set q2).set q3) m1⟩
  · exact h1.elim⟩
/-! ### l[i] op= e -/
def gIxL : D2 := fun x y M R => match x, y with
  | .ref a, .int i => match M a with
    | some (.lst xs) => match atI xs i with
      | some d => R d M
      | none => False
    | _ => False
  | _, _ => False
theorem od_ixL {K : PySem.W.Frag} : OpD K (rIxL K) gIxL := by
  intro x y M R H v w Q q m rx ry k
  unfold gIxL at q
  split at q
  · cases rx; cases ry
    split at q
    · rename_i xs hx
      obtain ⟨vs, a1, q1⟩ := rm_lst m hx
      split at q
      · rename_i d hd
        obtain ⟨u, h1, h2⟩ := atI_rv q1 hd
        exact ⟨_, vs, _, u, rfl, rfl, .inl (.inl a1), h1, kq_keep k m q h2⟩
      · exact q.elim
    · exact q.elim
  · exact q.elim
def sAugS (to ti te : DE) (g : DIp) : DS := fun E δ M => to δ M fun o M1 => ti δ M1 fun i M2 => gIxL o i M2 fun x M3 => te δ M3 fun y M4 => g x y M4 fun z M5 => gSetL o i z M5 fun M6 => E.nx δ M6
theorem pget_lst : PGet X (rIxL X.K) := fun pins s σ H o i ov iv Q I ro ri h => by
  obtain ⟨p, xs, i, z, rfl, rfl, hq, he, q⟩ := h
  cases ro
  obtain ⟨t, rfl⟩ := ri
  obtain ⟨its, r, pl, hz⟩ := I.list hq
  obtain ⟨j, h1, h2, h3, h4, h5⟩ := atI_get he
  obtain ⟨w, ew, rw'⟩ := r.get h2
  have hl := r.length
  have hn := line63
  have fin : EP X pins σ Q w s := ⟨z, H, I, rw', q⟩
  by_cases h0 : 0 ≤ i
  · have hj : i.toNat = j := by
      rw [seqIndex_of h0 h5] at h1
      exact Option.some.inj h1
    exact wpAny_getItem_list (x := w) pl.isList h0 (by omega) (by rw [hj]; simpa using ew) fin
  · have hj : (i + (its.toArray.size : Int)).toNat = j := by
      rw [seqIndex_neg (by omega) h4] at h1
      rw [List.size_toArray, ← hl]
      exact Option.some.inj h1
    exact wpAny_getItem_list_neg (x := w) pl.isList (by omega) (by rw [List.size_toArray] <;> omega) (by omega) (by rw [hj]; simpa using ew) fin
theorem pds_augS {o i e : Expr} {to ti te : DE} {op : Operator} {ri : TIp} {g : DIp} {tpos pos : Pos} (ho : PD X o to) (hi : PD X i ti) (he : PD X e te) (hp : PIp X op ri) (hg : IpD X.K ri g)
    (ha : ∀ ov iv new, augStore i ov iv new = (do holding [new, ov, iv] (setItem ov iv new); release [new, ov, iv] []; pure .next) := by intros; rfl) : PDS X (.AugAssign (.Subscript o i tpos) op e pos) (sAugS to ti te g) :=
  ⟨PS_imp (ps_augS ho.pe hi.pe pget_lst he.pe hp set_list ha) fun Dd σ H q => by
    obtain ⟨δ, M, R, S, m, h, k⟩ := q
    refine ⟨δ, M, _, S, m, h, fun x M1 v H1 h1 e1 r1 m1 => ?_⟩
    refine ⟨δ, M1, _, S.ext e1, m1, h1, fun y M2 w H2 h2 e2 r2 m2 => ?_⟩
    refine od_ixL x y M2 _ H2 v w _ h2 m2 (r1.ext e2) r2 fun d M3 u H3 h3 e3 r3 m3 => ?_
    refine ⟨δ, M3, _, S.ext ((e1.trans e2).trans e3), m3, h3, fun z M4 t H4 h4 e4 r4 m4 => ?_⟩
    refine hg d z M4 _ H4 u t _ h4 m4 (r3.ext e4) r4 fun z2 M5 t2 H5 h5 e5 r5 m5 => ?_
    have e15 := ((e2.trans e3).trans e4).trans e5
    refine sd_lst x y z2 M5 _ H5 v w t2 _ h5 m5 (r1.ext e15) (r2.ext ((e3.trans e4).trans e5)) r5 fun M6 H6 h6 e6 m6 => ?_
    exact k.nx δ M6 σ H6 h6 ((e1.trans e15).trans e6) (S.ext ((e1.trans e15).trans e6)) m6⟩
end
/-! ### reversed(xs), range(i, j, c) -/
section
variable {X : Cx} {tg : Expr}
def iReversed (t : DA) : DI := fun δ M R => t δ M fun ds M1 => match ds with
  | [d] => match srcD M1 d with
    | some (xs, ok) => R xs.reverse ok M1
    | none => False
  | _ => False
def iRange3 (t : DA) : DI := fun δ M R => t δ M fun ds M1 => match ds with
  | [.int i, .int j, .int c] => c = -1 ∧ (-(2 ^ 62) ≤ i ∧ i < 2 ^ 62 ∧ -(2 ^ 62) ≤ j ∧ j < 2 ^ 62) ∧ R ((List.range (i - j).toNat).map fun (n : Nat) => D.int (i - (n : Int))) (fun _ => True) M1
  | _ => False
theorem itc_ok {K : PySem.W.Frag} {H1 : Hp} (i : Int) (n : Nat) : ItOk K H1 (Itc i (-1) n) ((List.range n).map fun (k : Nat) => D.int (i - (k : Int))) (fun _ => True) where
  go := fun t H M e m o hi => by
    show t < n
    simpa using hi
  yld := fun t H M v H' e m o hi y => by
    obtain ⟨rfl, rfl⟩ := y
    have ht : t < n := by simpa using hi
    refine ⟨.int (i - (t : Int)), by simp [List.getElem?_map, List.getElem?_range ht], Ext.refl _, ?_, m⟩
    show V.int _ = V.int _
    congr 1
    omega
  stop := fun t H M e m o hi => by
    show n ≤ t
    simpa using hi
theorem pdi_range3 {a b c : Expr} {ta : DA} {p pos : Pos} (hg : Gl X "range") (hm : X.mg "range" = none) (ha : PDA X [a, b, c] ta)
    (hs : starEach [a, b, c] X.env = (false, eval a X.env) :: starEach [b, c] X.env := by rfl) (hpl : (backTo pos (starEach [b, c] X.env)).any (·.1) = false := by rfl) :
    PDI X tg (.Call (.Name "range" p) [a, b, c] [] pos) (iRange3 ta) :=
  ⟨PI_imp (pi_range3 hg hm ha.pa hs hpl) fun σ H Q q => by
    obtain ⟨δ, M, R, S, m, h, k⟩ := q
    refine ⟨δ, M, _, S, m, h, fun ds M1 vs H1 h1 e1 r1 m1 => ?_⟩
    split at h1
    · obtain ⟨v, ws, rfl, q1, v2, w2, rfl, q2, v3, w3, rfl, q3, t⟩ := r1
      cases t; cases q1; cases q2; cases q3
      obtain ⟨rfl, hb, h1⟩ := h1
      exact ⟨_, _, _, _, rfl, RgC.neg hb.1 hb.2.1 hb.2.2.1 hb.2.2.2, k _ _ M1 _ H1 h1 e1 m1 (itc_ok _ _)⟩
    · exact h1.elim⟩
theorem rev_get {α : Type} {xs : List α} {i : Nat} (h : i < xs.length) : xs.reverse[i]? = xs[xs.length - 1 - i]? := by
  rw [List.getElem?_reverse h]
theorem itv_ok {K : PySem.W.Frag} {H1 : Hp} {a : Addr} {ds : List D} {ok : Mem → Prop} (h : ∀ H M, Ext K H1 H → RM K H M → ok M → ∃ vs, SqL K H a vs ∧ RVs K H ds vs) : ItOk K H1 (Itv K a ds.length) ds.reverse ok where
  go := fun i H M e m o hi => by
    have hi : i < ds.length := by simpa using hi
    obtain ⟨vs, s, r⟩ := h H M e m o
    obtain ⟨v, hv, _⟩ := r.get (i := ds.length - 1 - i) (List.getElem?_eq_getElem (by omega))
    exact ⟨hi, vs, v, s, hv⟩
  yld := fun i H M v H' e m o hi y => by
    have hi : i < ds.length := by simpa using hi
    obtain ⟨vs, s, r⟩ := h H M e m o
    obtain ⟨rfl, y⟩ := y
    obtain ⟨u, hu, ru⟩ := r.get (i := ds.length - 1 - i) (List.getElem?_eq_getElem (by omega))
    have := (y vs s).symm.trans hu
    cases this
    exact ⟨ds[ds.length - 1 - i], by rw [rev_get hi]; exact List.getElem?_eq_getElem _, Ext.refl _, ru, m⟩
  stop := fun i H M e m o hi => by
    show ds.length ≤ i
    simpa using hi
theorem itvT_ok {K : PySem.W.Frag} {H1 : Hp} {a : Addr} {ds : List D} {vs : List V} {ok : Mem → Prop} (s : SqT K H1 a vs) (r : RVs K H1 ds vs) : ItOk K H1 (RT.ItvT K a ds.length) ds.reverse ok where
  go := fun i H M e m o hi => by
    have hi : i < ds.length := by simpa using hi
    obtain ⟨v, hv, _⟩ := r.get (i := ds.length - 1 - i) (List.getElem?_eq_getElem (by omega))
    exact ⟨hi, vs, v, e.sqT s, hv⟩
  yld := fun i H M v H' e m o hi y => by
    have hi : i < ds.length := by simpa using hi
    obtain ⟨rfl, y⟩ := y
    obtain ⟨u, hu, ru⟩ := (r.ext e).get (i := ds.length - 1 - i) (List.getElem?_eq_getElem (by omega))
    have := (y vs (e.sqT s)).symm.trans hu
    cases this
    exact ⟨ds[ds.length - 1 - i], by rw [rev_get hi]; exact List.getElem?_eq_getElem _, Ext.refl _, ru, m⟩
  stop := fun i H M e m o hi => by
    show ds.length ≤ i
    simpa using hi
def dOne (t : DA) : DE := fun δ M R => t δ M fun ds M1 => match ds with
  | [d] => R d M1
  | _ => False
theorem pdi_reversed {e : Expr} {te : DE} {p pos : Pos} (hg : Gl X "reversed") (hm : X.mg "reversed" = none) (he : PD X e te) (hs : starEach [e] X.env = (false, eval e X.env) :: starEach [] X.env := by rfl) : PDI X tg (.Call (.Name "reversed" p) [e] [] pos) (iReversed (aCons te aNil)) :=
  ⟨PI_imp (RT.pi_revA hg hm he.pe hs) fun σ H Q q => by
    obtain ⟨δ, M, R, S, m, h, k⟩ := q
    have h : te δ M fun d M1 => match srcD M1 d with
      | some (xs, ok) => R xs.reverse ok M1
      | none => False := h
    refine ⟨δ, M, _, S, m, h, fun d M1 v H1 h1 e1 r1 m1 => ?_⟩
    split at h1
    · rename_i xs ok he
      unfold srcD at he
      split at he
      · cases he
        obtain ⟨a, vs, rfl, s, r⟩ := r1
        refine ⟨a, vs, rfl, .inr ⟨s, k _ _ M1 _ H1 h1 e1 m1 ?_⟩⟩
        rw [← r.length]
        exact itvT_ok s r
      · cases he
        obtain ⟨a, vs, rfl, s, r⟩ := r1
        refine ⟨a, vs, rfl, .inl ⟨s.sq, k _ _ M1 _ H1 h1 e1 m1 ?_⟩⟩
        rw [← r.length]
        exact itv_ok fun H' M' e' m' _ => ⟨vs, (e'.rol s).sq, r.ext e'⟩
      · cases r1
        split at he
        · rename_i ys hy
          cases he
          obtain ⟨vs, a1, q1⟩ := rm_lst m1 hy
          refine ⟨_, vs, rfl, .inl ⟨.inl (.inl a1), k _ _ M1 _ H1 h1 e1 m1 ?_⟩⟩
          rw [← q1.length]
          refine itv_ok fun H' M' e' m' o => ?_
          obtain ⟨ws, a2, q2⟩ := rm_lst m' o
          exact ⟨ws, .inl (.inl a2), q2⟩
        · cases he
      · cases he
    · exact h1.elim⟩
end
/-! ### readings, unfolded by simp -/
section
variable {δ : DSt} {M : Mem} {R : DK} {RT : Bool → Mem → Prop} {RA : List D → Mem → Prop} {E : DEnds}
@[simp] theorem eq_gMulAii {i j : Int} : gMulA (.int i) (.int j) M R = (MulOk i j ∧ R (.int (i * j)) M) := propext Iff.rfl
@[simp] theorem eq_gMulAti {xs : List D} {k : Int} : gMulA (.tup xs) (.int k) M R = (xs ≠ [] ∧ -(2 ^ 62) ≤ k ∧ k ≤ 1000 ∧ xs.length ≤ 1000 ∧ R (.tup (List.replicate k.toNat xs).flatten) M) := propext Iff.rfl
@[simp] theorem eq_gMulAli {a : Addr} {k : Int} : gMulA (.ref a) (.int k) M R = (match M a with
    | some (.lst xs) => -(2 ^ 63) ≤ k ∧ k < 2 ^ 63 ∧ xs.length * k.toNat ≤ sizeLine ∧ ∀ p, M p = none → R (.ref p) (updM M p (.lst (List.replicate k.toNat xs).flatten))
    | _ => False) := propext Iff.rfl
@[simp] theorem eq_gSubAii {i j : Int} : gSubA (.int i) (.int j) M R = R (.int (i - j)) M := propext Iff.rfl
@[simp] theorem eq_gSubAbb {i j : Bool} : gSubA (.bl i) (.bl j) M R = R (.int (b2i i - b2i j)) M := propext Iff.rfl
@[simp] theorem eq_gAnyl {a : Addr} : gAny [.ref a] M R = (match M a with
    | some (.lst ys) => (match pyds ys with
      | some ps => PyData.plainAll ps = true ∧ (∀ x ∈ ps, x.fits63) ∧ R (.bl (ps.any PyData.truthy)) M
      | none => False)
    | _ => False) := propext Iff.rfl
@[simp] theorem eq_sPar3 {i j l : Nat} {t : DA} : sPar3 i j l t E δ M = t δ M fun ds M1 => (match ds with
  | [u, v, w] => E.nx (((δ.set i (some u)).set j (some v)).set l (some w)) M1
  | _ => False) := propext Iff.rfl
@[simp] theorem eq_gIxL {a : Addr} {i : Int} : gIxL (.ref a) (.int i) M R = (match M a with
    | some (.lst xs) => (match atI xs i with
      | some d => R d M
      | none => False)
    | _ => False) := propext Iff.rfl
@[simp] theorem eq_sAugS {to ti te : DE} {g : DIp} : sAugS to ti te g E δ M = to δ M fun o M1 => ti δ M1 fun i M2 => gIxL o i M2 fun x M3 => te δ M3 fun y M4 => g x y M4 fun z M5 => gSetL o i z M5 fun M6 => E.nx δ M6 := propext Iff.rfl
@[simp] theorem eq_iReversed {t : DA} {Q : List D → (Mem → Prop) → Mem → Prop} : iReversed t δ M Q = t δ M fun ds M1 => (match ds with
  | [d] => (match srcD M1 d with
    | some (xs, ok) => Q xs.reverse ok M1
    | none => False)
  | _ => False) := propext Iff.rfl
@[simp] theorem eq_iRange3 {t : DA} {Q : List D → (Mem → Prop) → Mem → Prop} : iRange3 t δ M Q = t δ M fun ds M1 => (match ds with
  | [.int i, .int j, .int c] => c = -1 ∧ (-(2 ^ 62) ≤ i ∧ i < 2 ^ 62 ∧ -(2 ^ 62) ≤ j ∧ j < 2 ^ 62) ∧ Q ((List.range (i - j).toNat).map fun (n : Nat) => D.int (i - (n : Int))) (fun _ => True) M1
  | _ => False) := propext Iff.rfl
@[simp] theorem eq_sWhile {c : DT} {tb : DS} : sWhile c tb E δ M = ∃ W : Nat → DSt → Mem → Prop, (∃ n, W n δ M) ∧ ∀ n δ M, W n δ M →
  c δ M fun b M1 => if b = true then tb { E with nx := fun δ' M' => ∃ n', n' < n ∧ W n' δ' M', ct := fun δ' M' => ∃ n', n' < n ∧ W n' δ' M', bk := E.nx } δ M1 else E.nx δ M1 := propext Iff.rfl
@[simp] theorem eq_iEnumerate {t : DA} {Q : List D → (Mem → Prop) → Mem → Prop} : iEnumerate t δ M Q = t δ M fun ds M1 => (match ds with
  | [d] => (match srcD M1 d with
    | some (xs, ok) => Q (enumD xs) ok M1
    | none => False)
  | _ => False) := propext Iff.rfl
end
end DD
end
section
namespace DD
open PySem PySem.Spec PyProof.Rows L2
theorem updM_swap {M : Mem} {p q : Addr} {a b : MO} (h : p ≠ q) : updM (updM M q a) p b = updM (updM M p b) q a := by
  funext x
  unfold updM
  by_cases h1 : x = p
  · by_cases h2 : x = q
    · exact absurd (h1.symm.trans h2) h
    · simp [h1, h2, h]
  · simp [h1]
/-- a comprehension that walks through states -/
theorem lc_seq {g : DG} {te : DE} {vs : List Nat} {δ : DSt} {R : DK} {ds : List D} {ok : Mem → Prop} {M1 : Mem} (F : Nat → Mem) (f : Nat → D) (F0 : F 0 = M1) (hl : ds.length ≤ sizeLine) (hok : ∀ i p acc, M1 p = none → ok (updM (F i) p (.lst acc)))
    (step : ∀ (i : Nat) (x : D) (p : Addr) (acc : List D) (RY : D → Mem → Prop), ds[i]? = some x → M1 p = none → (∀ M4, M4 = updM (F (i + 1)) p (.lst acc) → RY (f i) M4) → g x (wipeD δ vs) (updM (F i) p (.lst acc)) fun δ2 M2 => te δ2 M2 RY)
    (hR : ∀ p, M1 p = none → R (.ref p) (updM (F ds.length) p (.lst ((List.range ds.length).map f)))) : LcIn g tYesD te vs δ R ds ok M1 := by
  intro p hp
  refine ⟨fun i acc M => M = F i ∧ acc = (List.range i).map f, ⟨F0.symm, by simp⟩, ?_, ?_, ?_⟩
  · rintro i acc M ⟨rfl, rfl⟩
    exact hok i p _ hp
  · rintro i x acc M hx ⟨rfl, rfl⟩
    have hi : i < ds.length := (List.getElem?_eq_some_iff.mp hx).1
    refine ⟨by simp; omega, ?_⟩
    simp only [eq_tYesD, if_true]
    refine step i x p _ _ hx hp fun M4 e => ⟨_, e, rfl, ?_⟩
    rw [List.range_succ]; simp
  · rintro acc M ⟨rfl, rfl⟩
    exact hR p hp
@[simp] theorem tru_int {M : Mem} {i : Int} : truD M (.int i) = some (i != 0) := rfl
theorem updM_none {M : Mem} {p q : Addr} {o : MO} (h : updM M q o p = none) : p ≠ q ∧ M p = none := by
  by_cases e : p = q
  · rw [e, updM_same] at h; cases h
  · rw [updM_ne e] at h; exact ⟨e, h⟩
@[simp] theorem eq_gSum {M : Mem} {R : DK} {a : Addr} : gSum [.ref a] M R = (match M a with
    | some (.lst ys) => (match intsD ys with
      | some ns => ∃ M0, Sub M0 M ∧ R (.int ns.sum) M0
      | none => False)
    | _ => False) := propext Iff.rfl
theorem gsum_ints {M : Mem} {R : DK} {p : Addr} {ns : List Int} (h : M p = some (.lst (ns.map D.int))) : gSum [.ref p] M R = ∃ M0, Sub M0 M ∧ R (.int ns.sum) M0 := by
  rw [eq_gSum, h]
  show (match intsD (ns.map D.int) with
      | some ns => ∃ M0, Sub M0 M ∧ R (.int ns.sum) M0
      | none => False) = _
  rw [intsD_map]
@[simp] theorem eq_oNone {δ : DSt} {M : Mem} {R : Option Int → Mem → Prop} : oNone δ M R = R none M := propext Iff.rfl
@[simp] theorem eq_oSome {t : DE} {δ : DSt} {M : Mem} {R : Option Int → Mem → Prop} : oSome t δ M R = t δ M fun d M1 => (match d with
  | .int i => R (some i) M1
  | _ => False) := propext Iff.rfl
@[simp] theorem eq_dSl {te : DE} {tl th : DO} {δ : DSt} {M : Mem} {R : DK} : dSl te tl th δ M R = te δ M fun x M1 => tl δ M1 fun lo M2 => th δ M2 fun hi M3 => gSl x lo hi M3 R := propext Iff.rfl
@[simp] theorem eq_gSll {a : Addr} {lo hi : Option Int} {M : Mem} {R : DK} : gSl (.ref a) lo hi M R = (match M a with
    | some (.lst xs) => ∀ p, M p = none → R (.ref p) (updM M p (.lst (cutD xs lo hi)))
    | _ => False) := propext Iff.rfl
@[simp] theorem eq_gSlt {xs : List D} {lo hi : Option Int} {M : Mem} {R : DK} : gSl (.tup xs) lo hi M R = R (.tup (cutD xs lo hi)) M := propext Iff.rfl
theorem cut_to {xs : List D} {k : Int} (h0 : 0 ≤ k) (h1 : k ≤ xs.length) : cutD xs none (some k) = xs.take k.toNat := by
  unfold cutD HT.sIx
  simp only [List.drop_zero, Nat.sub_zero]
  rw [if_neg (by omega), Nat.min_eq_left (by omega)]
/-- the memory but for p -/
def hideM (M : Mem) (p : Addr) : Mem := fun a => if a = p then none else M a
theorem hide_put {M : Mem} {p : Addr} {o : MO} (h : M p = some o) : M = updM (hideM M p) p o := by
  funext a
  unfold updM hideM
  by_cases e : a = p
  · simp [e, h]
  · simp [e]
theorem hide_none {M : Mem} {p : Addr} : hideM M p p = none := by unfold hideM; simp
theorem hide_ne {M : Mem} {p a : Addr} (h : a ≠ p) : hideM M p a = M a := by unfold hideM; simp [h]
theorem ok_pair (n : Nat) (a b : D) (h1 : okD n a) (h2 : okD n b) : okD (n + 1) (.tup [a, b]) := ⟨by simp, fun x hx => by
  simp at hx
  rcases hx with rfl | rfl
  · exact h1
  · exact h2⟩
theorem ok_three (n : Nat) (a b c : D) (h1 : okD n a) (h2 : okD n b) (h3 : okD n c) : okD (n + 1) (.tup [a, b, c]) := ⟨by simp, fun x hx => by
  simp at hx
  rcases hx with rfl | rfl | rfl
  · exact h1
  · exact h2
  · exact h3⟩
theorem ok_int (n : Nat) (i : Int) : okD n (.int i) := by cases n <;> trivial
theorem Bag.hide {b g c p : Addr} {M : Mem} {N : Nat} (h : Bag M b g c N) (h1 : b ≠ p) (h2 : g ≠ p) (h3 : c ≠ p) : Bag (hideM M p) b g c N := h.frame (hide_ne h1) (hide_ne h2) (hide_ne h3)
theorem Bag.draw {b g c : Addr} {M : Mem} {N : Nat} {many : Int} {R : DK} (h : Bag M b g c N) (hN : N ≤ 2 ^ 40) (h0 : 0 < many) (h1 : many < 2 ^ 200) (k : ∀ x M', 0 ≤ x → x < many → Bag M' b g c (N + 1) → SameBut b g M M' → R (.int x) M') : spDraw [.ref b, .int many] M R :=
  ⟨b, g, c, N, many, rfl, h, hN, h0, h1, k⟩
theorem Bag.pick {b g c p : Addr} {M : Mem} {N : Nat} {xs : List D} {R : DK} (h : Bag M b g c N) (hN : N ≤ 2 ^ 40) (hp : M p = none) (h0 : xs ≠ []) (h1 : xs.length < 2 ^ 60) (k : ∀ x M', x ∈ xs → Bag M' b g c (N + 1) → SameBut b g (updM M p (.lst xs)) M' → R x M') : spPick [.ref b, .ref p] (updM M p (.lst xs)) R :=
  have n := h.ne hp
  ⟨b, g, c, p, N, xs, rfl, h.new hp, hN, updM_same, h0, h1, n.1, n.2.1, n.2.2, k⟩
end DD
end
section
/-! Polynomials with whole coefficients, least power first, known by their values. -/
namespace PA
def ev : List Int → Int → Int
  | [], _ => 0
  | a :: p, x => a + x * ev p x
theorem ev_append (p q : List Int) (x : Int) : ev (p ++ q) x = ev p x + x ^ p.length * ev q x := by
  induction p with
  | nil => simp [ev]
  | cons a p ih =>
    simp only [List.cons_append, ev, ih, List.length_cons, Int.pow_succ]
    grind
theorem ev_scale (p : List Int) (n x : Int) : ev (p.map fun c => c * n) x = n * ev p x := by
  induction p with
  | nil => simp [ev]
  | cons a p ih => simp only [List.map_cons, ev, ih]; grind
theorem ev_zeros {p : List Int} (h : ∀ a ∈ p, a = 0) (x : Int) : ev p x = 0 := by
  induction p with
  | nil => rfl
  | cons a p ih =>
    simp only [ev, ih fun b hb => h b (List.mem_cons_of_mem _ hb), h a List.mem_cons_self]
    simp
theorem all_dvd {d : Int} (h : ∀ x : Int, 0 < x → x ∣ d) : d = 0 := by
  have h1 := h (d.natAbs + 1) (by omega)
  obtain ⟨c, hc⟩ := h1
  by_cases hc0 : c = 0
  · rw [hc, hc0]; simp
  · have e : d.natAbs = (d.natAbs + 1) * c.natAbs := by
      have h2 := congrArg Int.natAbs hc
      rw [Int.natAbs_mul] at h2
      have e3 : ((d.natAbs : Int) + 1).natAbs = d.natAbs + 1 := by omega
      rw [e3] at h2
      exact h2
    have : 1 ≤ c.natAbs := by omega
    have : d.natAbs + 1 ≤ (d.natAbs + 1) * c.natAbs := Nat.le_mul_of_pos_right _ (by omega)
    omega
theorem head_eq {a b : Int} {f g : Int → Int} (h : ∀ x : Int, 0 < x → a + x * f x = b + x * g x) : a = b ∧ ∀ x : Int, 0 < x → f x = g x := by
  have e : a - b = 0 := all_dvd fun x hx => ⟨g x - f x, by have := h x hx; grind⟩
  have e2 : a = b := by omega
  refine ⟨e2, fun x hx => ?_⟩
  have h1 := h x hx
  rw [e2] at h1
  have h2 : x * f x = x * g x := by omega
  exact Int.eq_of_mul_eq_mul_left (by omega) h2
/-- no zero at the end -/
def isT (p : List Int) : Prop := ∀ h : p ≠ [], p.getLast h ≠ 0
theorem isT_nil : isT [] := fun h => absurd rfl h
theorem isT_tail {a : Int} {p : List Int} (h : isT (a :: p)) : isT p := fun hp => by
  have := h (by simp)
  rwa [List.getLast_cons hp] at this
theorem zero_of {p : List Int} (h : ∀ x : Int, 0 < x → ev p x = 0) : ∀ a ∈ p, a = 0 := by
  induction p with
  | nil => intro a ha; cases ha
  | cons b p ih =>
    have e := head_eq (a := b) (b := 0) (f := ev p) (g := fun _ => 0) (fun x hx => by have := h x hx; simp only [ev] at this; simpa using this)
    intro a ha
    rcases List.mem_cons.mp ha with rfl | ha
    · exact e.1
    · exact ih e.2 a ha
theorem nil_of {p : List Int} (hp : isT p) (h : ∀ x : Int, 0 < x → ev p x = 0) : p = [] := by
  by_cases e : p = []
  · exact e
  · exact absurd (zero_of h _ (List.getLast_mem e)) (hp e)
theorem ev_inj : ∀ {p q : List Int}, isT p → isT q → (∀ x : Int, 0 < x → ev p x = ev q x) → p = q
  | [], q, _, hq, h => (nil_of hq fun x hx => (h x hx).symm).symm
  | a :: p, [], hp, _, h => nil_of hp h
  | a :: p, b :: q, hp, hq, h => by
    obtain ⟨e1, e2⟩ := head_eq (f := ev p) (g := ev q) h
    rw [e1, ev_inj (isT_tail hp) (isT_tail hq) e2]
theorem ev_inj_len : ∀ {p q : List Int}, p.length = q.length → (∀ x : Int, 0 < x → ev p x = ev q x) → p = q
  | [], [], _, _ => rfl
  | [], _ :: _, h, _ => by simp at h
  | _ :: _, [], h, _ => by simp at h
  | a :: p, b :: q, hl, h => by
    obtain ⟨e1, e2⟩ := head_eq (f := ev p) (g := ev q) h
    rw [e1, ev_inj_len (by simpa using hl) e2]
theorem ev_set : ∀ (l : List Int) (k : Nat) (c x : Int), k < l.length → ev (l.set k (l.getD k 0 + c)) x = ev l x + c * x ^ k
  | [], k, _, _, h => by simp at h
  | a :: p, 0, c, x, _ => by simp only [List.set_cons_zero, ev, List.getD_cons_zero]; grind
  | a :: p, k + 1, c, x, h => by
    have ih := ev_set p k c x (by simpa using h)
    simp only [List.set_cons_succ, ev, List.getD_cons_succ, ih, Int.pow_succ]
    grind
def trim : List Int → List Int
  | [] => []
  | a :: p => match trim p with
    | [] => if a = 0 then [] else [a]
    | b :: q => a :: b :: q
theorem trim_isT : ∀ p : List Int, isT (trim p)
  | [] => isT_nil
  | a :: p => by
    unfold trim
    have ih := trim_isT p
    split
    · split
      · exact isT_nil
      · intro h; simpa using by assumption
    · rename_i b q e
      intro h
      rw [List.getLast_cons (by simp)]
      rw [e] at ih
      exact ih (by simp)
theorem ev_trim : ∀ (p : List Int) (x : Int), ev (trim p) x = ev p x
  | [], _ => rfl
  | a :: p, x => by
    have ih := ev_trim p x
    unfold trim
    split
    · rename_i e
      rw [e] at ih
      split
      · rename_i h; simp only [ev, ← ih, h]; simp
      · simp only [ev, ← ih]
    · rename_i b q e
      rw [e] at ih
      simp only [ev] at ih ⊢
      rw [← ih]
theorem trim_len : ∀ p : List Int, (trim p).length ≤ p.length
  | [] => Nat.le_refl _
  | a :: p => by
    have ih := trim_len p
    unfold trim
    split
    · split <;> simp
    · rename_i b q e
      rw [e] at ih
      simpa using ih
theorem trim_of {p : List Int} (h : isT p) : trim p = p := ev_inj (trim_isT p) h fun x _ => ev_trim p x
/-- what takes zeros off the end -/
theorem trim_take {l : List Int} {k : Nat} (hk : k ≤ l.length) (h0 : ∀ j, k ≤ j → l.getD j 0 = 0) (h1 : k = 0 ∨ l.getD (k - 1) 0 ≠ 0) : l.take k = trim l := by
  refine ev_inj (fun hne => ?_) (trim_isT l) fun x _ => ?_
  · rcases h1 with h1 | h1
    · subst h1; simp at hne
    · rw [List.getLast_eq_getElem]
      have hk0 : 0 < k := by
        rcases Nat.eq_zero_or_pos k with e | e
        · subst e; simp at hne
        · exact e
      have e : (l.take k).length - 1 = k - 1 := by rw [List.length_take]; omega
      simp only [e, List.getElem_take]
      have : l.getD (k - 1) 0 = l[k - 1]'(by omega) := by simp [List.getD, show k - 1 < l.length by omega]
      rwa [this] at h1
  · rw [ev_trim]
    have e : l = l.take k ++ l.drop k := (List.take_append_drop k l).symm
    have hz : ∀ a ∈ l.drop k, a = 0 := fun a ha => by
      obtain ⟨i, hi, rfl⟩ := List.getElem_of_mem ha
      rw [List.getElem_drop]
      have hi2 : k + i < l.length := by rw [List.length_drop] at hi; omega
      have := h0 (k + i) (by omega)
      simpa [List.getD, hi2] using this
    have h2 : ev l x = ev (l.take k ++ l.drop k) x := congrArg (fun l => ev l x) e
    rw [h2, ev_append, ev_zeros hz]
    simp
/-! ### products -/
def addL : List Int → List Int → List Int
  | [], q => q
  | p, [] => p
  | a :: p, b :: q => (a + b) :: addL p q
theorem ev_addL : ∀ (p q : List Int) (x : Int), ev (addL p q) x = ev p x + ev q x
  | [], q, x => by cases q <;> simp [addL, ev]
  | a :: p, [], x => by simp [addL, ev]
  | a :: p, b :: q, x => by simp only [addL, ev, ev_addL p q x]; grind
theorem addL_len : ∀ p q : List Int, (addL p q).length = max p.length q.length
  | [], q => by cases q <;> simp [addL]
  | a :: p, [] => by simp [addL]
  | a :: p, b :: q => by simp only [addL, List.length_cons, addL_len p q]; omega
def mulL : List Int → List Int → List Int
  | [], _ => []
  | a :: p, q => addL (q.map fun c => c * a) (0 :: mulL p q)
theorem ev_mulL : ∀ (p q : List Int) (x : Int), ev (mulL p q) x = ev p x * ev q x
  | [], q, x => by simp [mulL, ev]
  | a :: p, q, x => by simp only [mulL, ev_addL, ev_scale, ev, ev_mulL p q x]; grind
theorem mulL_len : ∀ {p q : List Int}, p ≠ [] → q ≠ [] → (mulL p q).length + 1 = p.length + q.length
  | [], _, h, _ => absurd rfl h
  | [a], q, _, hq => by
    cases q with
    | nil => exact absurd rfl hq
    | cons b q => simp [mulL, addL_len]; omega
  | a :: b :: p, q, _, hq => by
    have ih := mulL_len (p := b :: p) (q := q) (by simp) hq
    have : 1 ≤ q.length := by cases q with
      | nil => exact absurd rfl hq
      | cons c q => simp
    rw [mulL, addL_len]
    simp only [List.length_map, List.length_cons] at ih ⊢
    omega
theorem addL_last : ∀ {p q : List Int} (h : p.length < q.length) (hq : addL p q ≠ []), (addL p q).getLast hq = q.getLast (fun e => by subst e; simp at h)
  | [], q, h, hq => by simp [addL]
  | a :: p, [], h, _ => by simp at h
  | a :: p, b :: q, h, _ => by
    have h' : p.length < q.length := by simpa using h
    have hq' : addL p q ≠ [] := fun e => by have := addL_len p q; rw [e] at this; simp at this; omega
    have hq2 : q ≠ [] := fun e => by subst e; simp at h'
    simp only [addL]
    rw [List.getLast_cons hq', List.getLast_cons hq2, addL_last h' hq']
theorem mulL_last : ∀ {p q : List Int} (hp : p ≠ []) (hq : q ≠ []) (h : mulL p q ≠ []), (mulL p q).getLast h = p.getLast hp * q.getLast hq
  | [], _, h, _, _ => absurd rfl h
  | [a], q, _, hq, h => by
    cases q with
    | nil => exact absurd rfl hq
    | cons b q =>
      have e : mulL [a] (b :: q) = (b :: q).map fun c => c * a := by
        cases q <;> simp [mulL, addL]
      simp only [e, List.getLast_map]
      simp [Int.mul_comm]
  | a :: b :: p, q, _, hq, h => by
    have hne : mulL (b :: p) q ≠ [] := fun e => by
      have := mulL_len (p := b :: p) (q := q) (by simp) hq
      rw [e] at this
      have : 1 ≤ q.length := by cases q with
        | nil => exact absurd rfl hq
        | cons c q => simp
      simp at *
      omega
    have hl := mulL_len (p := b :: p) (q := q) (by simp) hq
    have h1 : (q.map fun c => c * a).length < (0 :: mulL (b :: p) q).length := by
      simp only [List.length_map, List.length_cons] at hl ⊢
      omega
    have h' : addL (q.map fun c => c * a) (0 :: mulL (b :: p) q) ≠ [] := h
    have e : (mulL (a :: b :: p) q).getLast h = (addL (q.map fun c => c * a) (0 :: mulL (b :: p) q)).getLast h' := rfl
    have hbp : b :: p ≠ [] := by simp
    rw [e, addL_last h1 h', List.getLast_cons hne, mulL_last hbp hq hne, List.getLast_cons hbp]
def pm (p q : List Int) : List Int := trim (mulL p q)
theorem pm_isT (p q : List Int) : isT (pm p q) := trim_isT _
theorem ev_pm (p q : List Int) (x : Int) : ev (pm p q) x = ev p x * ev q x := by unfold pm; rw [ev_trim, ev_mulL]
theorem mulL_ne {p q : List Int} (hp : p ≠ []) (hq : q ≠ []) : mulL p q ≠ [] := fun e => by
  have h1 := mulL_len hp hq
  have h2 := List.length_pos_iff.mpr hp
  have h3 := List.length_pos_iff.mpr hq
  rw [e] at h1
  simp at h1
  omega
theorem pm_eq {p q : List Int} (hp : isT p) (hq : isT q) (p0 : p ≠ []) (q0 : q ≠ []) : pm p q = mulL p q := by
  refine trim_of fun h => ?_
  rw [mulL_last p0 q0 h]
  exact Int.mul_ne_zero (hp p0) (hq q0)
theorem pm_len {p q : List Int} (hp : isT p) (hq : isT q) (p0 : p ≠ []) (q0 : q ≠ []) : (pm p q).length + 1 = p.length + q.length := by rw [pm_eq hp hq p0 q0]; exact mulL_len p0 q0
theorem pm_ne {p q : List Int} (hp : isT p) (hq : isT q) (p0 : p ≠ []) (q0 : q ≠ []) : pm p q ≠ [] := by rw [pm_eq hp hq p0 q0]; exact mulL_ne p0 q0
theorem pm_last {p q : List Int} (hp : isT p) (hq : isT q) (p0 : p ≠ []) (q0 : q ≠ []) (h : pm p q ≠ []) : (pm p q).getLast h = p.getLast p0 * q.getLast q0 := by
  have e := pm_eq hp hq p0 q0
  have e2 : (pm p q).getLast h = (mulL p q).getLast (mulL_ne p0 q0) := by simp only [e]
  rw [e2, mulL_last p0 q0]
theorem pm_nil_left (q : List Int) : pm [] q = [] := rfl
theorem pm_nil_right (p : List Int) : pm p [] = [] := nil_of (pm_isT _ _) fun x _ => by rw [ev_pm]; simp [ev]
/-! ### derivative -/
/-- i·c, (i + 1)·c', .. -/
def drFrom : Int → List Int → List Int
  | _, [] => []
  | i, a :: p => i * a :: drFrom (i + 1) p
def dr (p : List Int) : List Int := (drFrom 0 p).drop 1
/-- g is the derivative of f: f(x + h) = f(x) + h g(x) + h² k -/
def IsD (f g : Int → Int) : Prop := ∀ x h : Int, ∃ k : Int, f (x + h) = f x + h * g x + h * h * k
theorem IsD.uniq {f g1 g2 : Int → Int} (a : IsD f g1) (b : IsD f g2) (x : Int) : g1 x = g2 x := by
  have e : g1 x - g2 x = 0 := all_dvd fun h hh => by
    obtain ⟨k1, e1⟩ := a x h
    obtain ⟨k2, e2⟩ := b x h
    refine ⟨k2 - k1, ?_⟩
    have : h * (g1 x - g2 x) = h * (h * (k2 - k1)) := by grind
    exact Int.eq_of_mul_eq_mul_left (by omega) this
  omega
theorem IsD.const (c : Int) : IsD (fun _ => c) (fun _ => 0) := fun x h => ⟨0, by simp⟩
theorem IsD.add {f g f' g' : Int → Int} (a : IsD f f') (b : IsD g g') : IsD (fun x => f x + g x) (fun x => f' x + g' x) := fun x h => by
  obtain ⟨k, e⟩ := a x h
  obtain ⟨l, e'⟩ := b x h
  exact ⟨k + l, by simp only [e, e']; grind⟩
theorem IsD.mul {f g f' g' : Int → Int} (a : IsD f f') (b : IsD g g') : IsD (fun x => f x * g x) (fun x => f' x * g x + f x * g' x) := fun x h => by
  obtain ⟨k, e⟩ := a x h
  obtain ⟨l, e'⟩ := b x h
  refine ⟨k * (g x + h * g' x + h * h * l) + f' x * g' x + f' x * h * l + f x * l, ?_⟩
  simp only [e, e']
  grind
theorem IsD.id : IsD (fun x => x) (fun _ => 1) := fun x h => ⟨0, by simp⟩
theorem IsD.congr {f g f' g' : Int → Int} (a : IsD f f') (e : ∀ x, g x = f x) (e' : ∀ x, g' x = f' x) : IsD g g' := fun x h => by
  obtain ⟨k, h1⟩ := a x h
  exact ⟨k, by rw [e, e, e', h1]⟩
theorem ev_drFrom (i : Int) : ∀ (p : List Int) (x : Int), ev (drFrom (i + 1) p) x = ev (drFrom i p) x + ev p x
  | [], x => by simp [drFrom, ev]
  | a :: p, x => by
    have := ev_drFrom (i + 1) p x
    simp only [drFrom, ev, this]
    grind
theorem ev_dr_cons (a : Int) (p : List Int) (x : Int) : ev (dr (a :: p)) x = ev p x + x * ev (dr p) x := by
  show ev (drFrom (0 + 1) p) x = _
  rw [ev_drFrom]
  cases p with
  | nil => simp [drFrom, dr, ev]
  | cons b q =>
    show ev (0 * b :: drFrom (0 + 1) q) x + _ = _ + x * ev (drFrom (0 + 1) q) x
    simp only [ev]
    grind
theorem dr_isD : ∀ p : List Int, IsD (ev p) (ev (dr p))
  | [] => fun x h => ⟨0, by simp [ev, dr, drFrom]⟩
  | a :: p => by
    have h1 := (IsD.const a).add (IsD.id.mul (dr_isD p))
    refine h1.congr (fun x => rfl) fun x => ?_
    rw [ev_dr_cons]
    grind
theorem dr_len (p : List Int) : (dr p).length = p.length - 1 := by
  have : ∀ (i : Int) (p : List Int), (drFrom i p).length = p.length := fun i p => by
    induction p generalizing i with
    | nil => rfl
    | cons a p ih => simp [drFrom, ih]
  simp [dr, this]
theorem drFrom_last : ∀ (i : Int) (p : List Int) (hp : p ≠ []) (h : drFrom i p ≠ []), (drFrom i p).getLast h = (i + (p.length : Int) - 1) * p.getLast hp
  | _, [], h, _ => absurd rfl h
  | i, [a], _, _ => by
    simp only [drFrom, List.getLast_singleton, List.length_cons, List.length_nil]
    grind
  | i, a :: b :: p, _, h => by
    have h1 : drFrom (i + 1) (b :: p) ≠ [] := by simp [drFrom]
    have h2 : b :: p ≠ [] := by simp
    have ih := drFrom_last (i + 1) (b :: p) h2 h1
    have e : (drFrom i (a :: b :: p)).getLast h = (drFrom (i + 1) (b :: p)).getLast h1 := List.getLast_cons h1
    rw [e, ih, List.getLast_cons h2]
    have e2 : i + 1 + ((b :: p).length : Int) - 1 = i + ((a :: b :: p).length : Int) - 1 := by simp only [List.length_cons]; omega
    rw [e2]
theorem dr_isT {p : List Int} (hp : isT p) : isT (dr p) := by
  cases p with
  | nil => exact isT_nil
  | cons a p =>
    intro h
    have h1 : drFrom (0 + 1) p ≠ [] := h
    have hp0 : p ≠ [] := fun e => by subst e; exact h1 rfl
    have e : (dr (a :: p)).getLast h = (drFrom (0 + 1) p).getLast h1 := rfl
    rw [e, drFrom_last _ p hp0]
    have : 1 ≤ p.length := List.length_pos_iff.mpr hp0
    exact Int.mul_ne_zero (by omega) (isT_tail hp hp0)
end PA
end
section
namespace PA
/-! ### functions that are polynomials; coprime ones -/
abbrev F := Int → Int
def PFun (f : F) : Prop := ∃ p : List Int, ∀ x, f x = ev p x
theorem PFun.ev (p : List Int) : PFun (PA.ev p) := ⟨p, fun _ => rfl⟩
theorem PFun.const (c : Int) : PFun (fun _ => c) := ⟨[c], fun x => by simp [PA.ev]⟩
theorem PFun.add {f g : F} (a : PFun f) (b : PFun g) : PFun (fun x => f x + g x) := by
  obtain ⟨p, hp⟩ := a
  obtain ⟨q, hq⟩ := b
  exact ⟨addL p q, fun x => by show f x + g x = _; rw [ev_addL, hp, hq]⟩
theorem PFun.mul {f g : F} (a : PFun f) (b : PFun g) : PFun (fun x => f x * g x) := by
  obtain ⟨p, hp⟩ := a
  obtain ⟨q, hq⟩ := b
  exact ⟨mulL p q, fun x => by show f x * g x = _; rw [ev_mulL, hp, hq]⟩
theorem PFun.scale {f : F} (c : Int) (a : PFun f) : PFun (fun x => c * f x) := (PFun.const c).mul a
theorem PFun.congr {f g : F} (a : PFun f) (h : ∀ x, g x = f x) : PFun g := by
  obtain ⟨p, hp⟩ := a
  exact ⟨p, fun x => (h x).trans (hp x)⟩
theorem PFun.neg {f : F} (a : PFun f) : PFun (fun x => -f x) := (a.scale (-1)).congr fun x => by grind
theorem PFun.sub {f g : F} (a : PFun f) (b : PFun g) : PFun (fun x => f x - g x) := (a.add b.neg).congr fun x => by grind
def powF (f : F) : Nat → F
  | 0 => fun _ => 1
  | n + 1 => fun x => f x * powF f n x
theorem powF_add (f : F) (m n : Nat) (x : Int) : powF f (m + n) x = powF f m x * powF f n x := by
  induction m with
  | zero => simp [powF]
  | succ m ih =>
    rw [Nat.succ_add]
    show f x * powF f (m + n) x = f x * powF f m x * powF f n x
    rw [ih]; grind
theorem PFun.pow {f : F} (a : PFun f) : ∀ n, PFun (powF f n)
  | 0 => PFun.const 1
  | n + 1 => a.mul (PFun.pow a n)
def Cop (f g : F) : Prop := ∃ u v : F, PFun u ∧ PFun v ∧ ∃ c : Int, c ≠ 0 ∧ ∀ x, u x * f x + v x * g x = c
theorem Cop.symm {f g : F} (h : Cop f g) : Cop g f := by
  obtain ⟨u, v, hu, hv, c, hc, e⟩ := h
  exact ⟨v, u, hv, hu, c, hc, fun x => by rw [← e x]; grind⟩
theorem Cop.const {c : Int} (hc : c ≠ 0) (g : F) : Cop (fun _ => c) g := ⟨fun _ => 1, fun _ => 0, .const 1, .const 0, c, hc, fun x => by simp⟩
theorem Cop.mul {f g h : F} (pf : PFun f) (ph : PFun h) (pg : PFun g) (a : Cop f h) (b : Cop g h) : Cop (fun x => f x * g x) h := by
  obtain ⟨u, v, hu, hv, c, hc, e⟩ := a
  obtain ⟨s, t, hs, ht, d, hd, e'⟩ := b
  refine ⟨fun x => u x * s x, fun x => u x * f x * t x + v x * s x * g x + v x * t x * h x, hu.mul hs, (((hu.mul pf).mul ht).add ((hv.mul hs).mul pg)).add ((hv.mul ht).mul ph), c * d, Int.mul_ne_zero hc hd, fun x => ?_⟩
  rw [← e x, ← e' x]
  grind
theorem Cop.pow {f h : F} (pf : PFun f) (ph : PFun h) (a : Cop f h) : ∀ n, Cop (powF f n) h
  | 0 => Cop.const (by decide) h
  | n + 1 => Cop.mul pf ph (pf.pow n) a (Cop.pow pf ph a n)
theorem Cop.add_mul {f g t : F} (pt : PFun t) (h : Cop f g) : Cop f (fun x => g x + t x * f x) := by
  obtain ⟨u, v, hu, hv, c, hc, e⟩ := h
  refine ⟨fun x => u x - v x * t x, v, hu.sub (hv.mul pt), hv, c, hc, fun x => ?_⟩
  rw [← e x]; grind
theorem Cop.congr {f g f' g' : F} (h : Cop f g) (e1 : ∀ x, f' x = f x) (e2 : ∀ x, g' x = g x) : Cop f' g' := by
  obtain ⟨u, v, hu, hv, c, hc, e⟩ := h
  exact ⟨u, v, hu, hv, c, hc, fun x => by rw [e1, e2]; exact e x⟩
/-! ### content -/
def contFrom (g : Nat) (p : List Int) : Nat := p.foldl (fun g c => Nat.gcd g c.natAbs) g
def cont (p : List Int) : Nat := contFrom 0 p
theorem contFrom_scale (n : Int) : ∀ (p : List Int) (g : Nat), contFrom (n.natAbs * g) (p.map fun c => c * n) = n.natAbs * contFrom g p
  | [], g => rfl
  | a :: p, g => by
    show contFrom (Nat.gcd (n.natAbs * g) (a * n).natAbs) (p.map fun c => c * n) = n.natAbs * contFrom (Nat.gcd g a.natAbs) p
    rw [← contFrom_scale n p]
    congr 1
    rw [Int.natAbs_mul, Nat.mul_comm a.natAbs, Nat.gcd_mul_left]
theorem cont_scale (n : Int) (p : List Int) : cont (p.map fun c => c * n) = n.natAbs * cont p := by
  have := contFrom_scale n p 0
  simpa [cont] using this
theorem contFrom_dvd : ∀ (p : List Int) (g : Nat), contFrom g p ∣ g ∧ ∀ a ∈ p, contFrom g p ∣ a.natAbs
  | [], g => ⟨Nat.dvd_refl _, fun _ h => nomatch h⟩
  | a :: p, g => by
    obtain ⟨h1, h2⟩ := contFrom_dvd p (Nat.gcd g a.natAbs)
    refine ⟨Nat.dvd_trans h1 (Nat.gcd_dvd_left _ _), fun b hb => ?_⟩
    rcases List.mem_cons.mp hb with rfl | hb
    · exact Nat.dvd_trans h1 (Nat.gcd_dvd_right _ _)
    · exact h2 b hb
theorem dvd_contFrom (d : Nat) : ∀ (p : List Int) (g : Nat), d ∣ g → (∀ a ∈ p, d ∣ a.natAbs) → d ∣ contFrom g p
  | [], g, h, _ => h
  | a :: p, g, h, h2 => dvd_contFrom d p _ (Nat.dvd_gcd h (h2 a List.mem_cons_self)) fun b hb => h2 b (List.mem_cons_of_mem _ hb)
theorem cont_dvd {p : List Int} {a : Int} (h : a ∈ p) : cont p ∣ a.natAbs := (contFrom_dvd p 0).2 a h
theorem dvd_cont {d : Nat} {p : List Int} (h : ∀ a ∈ p, d ∣ a.natAbs) : d ∣ cont p := dvd_contFrom d p 0 (Nat.dvd_zero d) h
theorem cont_pos {p : List Int} (hp : isT p) (h0 : p ≠ []) : 0 < cont p := by
  rcases Nat.eq_zero_or_pos (cont p) with e | e
  · have h1 := cont_dvd (List.getLast_mem h0)
    rw [e] at h1
    have := Nat.eq_zero_of_zero_dvd h1
    exact absurd (by omega : p.getLast h0 = 0) (hp h0)
  · exact e
/-- without a common divisor, the last number above 0 -/
structure Prm (p : List Int) : Prop where
  t : isT p
  ne : p ≠ []
  one : cont p = 1
  pos : 0 < p.getLast ne
theorem map_last {p : List Int} (f : Int → Int) (h : p ≠ []) (h' : p.map f ≠ []) : (p.map f).getLast h' = f (p.getLast h) := List.getLast_map ..
theorem scale_isT {p : List Int} {n : Int} (hp : isT p) (hn : n ≠ 0) : isT (p.map fun c => c * n) := fun h => by
  have h0 : p ≠ [] := fun e => by subst e; exact h rfl
  rw [map_last _ h0]
  exact Int.mul_ne_zero (hp h0) hn
/-- two such that are alike but for a number are one -/
theorem Prm.uniq {g h : List Int} {a b : Int} (hg : Prm g) (hh : Prm h) (ha : a ≠ 0) (hb : b ≠ 0) (e : ∀ x : Int, 0 < x → a * ev g x = b * ev h x) : g = h := by
  have e1 : (g.map fun c => c * a) = h.map fun c => c * b := ev_inj (scale_isT hg.t ha) (scale_isT hh.t hb) fun x hx => by rw [ev_scale, ev_scale]; exact e x hx
  have e2 := congrArg cont e1
  rw [cont_scale, cont_scale, hg.one, hh.one, Nat.mul_one, Nat.mul_one] at e2
  have h1 : g.map (fun c => c * a) ≠ [] := by simpa using hg.ne
  have e3 : (g.map fun c => c * a).getLast h1 = (h.map fun c => c * b).getLast (by rw [← e1]; exact h1) := by simp only [e1]
  rw [map_last _ hg.ne, map_last _ hh.ne] at e3
  have p1 := hg.pos
  have p2 := hh.pos
  have hab : a = b := by
    rcases Int.natAbs_eq_natAbs_iff.mp e2 with h3 | h3
    · exact h3
    · subst h3
      have : (g.getLast hg.ne + h.getLast hh.ne) * b = 0 := by grind
      rcases Int.mul_eq_zero.mp this with h4 | h4
      · omega
      · exact absurd h4 hb
  subst hab
  refine ev_inj hg.t hh.t fun x hx => ?_
  exact Int.eq_of_mul_eq_mul_left ha (e x hx)
/-! ### Gauss -/
def DvF (l : Int) (f : F) : Prop := ∃ g : F, PFun g ∧ ∀ x : Int, 0 < x → f x = l * g x
theorem dvF_of {l : Int} {p : List Int} (h : ∀ a ∈ p, l ∣ a) : DvF l (ev p) := by
  induction p with
  | nil => exact ⟨fun _ => 0, .const 0, fun x _ => by simp [ev]⟩
  | cons a p ih =>
    obtain ⟨c, hc⟩ := h a List.mem_cons_self
    obtain ⟨g, ⟨q, hq⟩, e⟩ := ih fun b hb => h b (List.mem_cons_of_mem _ hb)
    refine ⟨fun x => c + x * g x, ⟨c :: q, fun x => by simp only [ev, hq]⟩, fun x hx => ?_⟩
    simp only [ev, e x hx, hc]; grind
theorem of_dvF {l : Int} : ∀ {p : List Int}, DvF l (ev p) → ∀ a ∈ p, l ∣ a
  | [], _ => fun _ h => nomatch h
  | a :: p, h => by
    obtain ⟨g, ⟨q, hq⟩, e⟩ := h
    have key : ∀ x : Int, 0 < x → a + x * ev p x = l * (q.headD 0) + x * (l * ev q.tail x) := fun x hx => by
      have := e x hx
      rw [hq] at this
      simp only [ev] at this
      cases q with
      | nil =>
        show a + x * ev p x = l * 0 + x * (l * 0)
        simp only [ev] at this
        rw [this]; grind
      | cons b q => simp only [ev, List.headD_cons, List.tail_cons] at this ⊢; rw [this]; grind
    obtain ⟨e1, e2⟩ := head_eq key
    intro b hb
    rcases List.mem_cons.mp hb with rfl | hb
    · exact ⟨_, e1⟩
    · exact of_dvF ⟨ev q.tail, .ev _, e2⟩ b hb
def PrimeI (l : Nat) : Prop := 2 ≤ l ∧ ∀ a b : Int, (l : Int) ∣ a * b → (l : Int) ∣ a ∨ (l : Int) ∣ b
theorem prime_below : ∀ (n d : Nat), d ≤ n → 2 ≤ d → ∃ l, PrimeI l ∧ l ∣ d := by
  intro n
  induction n with
  | zero => intro d h1 h2; omega
  | succ n ih =>
    intro d h1 h2
    by_cases hd : ∃ e, 2 ≤ e ∧ e < d ∧ e ∣ d
    · obtain ⟨e, e2, e3, e4⟩ := hd
      obtain ⟨l, hl, h⟩ := ih e (by omega) e2
      exact ⟨l, hl, Nat.dvd_trans h e4⟩
    · refine ⟨d, ⟨h2, fun a b hab => ?_⟩, Nat.dvd_refl d⟩
      by_cases ha : (d : Int) ∣ a
      · exact .inl ha
      · right
        have hg : Nat.gcd d a.natAbs = 1 := by
          have g1 := Nat.gcd_dvd_left d a.natAbs
          have g2 := Nat.gcd_dvd_right d a.natAbs
          have g3 := Nat.le_of_dvd (by omega) g1
          have g4 : 0 < Nat.gcd d a.natAbs := Nat.gcd_pos_of_pos_left _ (by omega)
          by_cases hlt : Nat.gcd d a.natAbs < d
          · by_cases h2 : 2 ≤ Nat.gcd d a.natAbs
            · exact absurd ⟨_, h2, hlt, g1⟩ hd
            · omega
          · have : Nat.gcd d a.natAbs = d := by omega
            rw [this] at g2
            exact absurd (Int.natAbs_dvd_natAbs.mp (by simpa using g2)) ha
        have h3 : d ∣ a.natAbs * b.natAbs := by
          rw [← Int.natAbs_mul]
          have := Int.natAbs_dvd_natAbs.mpr hab
          simpa using this
        have h4 : d ∣ b.natAbs := Nat.Coprime.dvd_of_dvd_mul_left hg h3
        exact Int.natAbs_dvd_natAbs.mp (by simpa using h4)
theorem gauss_aux {l : Nat} (hl : PrimeI l) : ∀ (n : Nat) (p q : List Int), p.length + q.length ≤ n → DvF l (fun x => ev p x * ev q x) → (∀ a ∈ p, (l : Int) ∣ a) ∨ ∀ a ∈ q, (l : Int) ∣ a := by
  intro n
  induction n with
  | zero =>
    intro p q h _
    cases p with
    | nil => exact .inl fun _ h => nomatch h
    | cons a p => simp at h
  | succ n ih =>
    intro p q hn h
    cases p with
    | nil => exact .inl fun _ h => nomatch h
    | cons a p =>
      cases q with
      | nil => exact .inr fun _ h => nomatch h
      | cons b q =>
        obtain ⟨g, ⟨r, hr⟩, e⟩ := h
        have key : ∀ x : Int, 0 < x → a * b + x * (a * ev q x + b * ev p x + x * (ev p x * ev q x)) = l * r.headD 0 + x * (l * ev r.tail x) := fun x hx => by
          have := e x hx
          rw [hr] at this
          simp only [ev] at this
          cases r with
          | nil =>
            show _ = (l : Int) * 0 + x * ((l : Int) * 0)
            simp only [ev] at this
            have h0 : (l : Int) * 0 + x * ((l : Int) * 0) = l * 0 := by simp
            rw [h0, ← this]
            grind
          | cons c r => simp only [ev, List.headD_cons, List.tail_cons] at this ⊢; grind
        obtain ⟨e1, e2⟩ := head_eq key
        rcases hl.2 a b ⟨_, e1⟩ with ⟨c, hc⟩ | ⟨c, hc⟩
        · rcases ih p (b :: q) (by simp only [List.length_cons] at hn ⊢; omega) ⟨fun x => ev r.tail x - c * ev q x, (PFun.ev _).sub ((PFun.ev _).scale c), fun x hx => by
            have := e2 x hx
            simp only [ev]
            rw [hc] at this
            grind⟩ with h1 | h1
          · left
            intro z hz
            rcases List.mem_cons.mp hz with rfl | hz
            · exact ⟨c, hc⟩
            · exact h1 z hz
          · exact .inr h1
        · rcases ih (a :: p) q (by simp only [List.length_cons] at hn ⊢; omega) ⟨fun x => ev r.tail x - c * ev p x, (PFun.ev _).sub ((PFun.ev _).scale c), fun x hx => by
            have := e2 x hx
            simp only [ev]
            rw [hc] at this
            grind⟩ with h1 | h1
          · exact .inl h1
          · right
            intro z hz
            rcases List.mem_cons.mp hz with rfl | hz
            · exact ⟨c, hc⟩
            · exact h1 z hz
theorem Prm.mul {p q : List Int} (hp : Prm p) (hq : Prm q) : Prm (pm p q) := by
  have h0 := pm_ne hp.t hq.t hp.ne hq.ne
  refine ⟨pm_isT _ _, h0, ?_, ?_⟩
  · have hpos := cont_pos (pm_isT p q) h0
    by_cases h1 : cont (pm p q) = 1
    · exact h1
    · obtain ⟨l, hl, hd⟩ := prime_below _ (cont (pm p q)) (Nat.le_refl _) (by omega)
      have key : DvF l (fun x => ev p x * ev q x) := by
        obtain ⟨g, pg, e⟩ := dvF_of (l := (l : Int)) (p := pm p q) fun a ha => Int.natAbs_dvd_natAbs.mp (by simpa using Nat.dvd_trans hd (cont_dvd ha))
        exact ⟨g, pg, fun x hx => by show ev p x * ev q x = _; rw [← ev_pm]; exact e x hx⟩
      have fin : ∀ r : List Int, Prm r → (∀ a ∈ r, (l : Int) ∣ a) → False := fun r hr h => by
        have := dvd_cont (d := l) (p := r) fun a ha => by simpa using Int.natAbs_dvd_natAbs.mpr (h a ha)
        rw [hr.one] at this
        have := Nat.le_of_dvd (by decide) this
        have := hl.1
        omega
      rcases gauss_aux hl _ p q (Nat.le_refl _) key with h | h
      · exact (fin p hp h).elim
      · exact (fin q hq h).elim
  · rw [pm_last hp.t hq.t hp.ne hq.ne]
    exact Int.mul_pos hp.pos hq.pos
end PA
end
section
namespace PA
/-! ### what both have -/
structure GcdOf (g p q : F) : Prop where
  dl : ∃ c : Int, c ≠ 0 ∧ ∃ u : F, PFun u ∧ ∀ x, c * p x = g x * u x
  dr : ∃ c : Int, c ≠ 0 ∧ ∃ u : F, PFun u ∧ ∀ x, c * q x = g x * u x
  bz : ∃ c : Int, c ≠ 0 ∧ ∃ u v : F, PFun u ∧ PFun v ∧ ∀ x, c * g x = u x * p x + v x * q x
theorem GcdOf.congr {g p q p' q' : F} (h : GcdOf g p q) (e1 : ∀ x, p' x = p x) (e2 : ∀ x, q' x = q x) : GcdOf g p' q' := by
  obtain ⟨⟨c, hc, u, hu, e⟩, ⟨d, hd, v, hv, e'⟩, ⟨b, hb, s, t, hs, ht, e''⟩⟩ := h
  exact ⟨⟨c, hc, u, hu, fun x => by rw [e1]; exact e x⟩, ⟨d, hd, v, hv, fun x => by rw [e2]; exact e' x⟩, ⟨b, hb, s, t, hs, ht, fun x => by rw [e1, e2]; exact e'' x⟩⟩
theorem GcdOf.symm {g p q : F} (h : GcdOf g p q) : GcdOf g q p := by
  obtain ⟨a, b, c, hc, u, v, hu, hv, e⟩ := h
  exact ⟨b, a, c, hc, v, u, hv, hu, fun x => by rw [e]; grind⟩
/-- numbers before them don't matter -/
theorem GcdOf.scaled {g p q p' q' : F} {a b a' b' : Int} (ha : a ≠ 0) (hb : b ≠ 0) (ha' : a' ≠ 0) (hb' : b' ≠ 0) (h : GcdOf g p q) (e1 : ∀ x, a * p' x = a' * p x) (e2 : ∀ x, b * q' x = b' * q x) : GcdOf g p' q' := by
  obtain ⟨⟨c, hc, u, hu, e⟩, ⟨d, hd, v, hv, e'⟩, ⟨k, hk, s, t, hs, ht, e''⟩⟩ := h
  refine ⟨⟨c * a, Int.mul_ne_zero hc ha, fun x => a' * u x, hu.scale a', fun x => ?_⟩, ⟨d * b, Int.mul_ne_zero hd hb, fun x => b' * v x, hv.scale b', fun x => ?_⟩,
    ⟨k * a' * b', Int.mul_ne_zero (Int.mul_ne_zero hk ha') hb', fun x => b' * a * s x, fun x => a' * b * t x, hs.scale _, ht.scale _, fun x => ?_⟩⟩
  · have h1 := e x; have h2 := e1 x; grind
  · have h1 := e' x; have h2 := e2 x; grind
  · have h1 := e'' x; have h2 := e1 x; have h3 := e2 x; grind
theorem list_of {f : F} (h : PFun f) : ∃ p : List Int, isT p ∧ ∀ x, f x = ev p x := by
  obtain ⟨p, hp⟩ := h
  exact ⟨trim p, trim_isT p, fun x => by rw [ev_trim]; exact hp x⟩
theorem len_of {g h w : List Int} {c : Int} (hc : c ≠ 0) (tg : isT g) (g0 : g ≠ []) (th : isT h) (h0 : h ≠ []) (tw : isT w) (e : ∀ x : Int, 0 < x → c * ev g x = ev h x * ev w x) : w ≠ [] ∧ g.length + 1 = h.length + w.length := by
  have e1 : (g.map fun a => a * c) = pm h w := ev_inj (scale_isT tg hc) (pm_isT _ _) fun x hx => by rw [ev_scale, ev_pm]; exact e x hx
  have w0 : w ≠ [] := fun z => by
    subst z
    rw [pm_nil_right] at e1
    exact g0 (List.map_eq_nil_iff.mp e1)
  refine ⟨w0, ?_⟩
  have := pm_len th tw h0 w0
  rw [← e1, List.length_map] at this
  exact this
theorem gcd_dvd {g h : F} {p q : F} (a : GcdOf g p q) (b : GcdOf h p q) : ∃ c : Int, c ≠ 0 ∧ ∃ w : F, PFun w ∧ ∀ x, c * g x = h x * w x := by
  obtain ⟨_, _, c, hc, u, v, hu, hv, e⟩ := a
  obtain ⟨⟨a1, ha, s, hs, e1⟩, ⟨b1, hb, t, ht, e2⟩, _⟩ := b
  refine ⟨c * a1 * b1, Int.mul_ne_zero (Int.mul_ne_zero hc ha) hb, fun x => b1 * (u x * s x) + a1 * (v x * t x), ((hu.mul hs).scale _).add ((hv.mul ht).scale _), fun x => ?_⟩
  have h1 := e x; have h2 := e1 x; have h3 := e2 x
  grind
theorem gcd_uniq {g h : List Int} {p q : F} (hg : Prm g) (hh : Prm h) (a : GcdOf (ev g) p q) (b : GcdOf (ev h) p q) : g = h := by
  obtain ⟨c, hc, w, pw, e⟩ := gcd_dvd a b
  obtain ⟨d, hd, z, pz, e'⟩ := gcd_dvd b a
  obtain ⟨w', tw, ew⟩ := list_of pw
  obtain ⟨z', tz, ez⟩ := list_of pz
  obtain ⟨w0, l1⟩ := len_of hc hg.t hg.ne hh.t hh.ne tw fun x _ => by rw [e, ew]
  obtain ⟨z0, l2⟩ := len_of hd hh.t hh.ne hg.t hg.ne tz fun x _ => by rw [e', ez]
  have hw : w'.length = 1 := by
    have := List.length_pos_iff.mpr w0
    have := List.length_pos_iff.mpr z0
    omega
  obtain ⟨k, rfl⟩ := List.length_eq_one_iff.mp hw
  have k0 : k ≠ 0 := tw (by simp)
  refine Prm.uniq hg hh hc k0 fun x _ => ?_
  have h1 := e x
  rw [ew] at h1
  simp only [ev] at h1
  rw [h1]; grind
/-! ### products of factors that part no further -/
structure Fac (f : List Int) : Prop where
  prm : Prm f
  len : 2 ≤ f.length
  sq : Cop (ev f) (ev (dr f))
structure UOk (U : List (List Int)) : Prop where
  fac : ∀ f ∈ U, Fac f
  pw : U.Pairwise fun f g => Cop (ev f) (ev g)
theorem UOk.tail {f : List Int} {U : List (List Int)} (h : UOk (f :: U)) : UOk U := ⟨fun g hg => h.fac g (List.mem_cons_of_mem _ hg), (List.pairwise_cons.mp h.pw).2⟩
def prodU (e : List Int → Nat) : List (List Int) → F
  | [] => fun _ => 1
  | f :: U => fun x => powF (ev f) (e f) x * prodU e U x
theorem pfun_prodU (e : List Int → Nat) : ∀ U, PFun (prodU e U)
  | [] => .const 1
  | f :: U => ((PFun.ev f).pow _).mul (pfun_prodU e U)
theorem cop_prodU (e : List Int → Nat) {f : F} (pf : PFun f) : ∀ {U : List (List Int)}, (∀ g ∈ U, Cop f (ev g)) → Cop f (prodU e U)
  | [], _ => (Cop.const (by decide) f).symm
  | g :: U, h => (Cop.mul ((PFun.ev g).pow _) pf (pfun_prodU e U) (Cop.pow (.ev g) pf (h g List.mem_cons_self).symm _) (cop_prodU e pf fun k hk => h k (List.mem_cons_of_mem _ hk)).symm).symm
theorem gcd_prodU (a b : List Int → Nat) : ∀ {U : List (List Int)}, UOk U → GcdOf (prodU (fun f => min (a f) (b f)) U) (prodU a U) (prodU b U)
  | [], _ => ⟨⟨1, by decide, fun _ => 1, .const 1, fun x => by simp [prodU]⟩, ⟨1, by decide, fun _ => 1, .const 1, fun x => by simp [prodU]⟩, ⟨1, by decide, fun _ => 1, fun _ => 0, .const 1, .const 0, fun x => by simp [prodU]⟩⟩
  | f :: U, h => by
    have ih := gcd_prodU a b h.tail
    have hc : ∀ g ∈ U, Cop (ev f) (ev g) := (List.pairwise_cons.mp h.pw).1
    obtain ⟨⟨c, c0, u, pu, e1⟩, ⟨d, d0, v, pv, e2⟩, ⟨k, k0, s, t, ps, pt, e3⟩⟩ := ih
    have pA := pfun_prodU a U
    have pB := pfun_prodU b U
    have pp : ∀ n, PFun (powF (ev f) n) := fun n => (PFun.ev f).pow n
    have ea : ∀ x, powF (ev f) (a f) x = powF (ev f) (min (a f) (b f)) x * powF (ev f) (a f - min (a f) (b f)) x := fun x => by rw [← powF_add]; congr 1; omega
    have eb : ∀ x, powF (ev f) (b f) x = powF (ev f) (min (a f) (b f)) x * powF (ev f) (b f - min (a f) (b f)) x := fun x => by rw [← powF_add]; congr 1; omega
    refine ⟨⟨c, c0, fun x => powF (ev f) (a f - min (a f) (b f)) x * u x, (pp _).mul pu, fun x => ?_⟩, ⟨d, d0, fun x => powF (ev f) (b f - min (a f) (b f)) x * v x, (pp _).mul pv, fun x => ?_⟩, ?_⟩
    · show c * (powF (ev f) (a f) x * prodU a U x) = powF (ev f) (min (a f) (b f)) x * prodU _ U x * _
      rw [ea]
      have h1 := e1 x
      grind
    · show d * (powF (ev f) (b f) x * prodU b U x) = powF (ev f) (min (a f) (b f)) x * prodU _ U x * _
      rw [eb]
      have h1 := e2 x
      grind
    · by_cases hab : a f ≤ b f
      · have z : a f - min (a f) (b f) = 0 := by omega
        obtain ⟨u1, v1, pu1, pv1, c1, c10, e4⟩ : Cop (powF (ev f) (b f - min (a f) (b f))) (prodU a U) := Cop.pow (.ev f) pA (cop_prodU a (.ev f) hc) _
        refine ⟨k * c1, Int.mul_ne_zero k0 c10, fun x => c1 * s x + t x * prodU b U x * v1 x, fun x => t x * u1 x, (ps.scale _).add ((pt.mul pB).mul pv1), pt.mul pu1, fun x => ?_⟩
        show k * c1 * (powF (ev f) (min (a f) (b f)) x * prodU _ U x) = (c1 * s x + t x * prodU b U x * v1 x) * (powF (ev f) (a f) x * prodU a U x) + t x * u1 x * (powF (ev f) (b f) x * prodU b U x)
        rw [ea, eb, z]
        have h1 := e3 x
        have h2 := e4 x
        show _ = _ * (_ * 1 * _) + _
        grind
      · have z : b f - min (a f) (b f) = 0 := by omega
        obtain ⟨u1, v1, pu1, pv1, c1, c10, e4⟩ : Cop (powF (ev f) (a f - min (a f) (b f))) (prodU b U) := Cop.pow (.ev f) pB (cop_prodU b (.ev f) hc) _
        refine ⟨k * c1, Int.mul_ne_zero k0 c10, fun x => s x * u1 x, fun x => c1 * t x + s x * prodU a U x * v1 x, ps.mul pu1, (pt.scale _).add ((ps.mul pA).mul pv1), fun x => ?_⟩
        show k * c1 * (powF (ev f) (min (a f) (b f)) x * prodU _ U x) = s x * u1 x * (powF (ev f) (a f) x * prodU a U x) + (c1 * t x + s x * prodU a U x * v1 x) * (powF (ev f) (b f) x * prodU b U x)
        rw [ea, eb, z]
        have h1 := e3 x
        have h2 := e4 x
        show _ = _ + _ * (_ * 1 * _)
        grind
/-! ### parted by powers -/
section
variable (e : List Int → Nat)
def AU (m : Nat) : List (List Int) → F
  | [] => fun _ => 1
  | f :: U => if m ≤ e f then fun x => ev f x * AU m U x else AU m U
def EU (m : Nat) : List (List Int) → F
  | [] => fun _ => 0
  | f :: U => if m ≤ e f then fun x => ((e f - m + 1 : Nat) : Int) * (ev (dr f) x * AU e m U x) + ev f x * EU m U x else EU m U
def DU (m : Nat) : List (List Int) → F
  | [] => fun _ => 0
  | f :: U => if m ≤ e f then fun x => ev (dr f) x * AU e m U x + ev f x * DU m U x else DU m U
def PU (m : Nat) : List (List Int) → F
  | [] => fun _ => 1
  | f :: U => if e f = m then fun x => ev f x * PU m U x else PU m U
def GU : List (List Int) → F
  | [] => fun _ => 1
  | f :: U => fun x => powF (ev f) (e f - 1) x * GU U x
theorem pAU (m : Nat) : ∀ U, PFun (AU e m U)
  | [] => .const 1
  | f :: U => by unfold AU; split; exact (PFun.ev f).mul (pAU m U); exact pAU m U
theorem pEU (m : Nat) : ∀ U, PFun (EU e m U)
  | [] => .const 0
  | f :: U => by unfold EU; split; exact (((PFun.ev _).mul (pAU e m U)).scale _).add ((PFun.ev f).mul (pEU m U)); exact pEU m U
theorem pDU (m : Nat) : ∀ U, PFun (DU e m U)
  | [] => .const 0
  | f :: U => by unfold DU; split; exact ((PFun.ev _).mul (pAU e m U)).add ((PFun.ev f).mul (pDU m U)); exact pDU m U
theorem pPU (m : Nat) : ∀ U, PFun (PU e m U)
  | [] => .const 1
  | f :: U => by unfold PU; split; exact (PFun.ev f).mul (pPU m U); exact pPU m U
theorem pGU : ∀ U, PFun (GU e U)
  | [] => .const 1
  | f :: U => ((PFun.ev f).pow _).mul (pGU U)
theorem prod_GA : ∀ (U : List (List Int)) (x : Int), prodU e U x = GU e U x * AU e 1 U x
  | [], x => by simp [prodU, GU, AU]
  | f :: U, x => by
    have ih := prod_GA U x
    unfold AU
    by_cases h : 1 ≤ e f
    · rw [if_pos h]
      show powF (ev f) (e f) x * prodU e U x = powF (ev f) (e f - 1) x * GU e U x * (ev f x * AU e 1 U x)
      obtain ⟨n, hn⟩ : ∃ n, e f = n + 1 := ⟨e f - 1, by omega⟩
      rw [hn, ih]
      show ev f x * powF (ev f) n x * _ = powF (ev f) n x * _ * _
      grind
    · rw [if_neg h]
      have h0 : e f = 0 := by omega
      show powF (ev f) (e f) x * prodU e U x = powF (ev f) (e f - 1) x * GU e U x * AU e 1 U x
      rw [h0, ih]
      show 1 * _ = 1 * _ * _
      grind
theorem powD (f : List Int) : ∀ n : Nat, IsD (powF (ev f) (n + 1)) (fun x => ((n + 1 : Nat) : Int) * (ev (dr f) x * powF (ev f) n x))
  | 0 => ((dr_isD f).mul (IsD.const 1)).congr (fun x => rfl) fun x => by simp [powF]
  | n + 1 => ((dr_isD f).mul (powD f n)).congr (fun x => rfl) fun x => by
    show ((n + 1 + 1 : Nat) : Int) * (ev (dr f) x * (ev f x * powF (ev f) n x)) = ev (dr f) x * (ev f x * powF (ev f) n x) + ev f x * (((n + 1 : Nat) : Int) * (ev (dr f) x * powF (ev f) n x))
    have : ((n + 1 + 1 : Nat) : Int) = ((n + 1 : Nat) : Int) + 1 := by omega
    rw [this]; grind
theorem prod_D : ∀ U : List (List Int), IsD (prodU e U) (fun x => GU e U x * EU e 1 U x)
  | [] => (IsD.const 1).congr (fun x => rfl) fun x => by simp [GU, EU]
  | f :: U => by
    have ih := prod_D U
    by_cases h : 1 ≤ e f
    · obtain ⟨n, hn⟩ : ∃ n, e f = n + 1 := ⟨e f - 1, by omega⟩
      refine ((powD f n).mul ih).congr (fun x => ?_) fun x => ?_
      · show powF (ev f) (e f) x * prodU e U x = _
        rw [hn]
      · have hE : EU e 1 (f :: U) x = ((e f - 1 + 1 : Nat) : Int) * (ev (dr f) x * AU e 1 U x) + ev f x * EU e 1 U x := by
          show (if 1 ≤ e f then fun x => ((e f - 1 + 1 : Nat) : Int) * (ev (dr f) x * AU e 1 U x) + ev f x * EU e 1 U x else EU e 1 U) x = _
          rw [if_pos h]
        show powF (ev f) (e f - 1) x * GU e U x * EU e 1 (f :: U) x = _
        rw [hE, hn, prod_GA]
        show powF (ev f) n x * GU e U x * (((n + 1 : Nat) : Int) * _ + _) = ((n + 1 : Nat) : Int) * (ev (dr f) x * powF (ev f) n x) * _ + ev f x * powF (ev f) n x * _
        grind
    · have h0 : e f = 0 := by omega
      refine ih.congr (fun x => ?_) fun x => ?_
      · show powF (ev f) (e f) x * prodU e U x = _
        rw [h0]
        show 1 * _ = _
        simp
      · have hE : EU e 1 (f :: U) x = EU e 1 U x := by
          show (if 1 ≤ e f then _ else EU e 1 U) x = _
          rw [if_neg h]
        show powF (ev f) (e f - 1) x * GU e U x * EU e 1 (f :: U) x = _
        rw [hE, h0]
        show 1 * _ * _ = _
        simp
theorem A_step (m : Nat) : ∀ (U : List (List Int)) (x : Int), AU e m U x = PU e m U x * AU e (m + 1) U x
  | [], x => by simp [AU, PU]
  | f :: U, x => by
    have ih := A_step m U x
    unfold AU PU
    by_cases h1 : e f = m
    · rw [if_pos (by omega), if_pos h1, if_neg (by omega)]
      show ev f x * _ = ev f x * _ * _
      rw [ih]; grind
    · rw [if_neg h1]
      by_cases h2 : m ≤ e f
      · rw [if_pos h2, if_pos (by omega)]
        show ev f x * _ = _ * (ev f x * _)
        rw [ih]; grind
      · rw [if_neg h2, if_neg (by omega)]
        exact ih
theorem A_D (m : Nat) : ∀ U : List (List Int), IsD (AU e m U) (DU e m U)
  | [] => IsD.const 1
  | f :: U => by
    unfold AU DU
    split
    · exact (dr_isD f).mul (A_D m U)
    · exact A_D m U
theorem gap_eq (m : Nat) : ∀ (U : List (List Int)) (x : Int), EU e m U x - DU e m U x = PU e m U x * EU e (m + 1) U x
  | [], x => by simp [EU, DU]
  | f :: U, x => by
    have ih := gap_eq m U x
    have ia := A_step e m U x
    unfold EU DU PU
    by_cases h1 : e f = m
    · rw [if_pos (by omega), if_pos (by omega), if_pos h1, if_neg (by omega)]
      have : e f - m + 1 = 1 := by omega
      rw [this]
      show ((1 : Nat) : Int) * (ev (dr f) x * AU e m U x) + ev f x * EU e m U x - (ev (dr f) x * AU e m U x + ev f x * DU e m U x) = ev f x * PU e m U x * EU e (m + 1) U x
      grind
    · rw [if_neg h1]
      by_cases h2 : m ≤ e f
      · rw [if_pos h2, if_pos h2, if_pos (by omega)]
        obtain ⟨k, hk⟩ : ∃ k : Nat, e f = m + k + 1 := ⟨e f - m - 1, by omega⟩
        have k1 : e f - m + 1 = k + 2 := by omega
        have k2 : e f - (m + 1) + 1 = k + 1 := by omega
        rw [k1, k2]
        show ((k + 2 : Nat) : Int) * (ev (dr f) x * AU e m U x) + ev f x * EU e m U x - (ev (dr f) x * AU e m U x + ev f x * DU e m U x) = PU e m U x * (((k + 1 : Nat) : Int) * (ev (dr f) x * AU e (m + 1) U x) + ev f x * EU e (m + 1) U x)
        have c2 : ((k + 2 : Nat) : Int) = (k : Int) + 2 := by omega
        have c1 : ((k + 1 : Nat) : Int) = (k : Int) + 1 := by omega
        rw [c1, c2, ia]
        rw [ia] at *
        grind
      · rw [if_neg h2, if_neg h2, if_neg (by omega)]
        exact ih
theorem cop_AU (m : Nat) {f : F} (pf : PFun f) : ∀ {U : List (List Int)}, (∀ g ∈ U, Cop f (ev g)) → Cop f (AU e m U)
  | [], _ => (Cop.const (by decide) f).symm
  | g :: U, h => by
    have ih := cop_AU m pf fun k hk => h k (List.mem_cons_of_mem _ hk)
    unfold AU
    split
    · exact (Cop.mul (.ev g) pf (pAU e m U) (h g List.mem_cons_self).symm ih.symm).symm
    · exact ih
theorem cop_AE (m : Nat) : ∀ {U : List (List Int)}, UOk U → Cop (AU e m U) (EU e m U)
  | [], _ => Cop.const (by decide) _
  | f :: U, h => by
    have ih := cop_AE m h.tail
    have hc : ∀ g ∈ U, Cop (ev f) (ev g) := (List.pairwise_cons.mp h.pw).1
    have hA := cop_AU e m (PFun.ev f) hc
    have hsq := (h.fac f List.mem_cons_self).sq
    unfold AU EU
    by_cases hm : m ≤ e f
    · rw [if_pos hm, if_pos hm]
      have hk : ((e f - m + 1 : Nat) : Int) ≠ 0 := by omega
      have pd := PFun.ev (dr f)
      have pf := PFun.ev f
      refine Cop.mul pf ((((pd.mul (pAU e m U))).scale _).add (pf.mul (pEU e m U))) (pAU e m U) ?_ ?_
      · have h1 : Cop (ev f) (fun x => ((e f - m + 1 : Nat) : Int) * (ev (dr f) x * AU e m U x)) :=
          (Cop.mul (.const _) pf (pd.mul (pAU e m U)) (Cop.const hk _) (Cop.mul pd pf (pAU e m U) hsq.symm hA.symm)).symm
        exact (h1.add_mul (pEU e m U)).congr (fun x => rfl) fun x => by grind
      · have h1 : Cop (AU e m U) (fun x => ev f x * EU e m U x) := (Cop.mul pf (pAU e m U) (pEU e m U) hA ih.symm).symm
        exact (h1.add_mul (t := fun x => ((e f - m + 1 : Nat) : Int) * ev (dr f) x) (pd.scale _)).congr (fun x => rfl) fun x => by grind
    · rw [if_neg hm, if_neg hm]
      exact ih
theorem gcd_step (m : Nat) {U : List (List Int)} (h : UOk U) : GcdOf (PU e m U) (AU e m U) (fun x => EU e m U x - DU e m U x) := by
  obtain ⟨u, v, pu, pv, c, c0, e1⟩ := cop_AE e (m + 1) h
  refine ⟨⟨1, by decide, AU e (m + 1) U, pAU e _ U, fun x => by rw [Int.one_mul]; exact A_step e m U x⟩, ⟨1, by decide, EU e (m + 1) U, pEU e _ U, fun x => by rw [Int.one_mul]; exact gap_eq e m U x⟩, ⟨c, c0, u, v, pu, pv, fun x => ?_⟩⟩
  have h1 := A_step e m U x
  have h2 := gap_eq e m U x
  show c * PU e m U x = u x * AU e m U x + v x * (EU e m U x - DU e m U x)
  rw [h1, h2, ← e1 x]
  grind
theorem gcd_first {U : List (List Int)} (h : UOk U) : GcdOf (GU e U) (prodU e U) (fun x => GU e U x * EU e 1 U x) := by
  obtain ⟨u, v, pu, pv, c, c0, e1⟩ := cop_AE e 1 h
  refine ⟨⟨1, by decide, AU e 1 U, pAU e _ U, fun x => by rw [Int.one_mul]; exact prod_GA e U x⟩, ⟨1, by decide, EU e 1 U, pEU e _ U, fun x => by rw [Int.one_mul]⟩, ⟨c, c0, u, v, pu, pv, fun x => ?_⟩⟩
  rw [prod_GA, ← e1 x]
  grind
end
end PA
end
section
namespace PA
/-! ### small ones that vanish: Siegel by pigeons -/
theorem pigeon : ∀ (B : Nat) (A : Nat) (f : Nat → Nat), B < A → (∀ i, i < A → f i < B) → ∃ i j, i < j ∧ j < A ∧ f i = f j
  | 0, A, f, h, hf => by have := hf 0 h; omega
  | B + 1, A, f, h, hf => by
    -- who sits in the last hole
    by_cases h1 : ∃ i j, i < j ∧ j < A ∧ f i = B ∧ f j = B
    · obtain ⟨i, j, a, b, c, d⟩ := h1
      exact ⟨i, j, a, b, c.trans d.symm⟩
    · by_cases h2 : ∃ k, k < A ∧ f k = B
      · obtain ⟨k, hk, ek⟩ := h2
        have only : ∀ i, i < A → f i = B → i = k := fun i hi e => by
          rcases Nat.lt_trichotomy i k with h3 | h3 | h3
          · exact absurd ⟨i, k, h3, hk, e, ek⟩ h1
          · exact h3
          · exact absurd ⟨k, i, h3, hi, ek, e⟩ h1
        -- leave k out
        obtain ⟨i, j, a, b, c⟩ := pigeon B (A - 1) (fun i => if i < k then f i else f (i + 1)) (by omega) (fun i hi => by
          by_cases h4 : i < k
          · simp only [h4, if_true]
            have h5 := hf i (by omega)
            have h6 : f i ≠ B := fun e => by have := only i (by omega) e; omega
            omega
          · simp only [h4, if_false]
            have h5 := hf (i + 1) (by omega)
            have h6 : f (i + 1) ≠ B := fun e => by have := only (i + 1) (by omega) e; omega
            omega)
        by_cases hi : i < k
        · by_cases hj : j < k
          · simp only [hi, hj, if_true] at c
            exact ⟨i, j, a, by omega, c⟩
          · simp only [hi, hj, if_true, if_false] at c
            exact ⟨i, j + 1, by omega, by omega, c⟩
        · have hj : ¬ j < k := by omega
          simp only [hi, hj, if_false] at c
          exact ⟨i + 1, j + 1, by omega, by omega, c⟩
      · obtain ⟨i, j, a, b, c⟩ := pigeon B A f (by omega) fun i hi => by
          have h5 := hf i hi
          have h6 : f i ≠ B := fun e => h2 ⟨i, hi, e⟩
          omega
        exact ⟨i, j, a, b, c⟩
def dg (X : Nat) : Nat → Nat → List Int
  | 0, _ => []
  | N + 1, n => ((n % X : Nat) : Int) :: dg X N (n / X)
theorem dg_len (X : Nat) : ∀ N n, (dg X N n).length = N
  | 0, _ => rfl
  | N + 1, n => by simp [dg, dg_len X N]
theorem dg_inj {X : Nat} (hX : 0 < X) : ∀ (N m n : Nat), m < X ^ N → n < X ^ N → dg X N m = dg X N n → m = n
  | 0, m, n, h1, h2, _ => by simp at h1 h2; omega
  | N + 1, m, n, h1, h2, e => by
    simp only [dg, List.cons.injEq] at e
    have e1 : m % X = n % X := by have := e.1; omega
    have d1 : m / X < X ^ N := Nat.div_lt_of_lt_mul (by rw [Nat.mul_comm, ← Nat.pow_succ]; exact h1)
    have d2 : n / X < X ^ N := Nat.div_lt_of_lt_mul (by rw [Nat.mul_comm, ← Nat.pow_succ]; exact h2)
    have e2 := dg_inj hX N _ _ d1 d2 e.2
    have := Nat.div_add_mod m X
    have := Nat.div_add_mod n X
    rw [e1, e2] at *
    omega
def bd (p : List Int) (B : Nat) : Prop := ∀ c ∈ p, c.natAbs ≤ B
theorem bd.mono {p : List Int} {B C : Nat} (h : bd p B) (hc : B ≤ C) : bd p C := fun c hc' => Nat.le_trans (h c hc') hc
theorem bd_nil (B : Nat) : bd [] B := fun _ h => nomatch h
theorem bd_cons {a : Int} {p : List Int} {B : Nat} (h1 : a.natAbs ≤ B) (h2 : bd p B) : bd (a :: p) B := fun c hc => by
  rcases List.mem_cons.mp hc with rfl | hc
  · exact h1
  · exact h2 c hc
theorem bd_tail {a : Int} {p : List Int} {B : Nat} (h : bd (a :: p) B) : a.natAbs ≤ B ∧ bd p B := ⟨h a List.mem_cons_self, fun c hc => h c (List.mem_cons_of_mem _ hc)⟩
theorem bd_take {p : List Int} {B : Nat} (h : bd p B) (n : Nat) : bd (p.take n) B := fun c hc => h c (List.mem_of_mem_take hc)
theorem bd_drop {p : List Int} {B : Nat} (h : bd p B) (n : Nat) : bd (p.drop n) B := fun c hc => h c (List.mem_of_mem_drop hc)
theorem bd_addL : ∀ {p q : List Int} {B C : Nat}, bd p B → bd q C → bd (addL p q) (B + C)
  | [], q, B, C, _, h => by
    have e : addL [] q = q := by cases q <;> rfl
    rw [e]; exact h.mono (by omega)
  | a :: p, [], B, C, h, _ => by
    have e : addL (a :: p) [] = a :: p := rfl
    rw [e]; exact h.mono (by omega)
  | a :: p, b :: q, B, C, h1, h2 => by
    obtain ⟨a1, a2⟩ := bd_tail h1
    obtain ⟨b1, b2⟩ := bd_tail h2
    exact bd_cons (by omega) (bd_addL a2 b2)
theorem bd_scale {p : List Int} {B : Nat} {n : Int} {C : Nat} (h : bd p B) (hn : n.natAbs ≤ C) : bd (p.map fun c => c * n) (B * C) := fun c hc => by
  obtain ⟨a, ha, rfl⟩ := List.mem_map.mp hc
  rw [Int.natAbs_mul]
  exact Nat.mul_le_mul (h a ha) hn
theorem bd_mulL : ∀ {p q : List Int} {B C : Nat}, bd p B → bd q C → bd (mulL p q) (p.length * (B * C))
  | [], q, B, C, _, _ => bd_nil _
  | a :: p, q, B, C, h1, h2 => by
    obtain ⟨a1, a2⟩ := bd_tail h1
    have e : (a :: p).length * (B * C) = C * B + p.length * (B * C) := by rw [List.length_cons, Nat.succ_mul, Nat.mul_comm C B]; omega
    rw [e]
    exact bd_addL (bd_scale h2 a1) (bd_cons (by simp) (bd_mulL a2 h2))
theorem bd_dg {X : Nat} (hX : 0 < X) : ∀ N n, bd (dg X N n) X
  | 0, _ => bd_nil _
  | N + 1, n => bd_cons (by have := Nat.mod_lt n hX; omega) (bd_dg hX N _)
def enc (K : Nat) : List Int → Nat
  | [] => 0
  | c :: r => (c + K).toNat + (2 * K + 1) * enc K r
theorem enc_lt {K : Nat} : ∀ {l : List Int}, bd l K → enc K l < (2 * K + 1) ^ l.length
  | [], _ => by simp [enc]
  | c :: r, h => by
    obtain ⟨a1, a2⟩ := bd_tail h
    have ih := enc_lt a2
    have h1 : (c + K).toNat ≤ 2 * K := by omega
    have h2 : (2 * K + 1) * (enc K r + 1) ≤ (2 * K + 1) * (2 * K + 1) ^ r.length := Nat.mul_le_mul_left _ ih
    simp only [enc, List.length_cons, Nat.pow_succ]
    rw [Nat.mul_comm ((2 * K + 1) ^ r.length)]
    rw [Nat.mul_add] at h2
    omega
theorem enc_inj {K : Nat} : ∀ {l m : List Int}, l.length = m.length → bd l K → bd m K → enc K l = enc K m → l = m
  | [], [], _, _, _, _ => rfl
  | [], _ :: _, h, _, _, _ => by simp at h
  | _ :: _, [], h, _, _, _ => by simp at h
  | c :: r, d :: t, hl, h1, h2, e => by
    obtain ⟨a1, a2⟩ := bd_tail h1
    obtain ⟨b1, b2⟩ := bd_tail h2
    simp only [enc] at e
    have m1 : (c + K).toNat < 2 * K + 1 := by omega
    have m2 : (d + K).toNat < 2 * K + 1 := by omega
    have e1 : (c + K).toNat = (d + K).toNat := by
      have := congrArg (· % (2 * K + 1)) e
      simp only [Nat.add_mul_mod_self_left, Nat.mod_eq_of_lt m1, Nat.mod_eq_of_lt m2] at this
      exact this
    have e2 : enc K r = enc K t := by
      rw [e1] at e
      have : (2 * K + 1) * enc K r = (2 * K + 1) * enc K t := by omega
      exact Nat.eq_of_mul_eq_mul_left (by omega) this
    rw [enc_inj (by simpa using hl) a2 b2 e2]
    have : c = d := by omega
    rw [this]
def subL (p q : List Int) : List Int := List.zipWith (· - ·) p q
theorem ev_subL : ∀ {p q : List Int}, p.length = q.length → ∀ x, ev (subL p q) x = ev p x - ev q x
  | [], [], _, x => by simp [subL, ev]
  | [], _ :: _, h, _ => by simp at h
  | _ :: _, [], h, _ => by simp at h
  | a :: p, b :: q, h, x => by
    have ih := ev_subL (p := p) (q := q) (by simpa using h) x
    show (a - b) + x * ev (subL p q) x = _
    rw [ih]
    simp only [ev]
    grind
theorem subL_len {p q : List Int} (h : p.length = q.length) : (subL p q).length = p.length := by simp [subL, h]
theorem bd_subL : ∀ {p q : List Int} {B C : Nat}, bd p B → bd q C → bd (subL p q) (B + C)
  | [], _, _, _, _, _ => bd_nil _
  | _ :: _, [], _, _, _, _ => bd_nil _
  | a :: p, b :: q, B, C, h1, h2 => by
    obtain ⟨a1, a2⟩ := bd_tail h1
    obtain ⟨b1, b2⟩ := bd_tail h2
    exact bd_cons (by show (a - b).natAbs ≤ _; omega) (bd_subL a2 b2)
theorem siegel_num {N H X : Nat} (hN : 1 ≤ N) (hH : 1 ≤ H) (hX : X = (4 * N * H) ^ N) : (2 * (N * (X * H)) + 1) ^ (N - 1) < X ^ N := by
  obtain ⟨n, rfl⟩ : ∃ n, N = n + 1 := ⟨N - 1, by omega⟩
  have h0 : 1 ≤ 4 * (n + 1) * H := Nat.le_trans (by omega) (Nat.mul_le_mul_left (4 * (n + 1)) hH)
  have hX1 : 1 ≤ X := by rw [hX]; exact Nat.one_le_pow _ _ (by omega)
  have h1 : 2 * ((n + 1) * (X * H)) + 1 ≤ (4 * (n + 1) * H) * X := by
    have e : (4 * (n + 1) * H) * X = 4 * ((n + 1) * (X * H)) := by
      rw [Nat.mul_assoc, Nat.mul_assoc, Nat.mul_comm H X]
    have : 1 ≤ (n + 1) * (X * H) := Nat.mul_pos (by omega) (Nat.mul_pos hX1 hH)
    omega
  have h2 : (2 * ((n + 1) * (X * H)) + 1) ^ n ≤ (4 * (n + 1) * H) ^ n * X ^ n := by
    rw [← Nat.mul_pow]; exact Nat.pow_le_pow_left h1 n
  have h3 : (4 * (n + 1) * H) ^ n < X := by
    rw [hX, Nat.pow_succ]
    have hp : 1 ≤ (4 * (n + 1) * H) ^ n := Nat.one_le_pow _ _ (by omega)
    have : 4 ≤ 4 * (n + 1) * H := Nat.le_trans (by omega : 4 ≤ 4 * (n + 1) * 1) (Nat.mul_le_mul_left _ hH)
    have := Nat.mul_le_mul_left ((4 * (n + 1) * H) ^ n) this
    omega
  have h4 : (4 * (n + 1) * H) ^ n * X ^ n < X * X ^ n := Nat.mul_lt_mul_of_pos_right h3 (Nat.pow_pos hX1)
  show (2 * ((n + 1) * (X * H)) + 1) ^ n < X ^ (n + 1)
  rw [Nat.pow_succ, Nat.mul_comm (X ^ n)]
  exact Nat.lt_of_le_of_lt h2 h4
/-- u p + v q that falls short, u and v small -/
theorem siegel {p q : List Int} {H ls : Nat} (hp : bd p H) (hq : bd q H) (hH : 1 ≤ H) (h1 : 1 ≤ ls) (h2 : ls ≤ q.length) (h3 : ls ≤ p.length) :
    ∃ u v w : List Int, u.length + ls = q.length + 1 ∧ v.length + ls = p.length + 1 ∧ w.length + 1 ≤ ls ∧ (∀ x, ev w x = ev u x * ev p x + ev v x * ev q x) ∧ (¬ ((∀ a ∈ u, a = 0) ∧ ∀ a ∈ v, a = 0)) ∧
      bd w (4 * ((p.length + q.length + 2 - 2 * ls) * ((4 * (p.length + q.length + 2 - 2 * ls) * H) ^ (p.length + q.length + 2 - 2 * ls) * H))) := by
  generalize hN : p.length + q.length + 2 - 2 * ls = N
  generalize hX : (4 * N * H) ^ N = X
  have hN1 : 2 ≤ N := by omega
  have p0 : p ≠ [] := fun e => by subst e; simp at h3; omega
  have q0 : q ≠ [] := fun e => by subst e; simp at h2; omega
  have hX1 : 0 < X := by
    rw [← hX]
    have : 1 ≤ 4 * N * H := Nat.le_trans (by omega) (Nat.mul_le_mul_left (4 * N) hH)
    exact Nat.pow_pos (by omega)
  generalize hn1 : q.length + 1 - ls = n1
  generalize hn2 : p.length + 1 - ls = n2
  have e12 : n1 + n2 = N := by omega
  let T : Nat → List Int := fun n => addL (mulL ((dg X N n).take n1) p) (mulL ((dg X N n).drop n1) q)
  have lu : ∀ n, ((dg X N n).take n1).length = n1 := fun n => by rw [List.length_take, dg_len]; omega
  have lv : ∀ n, ((dg X N n).drop n1).length = n2 := fun n => by rw [List.length_drop, dg_len]; omega
  have nu : ∀ n, (dg X N n).take n1 ≠ [] := fun n e => by have := lu n; rw [e] at this; simp at this; omega
  have nv : ∀ n, (dg X N n).drop n1 ≠ [] := fun n e => by have := lv n; rw [e] at this; simp at this; omega
  have lT : ∀ n, (T n).length + 1 = n1 + p.length := fun n => by
    have a1 := mulL_len (nu n) p0
    have a2 := mulL_len (nv n) q0
    rw [lu] at a1
    rw [lv] at a2
    show (addL _ _).length + 1 = _
    rw [addL_len]
    omega
  have bT : ∀ n, bd (T n) (N * (X * H)) := fun n => by
    have a1 := bd_mulL (bd_take (bd_dg hX1 N n) n1) hp
    have a2 := bd_mulL (bd_drop (bd_dg hX1 N n) n1) hq
    rw [lu] at a1
    rw [lv] at a2
    have := bd_addL a1 a2
    rw [← Nat.add_mul, e12] at this
    exact this
  have lD : ∀ n, ((T n).drop (ls - 1)).length = N - 1 := fun n => by
    have := lT n
    rw [List.length_drop]; omega
  obtain ⟨i, j, hij, hj, e⟩ := pigeon ((2 * (N * (X * H)) + 1) ^ (N - 1)) (X ^ N) (fun n => enc (N * (X * H)) ((T n).drop (ls - 1))) (siegel_num (by omega) hH hX.symm) fun n _ => by
    have := enc_lt (bd_drop (bT n) (ls - 1))
    rw [lD] at this
    exact this
  have eD : (T i).drop (ls - 1) = (T j).drop (ls - 1) := enc_inj (by rw [lD, lD]) (bd_drop (bT i) _) (bd_drop (bT j) _) e
  have lt1 : ∀ n, ((T n).take (ls - 1)).length = ls - 1 := fun n => by
    have := lT n
    rw [List.length_take]; omega
  have eu : ((dg X N i).take n1).length = ((dg X N j).take n1).length := by rw [lu, lu]
  have evv : ((dg X N i).drop n1).length = ((dg X N j).drop n1).length := by rw [lv, lv]
  refine ⟨subL ((dg X N i).take n1) ((dg X N j).take n1), subL ((dg X N i).drop n1) ((dg X N j).drop n1), subL ((T i).take (ls - 1)) ((T j).take (ls - 1)), ?_, ?_, ?_, fun x => ?_, ?_, ?_⟩
  · rw [subL_len eu, lu]; omega
  · rw [subL_len evv, lv]; omega
  · rw [subL_len (by rw [lt1, lt1]), lt1]; omega
  · rw [ev_subL (by rw [lt1, lt1]), ev_subL eu, ev_subL evv]
    have key : ∀ n, ev (T n) x = ev ((T n).take (ls - 1)) x + x ^ (ls - 1) * ev ((T n).drop (ls - 1)) x := fun n => by
      have := ev_append ((T n).take (ls - 1)) ((T n).drop (ls - 1)) x
      rw [List.take_append_drop, lt1] at this
      exact this
    have k1 := key i
    have k2 := key j
    rw [eD] at k1
    have t1 : ev (T i) x = ev ((dg X N i).take n1) x * ev p x + ev ((dg X N i).drop n1) x * ev q x := by
      show ev (addL _ _) x = _
      rw [ev_addL, ev_mulL, ev_mulL]
    have t2 : ev (T j) x = ev ((dg X N j).take n1) x * ev p x + ev ((dg X N j).drop n1) x * ev q x := by
      show ev (addL _ _) x = _
      rw [ev_addL, ev_mulL, ev_mulL]
    rw [t1] at k1
    rw [t2] at k2
    grind
  · rintro ⟨hu, hv⟩
    have z : ∀ {a b : List Int}, a.length = b.length → (∀ c ∈ subL a b, c = 0) → a = b := fun {a b} hl h => ev_inj_len hl fun x _ => by
      have := ev_subL hl x
      rw [ev_zeros h] at this
      omega
    have z1 := z eu hu
    have z2 := z evv hv
    have : dg X N i = dg X N j := by rw [← List.take_append_drop n1 (dg X N i), ← List.take_append_drop n1 (dg X N j), z1, z2]
    have := dg_inj hX1 N i j (by omega) hj this
    omega
  · exact (bd_subL (bd_take (bT i) _) (bd_take (bT j) _)).mono (by omega)
end PA
end
section
namespace PA
theorem mem_trim {c : Int} : ∀ {p : List Int}, c ∈ trim p → c ∈ p
  | [], h => h
  | a :: p, h => by
    unfold trim at h
    split at h
    · split at h
      · cases h
      · simp at h; simp [h]
    · rename_i b q z
      rcases List.mem_cons.mp h with rfl | h
      · exact List.mem_cons_self
      · exact List.mem_cons_of_mem _ (mem_trim (by rw [z]; exact h))
theorem bd_trim {p : List Int} {B : Nat} (h : bd p B) : bd (trim p) B := fun c hc => h c (mem_trim hc)
theorem pm_le (p q : List Int) : (pm p q).length + 1 ≤ p.length + q.length ∨ pm p q = [] := by
  by_cases hp : p = []
  · subst hp; exact .inr rfl
  · by_cases hq : q = []
    · subst hq; exact .inr (pm_nil_right p)
    · left
      have := mulL_len hp hq
      have := trim_len (mulL p q)
      unfold pm
      omega
/-- a multiple of p that is shorter than p is 0 -/
theorem short_zero {p y : List Int} {f : F} (tp : isT p) (p0 : p ≠ []) (pf : PFun f) (hl : y.length < p.length) (e : ∀ x, f x * ev p x = ev y x) : ∀ x, f x = 0 := by
  obtain ⟨z, tz, ez⟩ := list_of pf
  by_cases z0 : z = []
  · subst z0; exact fun x => ez x
  · exfalso
    have e1 : pm z p = trim y := ev_inj (pm_isT _ _) (trim_isT _) fun x _ => by rw [ev_pm, ev_trim, ← ez]; exact e x
    have := pm_len tz tp z0 p0
    have := List.length_pos_iff.mpr z0
    have := trim_len y
    rw [e1] at *
    omega
/-- a longer part settles the length -/
theorem len_add {a b w : List Int} {k : Int} (ta : isT a) (a0 : a ≠ []) (hk : k ≠ 0) (hl : b.length < a.length) (tw : isT w) (e : ∀ x : Int, 0 < x → ev w x = k * ev a x + ev b x) : w.length = a.length := by
  have hl' : b.length < (a.map fun c => c * k).length := by simpa using hl
  have t : isT (addL b (a.map fun c => c * k)) := fun h => by
    rw [addL_last hl' h]
    exact scale_isT ta hk _
  have e1 : w = addL b (a.map fun c => c * k) := ev_inj tw t fun x hx => by rw [ev_addL, ev_scale, e x hx]; omega
  rw [e1, addL_len, List.length_map]
  omega
/-! ### Euclid's rows: s and r from p and q -/
structure Eu (p q s r : List Int) where
  u0 : F
  u1 : F
  v0 : List Int
  v1 : List Int
  d : Int
  c0 : Int
  c1 : Int
  pu0 : PFun u0
  pu1 : PFun u1
  t0 : isT v0
  t1 : isT v1
  dn : d ≠ 0
  n0 : c0 ≠ 0
  n1 : c1 ≠ 0
  det : ∀ x, u0 x * ev v1 x - u1 x * ev v0 x = d
  e0 : ∀ x, c0 * ev s x = u0 x * ev p x + ev v0 x * ev q x
  e1 : ∀ x, c1 * ev r x = u1 x * ev p x + ev v1 x * ev q x
  l1 : v1.length + s.length = p.length + 1
  l0 : v0.length < v1.length ∨ (v0.length ≤ v1.length ∧ r.length < s.length)
def Eu.start (p q : List Int) : Eu p q p q where
  u0 := fun _ => 1
  u1 := fun _ => 0
  v0 := []
  v1 := [1]
  d := 1
  c0 := 1
  c1 := 1
  pu0 := .const 1
  pu1 := .const 0
  t0 := isT_nil
  t1 := fun _ => by simp
  dn := by decide
  n0 := by decide
  n1 := by decide
  det := fun x => by simp [ev]
  e0 := fun x => by simp [ev]
  e1 := fun x => by simp [ev]
  l1 := by simp; omega
  l0 := .inl (by simp)
/-- m s = t r + c r' -/
theorem Eu.step {p q s r r' t : List Int} {m c : Int} (h : Eu p q s r) (tt : isT t) (hm : m ≠ 0) (hc : c ≠ 0) (tr : isT r) (r0 : r ≠ []) (ts : isT s) (s0 : s ≠ []) (hls : r.length ≤ s.length) (hl : r'.length < r.length)
    (e : ∀ x, m * ev s x = ev t x * ev r x + c * ev r' x) : Nonempty (Eu p q r r') := by
  have lt : t.length + r.length = s.length + 1 ∧ t ≠ [] := by
    have hl' : (r'.map fun a => a * -c).length < s.length := by simp; omega
    have e1 : (pm t r).length = s.length := len_add (b := r'.map fun a => a * -c) ts s0 hm hl' (pm_isT _ _) fun x _ => by rw [ev_pm, ev_scale]; have := e x; grind
    by_cases t0 : t = []
    · subst t0
      have := List.length_pos_iff.mpr s0
      simp [pm_nil_left] at e1
      omega
    · have := pm_len tt tr t0 r0
      exact ⟨by omega, t0⟩
  have v1n : h.v1 ≠ [] := fun z => by
    have a := h.l0
    rw [z] at a
    simp at a
    have := h.l1
    have d0 := h.det 0
    rw [z, a.1] at d0
    simp [ev] at d0
    exact h.dn d0.symm
  let v2 : List Int := trim (addL (h.v0.map fun a => a * (h.c1 * m)) ((pm t h.v1).map fun a => a * -h.c0))
  have ev2 : ∀ x, ev v2 x = h.c1 * m * ev h.v0 x - h.c0 * ev t x * ev h.v1 x := fun x => by
    show ev (trim _) x = _
    rw [ev_trim, ev_addL, ev_scale, ev_scale, ev_pm]
    grind
  have l2 : v2.length + 1 = t.length + h.v1.length := by
    have hp := pm_len tt h.t1 lt.2 v1n
    have : v2.length = (pm t h.v1).length := by
      refine len_add (k := -h.c0) (b := h.v0.map fun a => a * (h.c1 * m)) (pm_isT _ _) (pm_ne tt h.t1 lt.2 v1n) (by have := h.n0; omega) ?_ (trim_isT _) fun x _ => ?_
      · rw [List.length_map]
        have := List.length_pos_iff.mpr lt.2
        rcases h.l0 with h0 | h0 <;> omega
      · rw [ev2, ev_pm, ev_scale]; grind
    omega
  refine ⟨⟨h.u1, fun x => h.c1 * m * h.u0 x - h.c0 * ev t x * h.u1 x, h.v1, v2, -(h.c1 * m * h.d), h.c1, h.c0 * h.c1 * c, h.pu1, ?_, h.t1, trim_isT _, ?_, h.n1, ?_, fun x => ?_, h.e1, fun x => ?_, ?_, ?_⟩⟩
  · exact (h.pu0.scale _).sub (((PFun.ev t).scale h.c0).mul h.pu1)
  · have := Int.mul_ne_zero (Int.mul_ne_zero h.n1 hm) h.dn
    omega
  · exact Int.mul_ne_zero (Int.mul_ne_zero h.n0 h.n1) hc
  · rw [ev2]
    have := h.det x
    grind
  · rw [ev2]
    have a1 := h.e0 x
    have a2 := h.e1 x
    have a3 := e x
    grind
  · have := h.l1
    omega
  · right
    have := List.length_pos_iff.mpr lt.2
    omega
/-- at the end s is what p and q have in common -/
theorem Eu.done {p q s : List Int} (h : Eu p q s []) : GcdOf (ev s) (ev p) (ev q) where
  dl := ⟨h.d, h.dn, fun x => h.c0 * ev h.v1 x, (PFun.ev h.v1).scale _, fun x => by
    have a1 := h.e0 x
    have a2 := h.e1 x
    have a3 := h.det x
    simp only [ev] at a2
    grind⟩
  dr := ⟨h.d, h.dn, fun x => -h.c0 * h.u1 x, h.pu1.scale _, fun x => by
    have a1 := h.e0 x
    have a2 := h.e1 x
    have a3 := h.det x
    simp only [ev] at a2
    grind⟩
  bz := ⟨h.c0, h.n0, h.u0, ev h.v0, h.pu0, .ev _, fun x => h.e0 x⟩
/-- r is small -/
theorem Eu.small {p q s r : List Int} {H : Nat} (h : Eu p q s r) (hr : Prm r) (tp : isT p) (hp : bd p H) (hq : bd q H) (hH : 1 ≤ H) (s0 : s ≠ []) (hsq : s.length ≤ q.length) (hsp : s.length ≤ p.length) (hrs : r.length < s.length) :
    bd r (4 * ((p.length + q.length + 2 - 2 * s.length) * ((4 * (p.length + q.length + 2 - 2 * s.length) * H) ^ (p.length + q.length + 2 - 2 * s.length) * H))) := by
  have sl := List.length_pos_iff.mpr s0
  obtain ⟨u, v, w, lu, lv, lw, ew, nz, bw⟩ := siegel hp hq hH sl hsq hsp
  have hl1 := h.l1
  have rl := List.length_pos_iff.mpr hr.ne
  have p0 : p ≠ [] := fun z => by have : p.length = 0 := (by rw [z]; rfl); omega
  have v1n : h.v1 ≠ [] := fun z => by have : h.v1.length = 0 := (by rw [z]; rfl); omega
  -- u v1 = v u1
  have k1 : ∀ x, ev u x * ev h.v1 x - ev v x * h.u1 x = 0 := by
    refine short_zero (y := addL (pm h.v1 w) ((pm v r).map fun a => a * -h.c1)) tp p0 (((PFun.ev u).mul (.ev _)).sub ((PFun.ev v).mul h.pu1)) ?_ fun x => ?_
    · rw [addL_len, List.length_map]
      have a1 := pm_le h.v1 w
      have a2 := pm_le v r
      have a3 : (pm h.v1 w).length < p.length := by
        rcases a1 with a | a
        · omega
        · rw [a]; simp; omega
      have a4 : (pm v r).length < p.length := by
        rcases a2 with a | a
        · omega
        · rw [a]; simp; omega
      omega
    · rw [ev_addL, ev_scale, ev_pm, ev_pm]
      have a1 := ew x
      have a2 := h.e1 x
      grind
  have k2 : ∀ x, ev h.v1 x * ev w x = h.c1 * (ev v x * ev r x) := fun x => by
    have a1 := ew x
    have a2 := h.e1 x
    have a3 := k1 x
    grind
  have k3 : ∀ x, h.d * ev v x = ev h.v1 x * (h.u0 x * ev v x - ev u x * ev h.v0 x) := fun x => by
    have a1 := k1 x
    have a2 := h.det x
    grind
  have tv0 : trim v ≠ [] := fun z => by
    have zv : ∀ x, ev v x = 0 := fun x => by rw [← ev_trim, z]; rfl
    refine nz ⟨?_, zero_of fun x _ => zv x⟩
    refine zero_of fun x _ => ?_
    refine short_zero (y := []) h.t1 v1n (.ev u) (List.length_pos_iff.mpr v1n) (fun y => ?_) x
    have := k1 y
    rw [zv] at this
    simp [ev]
    simpa using this
  obtain ⟨t, tt, et⟩ := list_of ((h.pu0.mul (.ev v)).sub ((PFun.ev u).mul (.ev h.v0)))
  obtain ⟨tn, tl⟩ := len_of h.dn (trim_isT v) tv0 h.t1 v1n tt fun x _ => by rw [ev_trim, k3, et]
  have tl1 : t.length = 1 := by
    have := trim_len v
    have := List.length_pos_iff.mpr tn
    omega
  obtain ⟨k, rfl⟩ := List.length_eq_one_iff.mp tl1
  have k0 : k ≠ 0 := tt (by simp)
  have k4 : ∀ x, h.d * ev v x = k * ev h.v1 x := fun x => by
    rw [k3, et]; simp [ev]; grind
  have k5 : ∀ x, h.d * ev w x - k * h.c1 * ev r x = 0 := by
    refine short_zero (y := []) h.t1 v1n (((PFun.ev w).scale h.d).sub ((PFun.ev r).scale (k * h.c1))) (List.length_pos_iff.mpr v1n) fun x => ?_
    have a1 := k2 x
    have a2 := k4 x
    simp only [ev]
    grind
  have k6 : (trim w).map (fun a => a * h.d) = r.map (fun a => a * (k * h.c1)) := ev_inj (scale_isT (trim_isT w) h.dn) (scale_isT hr.t (Int.mul_ne_zero k0 h.n1)) fun x _ => by
    rw [ev_scale, ev_scale, ev_trim]; have := k5 x; omega
  have k7 := congrArg cont k6
  rw [cont_scale, cont_scale, hr.one, Nat.mul_one] at k7
  have k8 : h.d ∣ k * h.c1 := Int.natAbs_dvd_natAbs.mp ⟨_, k7.symm⟩
  obtain ⟨e, he⟩ := k8
  have en : e ≠ 0 := fun z => by
    rw [z, Int.mul_zero] at he
    exact Int.mul_ne_zero k0 h.n1 he
  have k9 : trim w = r.map (fun a => a * e) := ev_inj (trim_isT w) (scale_isT hr.t en) fun x _ => by
    rw [ev_scale, ev_trim]
    refine Int.eq_of_mul_eq_mul_left h.dn ?_
    have := k5 x
    rw [he] at this
    grind
  intro c hc
  have m1 : c * e ∈ trim w := by rw [k9]; exact List.mem_map.mpr ⟨c, hc, rfl⟩
  have m2 := bd_trim bw _ m1
  rw [Int.natAbs_mul] at m2
  have : c.natAbs * 1 ≤ c.natAbs * e.natAbs := Nat.mul_le_mul_left _ (by omega)
  omega
end PA
end
section
namespace PA
/-! ### what the program makes of a list: reduced, primitive -/
def redL (p : List Int) : List Int := if 1 < cont p then p.map (fun c => c.fdiv (cont p : Nat)) else p
def primL (p : List Int) : List Int := if (redL p).getLastD 0 < 0 then (redL p).map (fun c => c * -1) else redL p
theorem lastD {p : List Int} (h : p ≠ []) : p.getLastD 0 = p.getLast h := by
  rw [List.getLastD_eq_getLast?, List.getLast?_eq_some_getLast h]; rfl
theorem red_ok {p : List Int} (tp : isT p) (p0 : p ≠ []) : cont (redL p) = 1 ∧ redL p ≠ [] ∧ isT (redL p) ∧ p = (redL p).map fun c => c * ((cont p : Nat) : Int) := by
  have hpos := cont_pos tp p0
  have key : p = (redL p).map fun c => c * ((cont p : Nat) : Int) := by
    unfold redL
    split
    · rw [List.map_map]
      refine (List.map_id p).symm.trans (List.map_congr_left fun c hc => ?_)
      have : ((cont p : Nat) : Int) ∣ c := Int.natAbs_dvd_natAbs.mp (by simpa using cont_dvd hc)
      show c = c.fdiv _ * _
      rw [Int.fdiv_mul_cancel this]
    · have : cont p = 1 := by omega
      rw [this]; simp
  have e := cont_scale ((cont p : Nat) : Int) (redL p)
  rw [← key] at e
  have n0 : redL p ≠ [] := fun z => by rw [z] at key; exact p0 key
  refine ⟨?_, n0, fun h => ?_, key⟩
  · have e' : cont p * 1 = cont p * cont (redL p) := by simpa using e
    exact (Nat.eq_of_mul_eq_mul_left hpos e').symm
  · intro z
    have h2 : (redL p).map (fun c => c * ((cont p : Nat) : Int)) ≠ [] := by simpa using n0
    have := map_last (fun c => c * ((cont p : Nat) : Int)) n0 h2
    rw [z] at this
    have h3 := tp p0
    apply h3
    have h4 : p.getLast p0 = ((redL p).map fun c => c * ((cont p : Nat) : Int)).getLast h2 := by congr
    rw [h4, this]; simp
theorem prim_ok {p : List Int} (tp : isT p) (p0 : p ≠ []) : Prm (primL p) ∧ ∃ c : Int, c ≠ 0 ∧ c.natAbs = cont p ∧ p = (primL p).map fun a => a * c := by
  obtain ⟨h1, h2, h3, h4⟩ := red_ok tp p0
  have hpos := cont_pos tp p0
  unfold primL
  rw [lastD h2]
  split
  · rename_i hn
    refine ⟨⟨scale_isT h3 (by decide), by simpa using h2, ?_, ?_⟩, -((cont p : Nat) : Int), by omega, by omega, ?_⟩
    · rw [cont_scale, h1]; rfl
    · rw [map_last _ h2]; omega
    · rw [List.map_map]
      refine h4.trans (List.map_congr_left fun c _ => ?_)
      show _ = c * -1 * -_
      rw [Int.mul_assoc]; simp
  · rename_i hn
    refine ⟨⟨h3, h2, h1, by have := h3 h2; omega⟩, ((cont p : Nat) : Int), by omega, by omega, h4⟩
theorem prim_nil : primL [] = [] := by decide
theorem ev_prim {p : List Int} (tp : isT p) : ∃ c : Int, c ≠ 0 ∧ ∀ x, ev p x = c * ev (primL p) x := by
  by_cases p0 : p = []
  · subst p0; rw [prim_nil]; exact ⟨1, by decide, fun x => rfl⟩
  · obtain ⟨_, c, hc, _, e⟩ := prim_ok tp p0
    exact ⟨c, hc, fun x => by
      have := congrArg (fun l => ev l x) e
      simp only [ev_scale] at this
      exact this⟩
theorem prim_len {p : List Int} (tp : isT p) : (primL p).length = p.length := by
  unfold primL redL
  split <;> split <;> simp
theorem prim_isT {p : List Int} (tp : isT p) : isT (primL p) := by
  by_cases p0 : p = []
  · subst p0; rw [prim_nil]; exact isT_nil
  · exact (prim_ok tp p0).1.t
theorem prim_of {p : List Int} (h : Prm p) : primL p = p := by
  obtain ⟨a, c, hc, _, e⟩ := prim_ok h.t h.ne
  refine Prm.uniq a h hc (by decide : (1 : Int) ≠ 0) fun x _ => ?_
  have := congrArg (fun l => ev l x) e
  simp only [ev_scale] at this
  omega
/-- a primitive list that is a number's multiple of p -/
theorem prim_eq {p g : List Int} {a b : Int} (tp : isT p) (p0 : p ≠ []) (hg : Prm g) (ha : a ≠ 0) (hb : b ≠ 0) (e : ∀ x : Int, 0 < x → a * ev p x = b * ev g x) : primL p = g := by
  obtain ⟨h, c, hc, _, e1⟩ := prim_ok tp p0
  refine Prm.uniq h hg (Int.mul_ne_zero ha hc) hb fun x hx => ?_
  have := congrArg (fun l => ev l x) e1
  simp only [ev_scale] at this
  rw [← e x hx, this]; grind
theorem bd_prim {p : List Int} {B : Nat} (tp : isT p) (h : bd p B) : bd (primL p) B := by
  by_cases p0 : p = []
  · subst p0; rw [prim_nil]; exact bd_nil _
  · obtain ⟨_, c, hc, _, e⟩ := prim_ok tp p0
    intro a ha
    have m : a * c ∈ p := by rw [e]; exact List.mem_map.mpr ⟨a, ha, rfl⟩
    have := h _ m
    rw [Int.natAbs_mul] at this
    have : a.natAbs * 1 ≤ a.natAbs * c.natAbs := Nat.mul_le_mul_left _ (by omega)
    omega
/-! ### a quotient over the whole numbers -/
theorem exact_of {p q u : List Int} {c : Int} (hq : Prm q) (tp : isT p) (tu : isT u) (hc : c ≠ 0) (e : ∀ x : Int, 0 < x → c * ev p x = ev q x * ev u x) : ∃ r : List Int, isT r ∧ (∀ x : Int, 0 < x → ev p x = ev q x * ev r x) ∧ u = r.map fun a => a * c := by
  by_cases u0 : u = []
  · subst u0
    refine ⟨[], isT_nil, fun x hx => ?_, rfl⟩
    have := e x hx
    simp only [ev, Int.mul_zero] at this ⊢
    rcases Int.mul_eq_zero.mp this with h | h
    · exact absurd h hc
    · exact h
  · have pn : p ≠ [] := fun z => by
      subst z
      have : pm q u = [] := nil_of (pm_isT _ _) fun x hx => by rw [ev_pm, ← e x hx]; simp [ev]
      exact pm_ne hq.t tu hq.ne u0 this
    obtain ⟨hv, d, hd, _, eu⟩ := prim_ok tu u0
    obtain ⟨hp, a, ha, _, ep⟩ := prim_ok tp pn
    have evu : ∀ x, ev u x = d * ev (primL u) x := fun x => by
      have := congrArg (fun l => ev l x) eu
      simpa only [ev_scale] using this
    have evp : ∀ x, ev p x = a * ev (primL p) x := fun x => by
      have := congrArg (fun l => ev l x) ep
      simpa only [ev_scale] using this
    have key : primL p = pm q (primL u) := Prm.uniq hp (hq.mul hv) (Int.mul_ne_zero hc ha) hd fun x hx => by
      rw [ev_pm]
      have a1 := e x hx
      have a2 := evu x
      have a3 := evp x
      rw [a2, a3] at a1
      grind
    have hl := hp.pos
    have kk : ∀ x : Int, 0 < x → c * a * ev (primL p) x = d * ev (primL p) x := fun x hx => by
      have a1 := e x hx
      have a2 := evu x
      have a3 := evp x
      have a4 : ev (primL p) x = ev q x * ev (primL u) x := by rw [key, ev_pm]
      rw [a2, a3] at a1
      have a5 : d * ev (primL p) x = ev q x * (d * ev (primL u) x) := by rw [a4]; grind
      rw [a5, ← a1]; grind
    have dc : d = c * a := by
      have e1 : (primL p).map (fun t => t * (c * a)) = (primL p).map fun t => t * d := ev_inj (scale_isT hp.t (Int.mul_ne_zero hc ha)) (scale_isT hp.t hd) fun x hx => by
        rw [ev_scale, ev_scale]; exact kk x hx
      have h1 : (primL p).map (fun t => t * (c * a)) ≠ [] := by simpa using hp.ne
      have e2 : ((primL p).map fun t => t * (c * a)).getLast h1 = ((primL p).map fun t => t * d).getLast (by rw [← e1]; exact h1) := by simp only [e1]
      rw [map_last _ hp.ne, map_last _ hp.ne] at e2
      exact (Int.eq_of_mul_eq_mul_left (by omega) e2).symm
    refine ⟨(primL u).map fun t => t * a, scale_isT hv.t ha, fun x hx => ?_, ?_⟩
    · rw [ev_scale, evp, key, ev_pm]; grind
    · rw [List.map_map]
      refine eu.trans (List.map_congr_left fun t _ => ?_)
      show _ = t * a * c
      rw [dc]; grind
end PA
end
section
namespace PA
/-! ### the sum of the numbers without their signs -/
def n1 : List Int → Nat
  | [] => 0
  | a :: p => a.natAbs + n1 p
theorem bd_n1 : ∀ p : List Int, bd p (n1 p)
  | [] => bd_nil _
  | a :: p => bd_cons (by show _ ≤ a.natAbs + n1 p; omega) ((bd_n1 p).mono (by show n1 p ≤ a.natAbs + n1 p; omega))
theorem n1_scale (k : Int) : ∀ p : List Int, n1 (p.map fun c => c * k) = n1 p * k.natAbs
  | [] => by simp [n1]
  | a :: p => by
    show (a * k).natAbs + n1 (p.map fun c => c * k) = (a.natAbs + n1 p) * k.natAbs
    rw [n1_scale k p, Int.natAbs_mul, Nat.add_mul]
theorem n1_addL : ∀ p q : List Int, n1 (addL p q) ≤ n1 p + n1 q
  | [], q => by simp [addL, n1]
  | a :: p, [] => by simp [addL, n1]
  | a :: p, b :: q => by
    have ih := n1_addL p q
    show (a + b).natAbs + n1 (addL p q) ≤ a.natAbs + n1 p + (b.natAbs + n1 q)
    omega
theorem n1_mulL : ∀ p q : List Int, n1 (mulL p q) ≤ n1 p * n1 q
  | [], q => by simp [mulL, n1]
  | a :: p, q => by
    have ih := n1_mulL p q
    have h := n1_addL (q.map fun c => c * a) (0 :: mulL p q)
    rw [n1_scale] at h
    show n1 (addL _ _) ≤ (a.natAbs + n1 p) * n1 q
    have : n1 (0 :: mulL p q) = n1 (mulL p q) := by simp [n1]
    rw [this] at h
    rw [Nat.add_mul, Nat.mul_comm a.natAbs]
    omega
theorem n1_trim : ∀ p : List Int, n1 (trim p) = n1 p
  | [] => rfl
  | a :: p => by
    have ih := n1_trim p
    unfold trim
    split
    · rename_i e
      rw [e] at ih
      split
      · rename_i z; subst z; simp [n1] at ih ⊢; omega
      · simp [n1] at ih ⊢; omega
    · rename_i b q e
      rw [e] at ih
      show a.natAbs + n1 (b :: q) = a.natAbs + n1 p
      rw [ih]
theorem n1_pm (p q : List Int) : n1 (pm p q) ≤ n1 p * n1 q := by
  unfold pm
  rw [n1_trim]
  exact n1_mulL p q
theorem n1_drFrom : ∀ (i : Nat) (p : List Int), n1 (drFrom (i : Int) p) ≤ (i + p.length) * n1 p
  | i, [] => by simp [drFrom, n1]
  | i, a :: p => by
    have ih := n1_drFrom (i + 1) p
    show (((i : Int)) * a).natAbs + n1 (drFrom (((i : Nat) : Int) + 1) p) ≤ (i + (p.length + 1)) * (a.natAbs + n1 p)
    have e : ((i + 1 : Nat) : Int) = ((i : Nat) : Int) + 1 := by omega
    rw [e] at ih
    rw [Int.natAbs_mul, Int.natAbs_natCast, Nat.mul_add]
    have h1 : i * a.natAbs ≤ (i + (p.length + 1)) * a.natAbs := Nat.mul_le_mul_right _ (by omega)
    have h2 : (i + 1 + p.length) * n1 p = (i + (p.length + 1)) * n1 p := by congr 1; omega
    omega
theorem n1_drop1 : ∀ p : List Int, n1 (p.drop 1) ≤ n1 p
  | [] => by simp [n1]
  | a :: p => by show n1 p ≤ a.natAbs + n1 p; omega
theorem n1_dr (p : List Int) : n1 (dr p) ≤ p.length * n1 p := by
  have h := n1_drFrom 0 p
  have h2 := n1_drop1 (drFrom 0 p)
  rw [Nat.zero_add] at h
  exact Nat.le_trans h2 h
/-! ### products as lists -/
def prodL (l : List (List Int)) : List Int := l.foldr pm [1]
theorem prm_one : Prm [1] := ⟨by intro h; simp, by simp, rfl, by simp⟩
theorem prm_prodL : ∀ {l : List (List Int)}, (∀ f ∈ l, Prm f) → Prm (prodL l)
  | [], _ => prm_one
  | f :: l, h => Prm.mul (h f List.mem_cons_self) (prm_prodL fun g hg => h g (List.mem_cons_of_mem _ hg))
theorem ev_prodL_cons (f : List Int) (l : List (List Int)) (x : Int) : ev (prodL (f :: l)) x = ev f x * ev (prodL l) x := ev_pm f (prodL l) x
theorem ev_one (x : Int) : ev [1] x = 1 := by simp [ev]
section
variable (e : List Int → Nat)
def AL (m : Nat) (U : List (List Int)) : List Int := prodL (U.filter fun f => decide (m ≤ e f))
def PL (m : Nat) (U : List (List Int)) : List Int := prodL (U.filter fun f => decide (e f = m))
theorem ev_AL (m : Nat) : ∀ (U : List (List Int)) (x : Int), ev (AL e m U) x = AU e m U x
  | [], x => ev_one x
  | f :: U, x => by
    have ih := ev_AL m U x
    unfold AL at ih ⊢
    unfold AU
    by_cases h : m ≤ e f
    · rw [if_pos h, List.filter_cons_of_pos (by simpa using h), ev_prodL_cons, ih]
    · rw [if_neg h, List.filter_cons_of_neg (by simpa using h), ih]
theorem ev_PL (m : Nat) : ∀ (U : List (List Int)) (x : Int), ev (PL e m U) x = PU e m U x
  | [], x => ev_one x
  | f :: U, x => by
    have ih := ev_PL m U x
    unfold PL at ih ⊢
    unfold PU
    by_cases h : e f = m
    · rw [if_pos h, List.filter_cons_of_pos (by simpa using h), ev_prodL_cons, ih]
    · rw [if_neg h, List.filter_cons_of_neg (by simpa using h), ih]
def EL (m : Nat) : List (List Int) → List Int
  | [] => []
  | f :: U => if m ≤ e f then addL ((pm (dr f) (AL e m U)).map fun c => c * ((e f - m + 1 : Nat) : Int)) (pm f (EL m U)) else EL m U
theorem ev_EL (m : Nat) : ∀ (U : List (List Int)) (x : Int), ev (EL e m U) x = EU e m U x
  | [], x => rfl
  | f :: U, x => by
    have ih := ev_EL m U x
    unfold EL EU
    by_cases h : m ≤ e f
    · rw [if_pos h, if_pos h, ev_addL, ev_scale, ev_pm, ev_pm, ih, ev_AL]
    · rw [if_neg h, if_neg h, ih]
/-- the weight of the factors -/
def wt : List (List Int) → Nat
  | [] => 0
  | f :: U => (f.length - 1) * e f + wt U
/-- factors that are small -/
def Sm (f : List Int) : Prop := 2 ≤ f.length ∧ n1 f ≤ 2 ^ (4 * (f.length - 1))
theorem n1_AL {m : Nat} (hm : 1 ≤ m) : ∀ {U : List (List Int)}, (∀ f ∈ U, Sm f) → n1 (AL e m U) ≤ 2 ^ (4 * wt e U)
  | [], _ => by show 1 ≤ 1; exact Nat.le_refl 1
  | f :: U, h => by
    have ih := n1_AL hm fun g hg => h g (List.mem_cons_of_mem _ hg)
    have hf := h f List.mem_cons_self
    unfold AL at ih ⊢
    by_cases hc : m ≤ e f
    · rw [List.filter_cons_of_pos (by simpa using hc)]
      refine Nat.le_trans (n1_pm _ _) (Nat.le_trans (Nat.mul_le_mul hf.2 ih) ?_)
      rw [← Nat.pow_add]
      refine Nat.pow_le_pow_right (by decide) ?_
      show _ ≤ 4 * ((f.length - 1) * e f + wt e U)
      have : (f.length - 1) * 1 ≤ (f.length - 1) * e f := Nat.mul_le_mul_left _ (by omega)
      omega
    · rw [List.filter_cons_of_neg (by simpa using hc)]
      refine Nat.le_trans ih (Nat.pow_le_pow_right (by decide) ?_)
      show _ ≤ 4 * ((f.length - 1) * e f + wt e U)
      omega
theorem n1_EL {m : Nat} (hm : 1 ≤ m) : ∀ {U : List (List Int)}, (∀ f ∈ U, Sm f) → n1 (EL e m U) ≤ 2 ^ (4 * wt e U) * (2 * wt e U)
  | [], _ => by simp [EL, n1]
  | f :: U, h => by
    have ih := n1_EL hm fun g hg => h g (List.mem_cons_of_mem _ hg)
    have ia := n1_AL e hm (U := U) fun g hg => h g (List.mem_cons_of_mem _ hg)
    have hf := h f List.mem_cons_self
    have hw : wt e (f :: U) = (f.length - 1) * e f + wt e U := rfl
    unfold EL
    by_cases hc : m ≤ e f
    · rw [if_pos hc]
      have g1 : (f.length - 1) * 1 ≤ (f.length - 1) * e f := Nat.mul_le_mul_left _ (by omega)
      have g2 : 2 ^ (4 * (f.length - 1)) * 2 ^ (4 * wt e U) ≤ 2 ^ (4 * wt e (f :: U)) := by
        rw [← Nat.pow_add]
        exact Nat.pow_le_pow_right (by decide) (by omega)
      refine Nat.le_trans (n1_addL _ _) ?_
      rw [n1_scale, Int.natAbs_natCast]
      have a1 : n1 (pm (dr f) (AL e m U)) ≤ f.length * 2 ^ (4 * wt e (f :: U)) := by
        refine Nat.le_trans (n1_pm _ _) (Nat.le_trans (Nat.mul_le_mul (n1_dr f) ia) ?_)
        rw [Nat.mul_assoc]
        exact Nat.mul_le_mul_left _ (Nat.le_trans (Nat.mul_le_mul_right _ hf.2) g2)
      have a2 : n1 (pm f (EL e m U)) ≤ 2 ^ (4 * wt e (f :: U)) * (2 * wt e U) := by
        refine Nat.le_trans (n1_pm _ _) (Nat.le_trans (Nat.mul_le_mul hf.2 ih) ?_)
        rw [← Nat.mul_assoc]
        exact Nat.mul_le_mul_right _ g2
      have a3 : n1 (pm (dr f) (AL e m U)) * (e f - m + 1) ≤ 2 ^ (4 * wt e (f :: U)) * (2 * ((f.length - 1) * e f)) := by
        refine Nat.le_trans (Nat.mul_le_mul a1 (by omega : e f - m + 1 ≤ e f)) ?_
        have : f.length * e f ≤ 2 * ((f.length - 1) * e f) := by
          rw [← Nat.mul_assoc]
          exact Nat.mul_le_mul_right _ (by have := hf.1; omega)
        have := Nat.mul_le_mul_left (2 ^ (4 * wt e (f :: U))) this
        calc f.length * 2 ^ (4 * wt e (f :: U)) * e f = 2 ^ (4 * wt e (f :: U)) * (f.length * e f) := by rw [Nat.mul_comm f.length, Nat.mul_assoc]
          _ ≤ _ := this
      have a4 : 2 ^ (4 * wt e (f :: U)) * (2 * wt e (f :: U)) = 2 ^ (4 * wt e (f :: U)) * (2 * ((f.length - 1) * e f)) + 2 ^ (4 * wt e (f :: U)) * (2 * wt e U) := by
        rw [← Nat.mul_add]; congr 1; rw [hw]; omega
      omega
    · rw [if_neg hc]
      refine Nat.le_trans ih (Nat.mul_le_mul (Nat.pow_le_pow_right (by decide) (by omega)) (by omega))
theorem prm_AL {m : Nat} {U : List (List Int)} (h : ∀ f ∈ U, Prm f) : Prm (AL e m U) := prm_prodL fun f hf => h f (List.mem_filter.mp hf).1
theorem prm_PL {m : Nat} {U : List (List Int)} (h : ∀ f ∈ U, Prm f) : Prm (PL e m U) := prm_prodL fun f hf => h f (List.mem_filter.mp hf).1
end
theorem prodL_len : ∀ {l : List (List Int)}, (∀ f ∈ l, Prm f ∧ 2 ≤ f.length) → (prodL l).length = 1 + (l.map fun f => f.length - 1).sum
  | [], _ => rfl
  | f :: l, h => by
    have ih := prodL_len fun g hg => h g (List.mem_cons_of_mem _ hg)
    obtain ⟨a, b⟩ := h f List.mem_cons_self
    have hp := prm_prodL (l := l) fun g hg => (h g (List.mem_cons_of_mem _ hg)).1
    have := pm_len a.t hp.t a.ne hp.ne
    show (pm f (prodL l)).length = _
    simp only [List.map_cons, List.sum_cons]
    omega
theorem prodL_one {l : List (List Int)} (h : ∀ f ∈ l, Prm f ∧ 2 ≤ f.length) : (prodL l).length = 1 ↔ l = [] := by
  rw [prodL_len h]
  constructor
  · intro e
    cases l with
    | nil => rfl
    | cons f l =>
      have := (h f List.mem_cons_self).2
      simp at e
      omega
  · rintro rfl; rfl
end PA
end
section
namespace PA
/-! ### a test that two lists have nothing in common -/
def elimL (f g : List Int) : List Int := trim (addL (f.map fun c => c * g.getLastD 0) ((List.replicate (f.length - g.length) 0 ++ g).map fun c => c * -(f.getLastD 0)))
theorem ev_reps (n : Nat) (g : List Int) (x : Int) : ev (List.replicate n 0 ++ g) x = x ^ n * ev g x := by
  rw [ev_append, ev_zeros (fun a ha => (List.mem_replicate.mp ha).2), List.length_replicate, Int.zero_add]
theorem ev_elimL (f g : List Int) (x : Int) : ev (elimL f g) x = g.getLastD 0 * ev f x + (-(f.getLastD 0) * x ^ (f.length - g.length)) * ev g x := by
  unfold elimL
  rw [ev_trim, ev_addL, ev_scale, ev_scale, ev_reps]; grind
theorem cop_elim {f g : List Int} (h : Cop (ev (elimL f g)) (ev g)) : Cop (ev f) (ev g) := by
  obtain ⟨u, v, pu, pv, c, hc, e⟩ := h
  refine ⟨fun x => g.getLastD 0 * u x, fun x => v x + u x * ev (List.replicate (f.length - g.length) 0 ++ [-(f.getLastD 0)]) x, pu.scale _, pv.add (pu.mul (.ev _)), c, hc, fun x => ?_⟩
  have a1 := e x
  rw [ev_elimL] at a1
  show g.getLastD 0 * u x * ev f x + (v x + u x * ev (List.replicate (f.length - g.length) 0 ++ [-(f.getLastD 0)]) x) * ev g x = c
  rw [ev_reps]
  have : ev [-(f.getLastD 0)] x = -(f.getLastD 0) := by simp [ev]
  rw [this]
  grind
def copB : Nat → List Int → List Int → Bool
  | 0, _, _ => false
  | n + 1, f, g => if f.length < g.length then copB n g f else match g with
    | [] => false
    | [c] => decide (c ≠ 0)
    | a :: b :: r => copB n (elimL f (a :: b :: r)) (a :: b :: r)
theorem copB_ok : ∀ (n : Nat) (f g : List Int), copB n f g = true → Cop (ev f) (ev g)
  | 0, f, g, h => by cases h
  | n + 1, f, g, h => by
    unfold copB at h
    split at h
    · exact (copB_ok n g f h).symm
    · split at h
      · cases h
      · rename_i c _
        have hc : c ≠ 0 := of_decide_eq_true h
        exact (Cop.congr (Cop.const hc (ev f)) (fun x => by simp [ev]) fun _ => rfl).symm
      · exact cop_elim (copB_ok n _ _ h)
def prmB (f : List Int) : Bool := decide (f ≠ []) && decide (cont f = 1) && decide (0 < f.getLastD 0)
theorem prmB_ok {f : List Int} (h : prmB f = true) : Prm f := by
  unfold prmB at h
  simp only [Bool.and_eq_true, decide_eq_true_eq] at h
  obtain ⟨⟨h1, h2⟩, h3⟩ := h
  rw [lastD h1] at h3
  exact ⟨fun _ => by omega, h1, h2, h3⟩
def pairB : List (List Int) → Bool
  | [] => true
  | f :: U => U.all (fun g => copB 20 f g) && pairB U
theorem pairB_ok : ∀ {U : List (List Int)}, pairB U = true → U.Pairwise fun f g => Cop (ev f) (ev g)
  | [], _ => .nil
  | f :: U, h => by
    unfold pairB at h
    rw [Bool.and_eq_true] at h
    exact .cons (fun g hg => copB_ok _ _ _ (List.all_eq_true.mp h.1 g hg)) (pairB_ok h.2)
def facB (f : List Int) : Bool := prmB f && decide (2 ≤ f.length) && copB 20 f (dr f) && decide (n1 f ≤ 2 ^ (4 * (f.length - 1))) && decide (f.length ≤ 5)
theorem facB_ok {f : List Int} (h : facB f = true) : Fac f ∧ Sm f ∧ f.length ≤ 5 := by
  unfold facB at h
  simp only [Bool.and_eq_true, decide_eq_true_eq] at h
  obtain ⟨⟨⟨⟨h1, h2⟩, h3⟩, h4⟩, h5⟩ := h
  exact ⟨⟨prmB_ok h1, h2, copB_ok _ _ _ h3⟩, ⟨h2, h4⟩, h5⟩
/-- every factor that the law may draw -/
def FAC : List (List Int) := [
  [0, 1],
  [10, 1],
  [9, 1],
  [8, 1],
  [7, 1],
  [6, 1],
  [5, 1],
  [4, 1],
  [3, 1],
  [2, 1],
  [1, 1],
  [-1, 1],
  [-2, 1],
  [-3, 1],
  [-4, 1],
  [-5, 1],
  [-6, 1],
  [-7, 1],
  [-8, 1],
  [-9, 1],
  [-10, 1],
  [9, 2],
  [7, 2],
  [5, 2],
  [3, 2],
  [1, 2],
  [-1, 2],
  [-3, 2],
  [-5, 2],
  [-7, 2],
  [-9, 2],
  [10, 3],
  [8, 3],
  [7, 3],
  [5, 3],
  [4, 3],
  [2, 3],
  [1, 3],
  [-1, 3],
  [-2, 3],
  [-4, 3],
  [-5, 3],
  [-7, 3],
  [-8, 3],
  [-10, 3],
  [9, 4],
  [7, 4],
  [5, 4],
  [3, 4],
  [1, 4],
  [-1, 4],
  [-3, 4],
  [-5, 4],
  [-7, 4],
  [-9, 4],
  [9, 5],
  [8, 5],
  [7, 5],
  [6, 5],
  [4, 5],
  [3, 5],
  [2, 5],
  [1, 5],
  [-1, 5],
  [-2, 5],
  [-3, 5],
  [-4, 5],
  [-6, 5],
  [-7, 5],
  [-8, 5],
  [-9, 5],
  [2, -4, 1],
  [-1, -2, 1],
  [-2, 0, 1],
  [-1, 2, 1],
  [2, 4, 1],
  [1, -4, 1],
  [-2, -2, 1],
  [-3, 0, 1],
  [-2, 2, 1],
  [1, 4, 1],
  [5, -4, 1],
  [2, -2, 1],
  [1, 0, 1],
  [2, 2, 1],
  [5, 4, 1],
  [3, -3, 1],
  [1, -1, 1],
  [1, 1, 1],
  [3, 3, 1],
  [7, 5, 1],
  [5, -5, 1],
  [1, -3, 1],
  [-1, -1, 1],
  [-1, 1, 1],
  [1, 3, 1],
  [-10, 12, -6, 1],
  [-3, 3, -3, 1],
  [-2, 0, 0, 1],
  [-1, 3, 3, 1],
  [6, 12, 6, 1],
  [-7, 11, -6, 1],
  [-1, 2, -3, 1],
  [-1, -1, 0, 1],
  [-1, 2, 3, 1],
  [5, 11, 6, 1],
  [17, -32, 24, -8, 1],
  [2, -4, 6, -4, 1],
  [1, 0, 0, 0, 1],
  [2, 4, 6, 4, 1],
  [17, 32, 24, 8, 1],
  [-23, 8, 14, -8, 1],
  [-8, 16, -4, -4, 1],
  [1, 0, -10, 0, 1],
  [-8, -16, -4, 4, 1],
  [-23, -8, 14, 8, 1],
  [13, -28, 23, -8, 1],
  [1, -2, 5, -4, 1],
  [1, 0, -1, 0, 1],
  [1, 2, 5, 4, 1],
  [13, 28, 23, 8, 1],
  [11, -23, 19, -7, 1],
  [1, -2, 4, -3, 1],
  [1, 1, 1, 1, 1],
  [5, 10, 10, 5, 1],
  [31, 49, 31, 9, 1],
  [46, -94, 72, -24, 3],
  [3, -10, 18, -12, 3],
  [2, 2, 0, 0, 3],
  [7, 14, 18, 12, 3],
  [54, 98, 72, 24, 3],
  [14, -32, 24, -8, 1],
  [-1, -4, 6, -4, 1],
  [-2, 0, 0, 0, 1],
  [-1, 4, 6, 4, 1],
  [14, 32, 24, 8, 1],
  [7, -8, 2],
  [1, -4, 2],
  [-1, 0, 2],
  [1, 4, 2],
  [7, 8, 2],
  [9, -7, 2],
  [4, -3, 2],
  [3, 1, 2],
  [6, 5, 2],
  [13, 9, 2]]
theorem FAC_fac : FAC.all facB = true := by decide +kernel
/-- the pairs with the first m of U's tail from k on -/
def rowsB (U : List (List Int)) : Nat → Nat → Bool
  | _, 0 => true
  | k, m + 1 => (match U.drop k with
    | [] => true
    | f :: V => V.all fun g => copB 20 f g) && rowsB U (k + 1) m
theorem pairB_of (U : List (List Int)) : ∀ (m k : Nat), U.length ≤ k + m → rowsB U k m = true → pairB (U.drop k) = true
  | 0, k, h, _ => by rw [List.drop_eq_nil_of_le (by omega)]; rfl
  | m + 1, k, h, e => by
    unfold rowsB at e
    rw [Bool.and_eq_true] at e
    have ih := pairB_of U m (k + 1) (by omega) e.2
    have e1 := e.1
    by_cases hk : k < U.length
    · rw [List.drop_eq_getElem_cons hk] at e1 ⊢
      unfold pairB
      rw [Bool.and_eq_true]
      exact ⟨e1, ih⟩
    · rw [List.drop_eq_nil_of_le (by omega)]; rfl
theorem rowsB_add (U : List (List Int)) : ∀ (m n k : Nat), rowsB U k m = true → rowsB U (k + m) n = true → rowsB U k (m + n) = true
  | 0, n, k, _, h => by rw [Nat.zero_add]; exact h
  | m + 1, n, k, h, h2 => by
    unfold rowsB at h
    rw [Bool.and_eq_true] at h
    have e : m + 1 + n = m + n + 1 := by omega
    rw [e]
    unfold rowsB
    rw [Bool.and_eq_true]
    exact ⟨h.1, rowsB_add U m n (k + 1) h.2 (by rw [show k + 1 + m = k + (m + 1) by omega]; exact h2)⟩
theorem fac_0 : rowsB FAC 0 8 = true := by decide +kernel
theorem fac_8 : rowsB FAC 8 8 = true := by decide +kernel
theorem fac_16 : rowsB FAC 16 8 = true := by decide +kernel
theorem fac_24 : rowsB FAC 24 8 = true := by decide +kernel
theorem fac_32 : rowsB FAC 32 8 = true := by decide +kernel
theorem fac_40 : rowsB FAC 40 8 = true := by decide +kernel
theorem fac_48 : rowsB FAC 48 8 = true := by decide +kernel
theorem fac_56 : rowsB FAC 56 8 = true := by decide +kernel
theorem fac_64 : rowsB FAC 64 8 = true := by decide +kernel
theorem fac_72 : rowsB FAC 72 8 = true := by decide +kernel
theorem fac_80 : rowsB FAC 80 8 = true := by decide +kernel
theorem fac_88 : rowsB FAC 88 8 = true := by decide +kernel
theorem fac_96 : rowsB FAC 96 8 = true := by decide +kernel
theorem fac_104 : rowsB FAC 104 8 = true := by decide +kernel
theorem fac_112 : rowsB FAC 112 8 = true := by decide +kernel
theorem fac_120 : rowsB FAC 120 8 = true := by decide +kernel
theorem fac_128 : rowsB FAC 128 8 = true := by decide +kernel
theorem fac_136 : rowsB FAC 136 8 = true := by decide +kernel
theorem fac_144 : rowsB FAC 144 2 = true := by decide +kernel
theorem FAC_pair : pairB FAC = true := pairB_of FAC 146 0 (by decide +kernel) (rowsB_add FAC 144 2 0 (rowsB_add FAC 136 8 0 (rowsB_add FAC 128 8 0 (rowsB_add FAC 120 8 0 (rowsB_add FAC 112 8 0 (rowsB_add FAC 104 8 0 (rowsB_add FAC 96 8 0 (rowsB_add FAC 88 8 0 (rowsB_add FAC 80 8 0 (rowsB_add FAC 72 8 0 (rowsB_add FAC 64 8 0 (rowsB_add FAC 56 8 0 (rowsB_add FAC 48 8 0 (rowsB_add FAC 40 8 0 (rowsB_add FAC 32 8 0 (rowsB_add FAC 24 8 0 (rowsB_add FAC 16 8 0 (rowsB_add FAC 8 8 0 fac_0 fac_8) fac_16) fac_24) fac_32) fac_40) fac_48) fac_56) fac_64) fac_72) fac_80) fac_88) fac_96) fac_104) fac_112) fac_120) fac_128) fac_136) fac_144)
theorem FAC_UOk : UOk FAC := ⟨fun f hf => (facB_ok (List.all_eq_true.mp FAC_fac f hf)).1, pairB_ok FAC_pair⟩
theorem FAC_sm {f : List Int} (h : f ∈ FAC) : Sm f ∧ f.length ≤ 5 := (facB_ok (List.all_eq_true.mp FAC_fac f h)).2
theorem UOk.sub {U V : List (List Int)} (h : UOk V) (s : U.Sublist V) : UOk U := ⟨fun f hf => h.fac f (s.subset hf), h.pw.sublist s⟩
end PA
end
section
set_option exponentiation.threshold 3
namespace PA
def Bits (p : List Int) (k : Nat) : Prop := ∀ c ∈ p, c.natAbs < 2 ^ k
theorem Bits.mono {p : List Int} {a b : Nat} (h : Bits p a) (hb : a ≤ b) : Bits p b := fun c hc => Nat.lt_of_lt_of_le (h c hc) (Nat.pow_le_pow_right (by decide) hb)
theorem Bits.of_bd {p : List Int} {B k : Nat} (h : bd p B) (hb : B < 2 ^ k) : Bits p k := fun c hc => Nat.lt_of_le_of_lt (h c hc) hb
theorem Bits.bd {p : List Int} {k : Nat} (h : Bits p k) : PA.bd p (2 ^ k) := fun c hc => Nat.le_of_lt (h c hc)
theorem mul_bits {x y : Int} {a b : Nat} (hx : x.natAbs < 2 ^ a) (hy : y.natAbs < 2 ^ b) : (x * y).natAbs < 2 ^ (a + b) := by
  rw [Int.natAbs_mul, Nat.pow_add]
  exact Nat.lt_of_le_of_lt (Nat.mul_le_mul_left _ (Nat.le_of_lt hy)) (Nat.mul_lt_mul_of_pos_right hx (Nat.pow_pos (by decide)))
theorem Bits.scale {p : List Int} {a b : Nat} {n : Int} (h : Bits p a) (hn : n.natAbs < 2 ^ b) : Bits (p.map fun c => c * n) (a + b) := fun c hc => by
  obtain ⟨d, hd, rfl⟩ := List.mem_map.mp hc
  exact mul_bits (h d hd) hn
theorem add_bits {x y : Int} {a : Nat} (hx : x.natAbs < 2 ^ a) (hy : y.natAbs < 2 ^ a) : (x + y).natAbs < 2 ^ (a + 1) := by
  have := Int.natAbs_add_le x y
  rw [Nat.pow_succ]; omega
theorem Bits.addL : ∀ {p q : List Int} {a : Nat}, Bits p a → Bits q a → Bits (addL p q) (a + 1)
  | [], q, a, _, h => by unfold PA.addL; exact h.mono (by omega)
  | x :: p, [], a, h, _ => h.mono (by omega)
  | x :: p, y :: q, a, h1, h2 => fun c hc => by
    rcases List.mem_cons.mp hc with rfl | hc
    · exact add_bits (h1 x List.mem_cons_self) (h2 y List.mem_cons_self)
    · exact Bits.addL (fun d hd => h1 d (List.mem_cons_of_mem _ hd)) (fun d hd => h2 d (List.mem_cons_of_mem _ hd)) c hc
theorem Bits.trim {p : List Int} {a : Nat} (h : Bits p a) : Bits (trim p) a := fun c hc => h c (mem_trim hc)
theorem Bits.zeros {p : List Int} {a n : Nat} (h : Bits p a) : Bits (List.replicate n 0 ++ p) a := fun c hc => by
  rcases List.mem_append.mp hc with hc | hc
  · rw [(List.mem_replicate.mp hc).2]; exact Nat.pow_pos (by decide)
  · exact h c hc
theorem Bits.set {p : List Int} {a i : Nat} {x : Int} (h : Bits p a) (hx : x.natAbs < 2 ^ a) : Bits (p.set i x) a := fun c hc => by
  rcases List.mem_or_eq_of_mem_set hc with hc | rfl
  · exact h c hc
  · exact hx
theorem Bits.getD {p : List Int} {a : Nat} (h : Bits p a) (i : Nat) : (p.getD i 0).natAbs < 2 ^ a := by
  rw [List.getD_eq_getElem?_getD]
  cases e : p[i]? with
  | none => exact Nat.pow_pos (by decide)
  | some c => exact h c (List.mem_of_getElem? e)
theorem Bits.last {p : List Int} {a : Nat} (h : Bits p a) : (p.getLastD 0).natAbs < 2 ^ a := by
  cases p with
  | nil => exact Nat.pow_pos (by decide)
  | cons b p =>
    rw [lastD (by simp)]
    exact h _ (List.getLast_mem _)
def negL (p : List Int) : List Int := p.map fun c => c * -1
theorem ev_negL (p : List Int) (x : Int) : ev (negL p) x = -ev p x := by unfold negL; rw [ev_scale]; omega
theorem Bits.neg {p : List Int} {a : Nat} (h : Bits p a) : Bits (negL p) a := fun c hc => by
  obtain ⟨d, hd, rfl⟩ := List.mem_map.mp hc
  have := h d hd
  rw [Int.natAbs_mul]; simpa using this
/-- a last number that is 0 is cut away -/
theorem trim_lt {p : List Int} (h : p ≠ []) (h0 : p.getLast h = 0) : (trim p).length < p.length := by
  have h1 := trim_len p
  rcases Nat.lt_or_eq_of_le h1 with h2 | h2
  · exact h2
  · exfalso
    have e := ev_inj_len h2 fun x _ => ev_trim p x
    have t := trim_isT p
    rw [e] at t
    exact t h h0
theorem addL_last_eq : ∀ {p q : List Int} (hl : p.length = q.length) (hp : p ≠ []) (h : addL p q ≠ []), (addL p q).getLast h = p.getLastD 0 + q.getLastD 0
  | [], _, _, hp, _ => absurd rfl hp
  | a :: p, [], hl, _, _ => by simp at hl
  | [a], [b], _, _, _ => rfl
  | [a], b :: c :: q, hl, _, _ => by simp at hl
  | a :: b :: p, [c], hl, _, _ => by simp at hl
  | a :: b :: p, c :: d :: q, hl, _, h => by
    have ih := addL_last_eq (p := b :: p) (q := d :: q) (by simpa using hl) (by simp) (by simp [addL])
    show (_ :: addL (b :: p) (d :: q)).getLast _ = _
    rw [List.getLast_cons (by simp [addL]), ih]
    rfl
theorem lastD_map (f : Int → Int) {p : List Int} (h : p ≠ []) : (p.map f).getLastD 0 = f (p.getLastD 0) := by
  rw [lastD (by simpa using h), lastD h, map_last _ h]
theorem lastD_zeros (n : Nat) {p : List Int} (h : p ≠ []) : (List.replicate n 0 ++ p).getLastD 0 = p.getLastD 0 := by
  rw [lastD (by simp [h]), lastD h, List.getLast_append_of_ne_nil _ h]
/-- one round of the division -/
theorem round {rest q : List Int} {f part : Int} (tr : isT rest) (tq : isT q) (q0 : q ≠ []) (hl : q.length ≤ rest.length) (hf : f * rest.getLastD 0 = part * q.getLastD 0) :
    (trim (addL (rest.map fun c => c * f) (negL (List.replicate (rest.length - q.length) 0 ++ q.map fun c => c * part)))).length < rest.length ∧
    ∀ x, ev (trim (addL (rest.map fun c => c * f) (negL (List.replicate (rest.length - q.length) 0 ++ q.map fun c => c * part)))) x = f * ev rest x - part * x ^ (rest.length - q.length) * ev q x := by
  have ql := List.length_pos_iff.mpr q0
  have r0 : rest ≠ [] := fun z => by rw [z] at hl; simp at hl; exact q0 hl
  refine ⟨?_, fun x => ?_⟩
  · have l1 : (rest.map fun c => c * f).length = (negL (List.replicate (rest.length - q.length) 0 ++ q.map fun c => c * part)).length := by simp [negL]; omega
    have n1 : addL (rest.map fun c => c * f) (negL (List.replicate (rest.length - q.length) 0 ++ q.map fun c => c * part)) ≠ [] := fun z => by
      have := congrArg List.length z
      rw [addL_len, ← l1, List.length_map] at this
      simp at this
      exact r0 this
    have := trim_lt n1 (by
      rw [addL_last_eq l1 (by simpa using r0), lastD_map _ r0]
      unfold negL
      rw [lastD_map _ (by simp [q0]), lastD_zeros _ (by simpa using q0), lastD_map _ q0]
      have := hf
      grind)
    rw [addL_len, ← l1, List.length_map, Nat.max_self] at this
    exact this
  · rw [ev_trim, ev_addL, ev_negL, ev_reps, ev_scale, ev_scale]; grind
theorem round_num {lr lq : Int} (h1 : lr ≠ 0) (h2 : lq ≠ 0) : ∃ g : Nat, g = Nat.gcd lr.natAbs lq.natAbs ∧ 0 < g ∧ g ≤ lq.natAbs ∧ ∃ f part : Int, f = (if lq < 0 then -lq else lq).fdiv (g : Nat) ∧ part = (lr * lq.sign).fdiv (g : Nat) ∧ f ≠ 0 ∧ part ≠ 0 ∧ f * lr = part * lq ∧ f.natAbs ≤ lq.natAbs ∧ part.natAbs ≤ lr.natAbs := by
  have g0 : 0 < Nat.gcd lr.natAbs lq.natAbs := Nat.gcd_pos_of_pos_right _ (by omega)
  refine ⟨_, rfl, g0, Nat.le_of_dvd (by omega) (Nat.gcd_dvd_right _ _), _, _, rfl, rfl, ?_⟩
  have d1 : ((Nat.gcd lr.natAbs lq.natAbs : Nat) : Int) ∣ lr := Int.natAbs_dvd_natAbs.mp (by simpa using Nat.gcd_dvd_left _ _)
  have d2 : ((Nat.gcd lr.natAbs lq.natAbs : Nat) : Int) ∣ lq := Int.natAbs_dvd_natAbs.mp (by simpa using Nat.gcd_dvd_right _ _)
  generalize Nat.gcd lr.natAbs lq.natAbs = g at *
  obtain ⟨a, ha⟩ := d1
  obtain ⟨b, hb⟩ := d2
  have gi : (g : Int) ≠ 0 := by omega
  have a0 : a ≠ 0 := fun z => by rw [z] at ha; simp at ha; exact h1 ha
  have b0 : b ≠ 0 := fun z => by rw [z] at hb; simp at hb; exact h2 hb
  have gp : (0 : Int) < g := by omega
  have big : ∀ c : Int, c.natAbs ≤ ((g : Int) * c).natAbs := fun c => by
    rw [Int.natAbs_mul]
    have : 1 * c.natAbs ≤ (g : Int).natAbs * c.natAbs := Nat.mul_le_mul_right _ (by omega)
    omega
  have ds : ∀ c : Int, ((g : Int) * c).fdiv g = c := fun c => Int.mul_fdiv_cancel_left c gi
  rcases Int.lt_trichotomy lq 0 with z | z | z
  · rw [if_pos z, Int.sign_eq_neg_one_of_neg z]
    have e1 : -lq = (g : Int) * -b := by rw [hb]; grind
    have e2 : lr * -1 = (g : Int) * -a := by rw [ha]; grind
    rw [e1, e2, ds, ds]
    refine ⟨by omega, by omega, by rw [ha, hb]; grind, ?_, ?_⟩
    · have := big b; rw [hb]; omega
    · have := big a; rw [ha]; omega
  · exact absurd z h2
  · rw [if_neg (by omega), Int.sign_eq_one_of_pos z]
    have e2 : lr * 1 = (g : Int) * a := by rw [ha]; grind
    have e1 : lq.fdiv g = b := by rw [hb]; exact ds b
    rw [e1, e2, ds]
    refine ⟨b0, a0, by rw [ha, hb]; grind, ?_, ?_⟩
    · have := big b; rw [hb]; omega
    · have := big a; rw [ha]; omega
end PA
end
section
set_option exponentiation.threshold 3
namespace PA
theorem top_of {rest q r : List Int} {k : Nat} (q0 : q ≠ []) (hk : k < r.length) (hl : rest.length + 1 = q.length + r.length) (e : ∀ x : Int, 0 < x → ev rest x = ev q x * ev (r.take (k + 1)) x) :
    rest.getD (k + q.length - 1) 0 = q.getLastD 0 * r.getD k 0 := by
  have ql := List.length_pos_iff.mpr q0
  have lt : (r.take (k + 1)).length = k + 1 := by rw [List.length_take]; omega
  have t0 : r.take (k + 1) ≠ [] := fun z => by rw [z] at lt; simp at lt
  have lm := mulL_len q0 t0
  have e1 : rest = mulL q (r.take (k + 1)) ++ List.replicate (r.length - (k + 1)) 0 := ev_inj_len (by rw [List.length_append, List.length_replicate]; omega) fun x hx => by
    rw [ev_append, ev_mulL, ev_zeros (p := List.replicate _ _) fun a ha => (List.mem_replicate.mp ha).2, e x hx]; simp
  have m0 := mulL_ne q0 t0
  have la := mulL_last q0 t0 m0
  rw [e1, List.getD_eq_getElem?_getD, List.getElem?_append_left (by omega)]
  have : k + q.length - 1 = (mulL q (r.take (k + 1))).length - 1 := by omega
  rw [this, ← List.getLast?_eq_getElem?, List.getLast?_eq_some_getLast m0, Option.getD_some, la, lastD q0]
  congr 1
  rw [List.getLast_eq_getElem, List.getElem_take, List.getD_eq_getElem?_getD, List.getElem?_eq_getElem hk]
  simp only [lt, Nat.add_sub_cancel, Option.getD_some]
theorem take_ev (r : List Int) (k : Nat) (x : Int) : ev (r.take (k + 1)) x = ev (r.take k) x + r.getD k 0 * x ^ k := by
  by_cases h : k < r.length
  · rw [List.take_add_one, List.getElem?_eq_getElem h, ev_append, List.length_take, Nat.min_eq_left (by omega), List.getD_eq_getElem?_getD, List.getElem?_eq_getElem h]
    simp [ev]; grind
  · rw [List.take_of_length_le (by omega), List.take_of_length_le (by omega), List.getD_eq_getElem?_getD, List.getElem?_eq_none (by omega)]
    simp
theorem quot_len {p q r : List Int} (tp : isT p) (tq : isT q) (q0 : q ≠ []) (tr : isT r) (e : ∀ x : Int, 0 < x → ev p x = ev q x * ev r x) : (p = [] ∧ r = []) ∨ (p ≠ [] ∧ r ≠ [] ∧ p.length + 1 = q.length + r.length) := by
  have e1 : p = pm q r := ev_inj tp (pm_isT _ _) fun x hx => by rw [ev_pm]; exact e x hx
  by_cases r0 : r = []
  · subst r0; rw [pm_nil_right] at e1; exact .inl ⟨e1, rfl⟩
  · right
    have := pm_len tq tr q0 r0
    have h := pm_ne tq tr q0 r0
    rw [← e1] at this h
    exact ⟨h, r0, this⟩
end PA
end
section
set_option exponentiation.threshold 3
namespace PA
theorem ev_reps_prod (f : List Int) (l : List (List Int)) (x : Int) : ∀ n : Nat, ev (prodL (List.replicate n f ++ l)) x = powF (ev f) n x * ev (prodL l) x
  | 0 => by simp [powF]
  | n + 1 => by
    have ih := ev_reps_prod f l x n
    rw [List.replicate_succ, List.cons_append, ev_prodL_cons, ih]
    show _ = ev f x * powF (ev f) n x * _
    grind
section
variable (e : List Int → Nat)
def QL (U : List (List Int)) : List Int := prodL (U.flatMap fun f => List.replicate (e f) f)
def GL (U : List (List Int)) : List Int := prodL (U.flatMap fun f => List.replicate (e f - 1) f)
theorem ev_QL : ∀ (U : List (List Int)) (x : Int), ev (QL e U) x = prodU e U x
  | [], x => ev_one x
  | f :: U, x => by
    have ih := ev_QL U x
    unfold QL at ih ⊢
    rw [List.flatMap_cons, ev_reps_prod, ih]; rfl
theorem ev_GL : ∀ (U : List (List Int)) (x : Int), ev (GL e U) x = GU e U x
  | [], x => ev_one x
  | f :: U, x => by
    have ih := ev_GL U x
    unfold GL at ih ⊢
    rw [List.flatMap_cons, ev_reps_prod, ih]; rfl
theorem prm_QL {U : List (List Int)} (h : ∀ f ∈ U, Prm f) : Prm (QL e U) := prm_prodL fun f hf => by
  obtain ⟨g, hg, hf⟩ := List.mem_flatMap.mp hf
  rw [(List.mem_replicate.mp hf).2]; exact h g hg
theorem prm_GL {U : List (List Int)} (h : ∀ f ∈ U, Prm f) : Prm (GL e U) := prm_prodL fun f hf => by
  obtain ⟨g, hg, hf⟩ := List.mem_flatMap.mp hf
  rw [(List.mem_replicate.mp hf).2]; exact h g hg
theorem n1_prodL : ∀ {l : List (List Int)}, (∀ f ∈ l, Sm f) → n1 (prodL l) ≤ 2 ^ (4 * (l.map fun f => f.length - 1).sum)
  | [], _ => by show 1 ≤ 1; exact Nat.le_refl 1
  | f :: l, h => by
    have ih := n1_prodL fun g hg => h g (List.mem_cons_of_mem _ hg)
    refine Nat.le_trans (n1_pm _ _) (Nat.le_trans (Nat.mul_le_mul (h f List.mem_cons_self).2 ih) ?_)
    rw [← Nat.pow_add]
    refine Nat.pow_le_pow_right (by decide) ?_
    simp only [List.map_cons, List.sum_cons]; omega
theorem sum_reps (w : Nat) (f : List Int) (l : List (List Int)) : ∀ n : Nat, ((List.replicate n f ++ l).map fun f => f.length - 1).sum = n * (f.length - 1) + (l.map fun f => f.length - 1).sum
  | 0 => by simp
  | n + 1 => by
    have ih := sum_reps w f l n
    rw [List.replicate_succ, List.cons_append, List.map_cons, List.sum_cons, ih, Nat.succ_mul]; omega
theorem sum_GL : ∀ U : List (List Int), ((U.flatMap fun f => List.replicate (e f - 1) f).map fun f => f.length - 1).sum ≤ wt e U
  | [] => Nat.le_refl _
  | f :: U => by
    have ih := sum_GL U
    rw [List.flatMap_cons, sum_reps 0]
    show _ ≤ (f.length - 1) * e f + wt e U
    have : (e f - 1) * (f.length - 1) ≤ e f * (f.length - 1) := Nat.mul_le_mul_right _ (by omega)
    rw [Nat.mul_comm (f.length - 1)]; omega
theorem sum_QL : ∀ U : List (List Int), ((U.flatMap fun f => List.replicate (e f) f).map fun f => f.length - 1).sum = wt e U
  | [] => rfl
  | f :: U => by
    have ih := sum_QL U
    rw [List.flatMap_cons, sum_reps 0, ih]
    show _ = (f.length - 1) * e f + wt e U
    rw [Nat.mul_comm]
theorem sum_AL {m : Nat} (hm : 1 ≤ m) : ∀ U : List (List Int), ((U.filter fun f => decide (m ≤ e f)).map fun f => f.length - 1).sum ≤ wt e U
  | [] => Nat.le_refl _
  | f :: U => by
    have ih := sum_AL hm U
    show _ ≤ (f.length - 1) * e f + wt e U
    by_cases hc : m ≤ e f
    · rw [List.filter_cons_of_pos (by simpa using hc), List.map_cons, List.sum_cons]
      have : (f.length - 1) * 1 ≤ (f.length - 1) * e f := Nat.mul_le_mul_left _ (by omega)
      omega
    · rw [List.filter_cons_of_neg (by simpa using hc)]; omega
theorem sum_PL {m : Nat} (hm : 1 ≤ m) : ∀ U : List (List Int), ((U.filter fun f => decide (e f = m)).map fun f => f.length - 1).sum ≤ wt e U
  | [] => Nat.le_refl _
  | f :: U => by
    have ih := sum_PL hm U
    show _ ≤ (f.length - 1) * e f + wt e U
    by_cases hc : e f = m
    · rw [List.filter_cons_of_pos (by simpa using hc), List.map_cons, List.sum_cons]
      have : (f.length - 1) * 1 ≤ (f.length - 1) * e f := Nat.mul_le_mul_left _ (by omega)
      omega
    · rw [List.filter_cons_of_neg (by simpa using hc)]; omega
theorem EL_len (m : Nat) : ∀ {U : List (List Int)}, (∀ f ∈ U, Prm f ∧ 2 ≤ f.length) → (EL e m U).length ≤ ((U.filter fun f => decide (m ≤ e f)).map fun f => f.length - 1).sum
  | [], _ => Nat.le_refl _
  | f :: U, h => by
    have ih := EL_len m (U := U) fun g hg => h g (List.mem_cons_of_mem _ hg)
    have hf := h f List.mem_cons_self
    unfold EL
    by_cases hc : m ≤ e f
    · rw [if_pos hc, List.filter_cons_of_pos (by simpa using hc), List.map_cons, List.sum_cons]
      have la : (AL e m U).length = 1 + ((U.filter fun f => decide (m ≤ e f)).map fun f => f.length - 1).sum := prodL_len fun g hg => h g (List.mem_cons_of_mem _ (List.mem_filter.mp hg).1)
      have a1 := pm_le (dr f) (AL e m U)
      have a2 := pm_le f (EL e m U)
      have ld := dr_len f
      rw [addL_len, List.length_map]
      have b1 : (pm (dr f) (AL e m U)).length ≤ f.length - 1 + ((U.filter fun f => decide (m ≤ e f)).map fun f => f.length - 1).sum := by
        rcases a1 with a | a
        · omega
        · rw [a]; exact Nat.zero_le _
      have b2 : (pm f (EL e m U)).length ≤ f.length - 1 + ((U.filter fun f => decide (m ≤ e f)).map fun f => f.length - 1).sum := by
        rcases a2 with a | a
        · omega
        · rw [a]; exact Nat.zero_le _
      omega
    · rw [if_neg hc, List.filter_cons_of_neg (by simpa using hc)]; exact ih
/-- what stands before the loop of square_free -/
theorem drQ (U : List (List Int)) (x : Int) : ev (dr (QL e U)) x = GU e U x * EU e 1 U x :=
  IsD.uniq (dr_isD (QL e U)) ((prod_D e U).congr (fun x => ev_QL e U x) fun _ => rfl) x
theorem drA (m : Nat) (U : List (List Int)) (x : Int) : ev (dr (AL e m U)) x = DU e m U x :=
  IsD.uniq (dr_isD (AL e m U)) ((A_D e m U).congr (fun x => ev_AL e m U x) fun _ => rfl) x
/-- the gap of square_free -/
def gapL (m : Nat) (U : List (List Int)) : List Int := trim (addL (trim (EL e m U)) (negL (dr (AL e m U))))
theorem ev_gapL (m : Nat) (U : List (List Int)) (x : Int) : ev (gapL e m U) x = EU e m U x - DU e m U x := by
  unfold gapL
  rw [ev_trim, ev_addL, ev_trim, ev_negL, ev_EL, drA]; omega
end
end PA
end
section
set_option exponentiation.threshold 3
namespace PA
/-! ### fractions in lowest terms -/
theorem low_uniq {n d n' d' : Int} (hd : 0 < d) (hd' : 0 < d') (e : n * d' = n' * d) :
    n.fdiv (Nat.gcd n.natAbs d.natAbs : Nat) = n'.fdiv (Nat.gcd n'.natAbs d'.natAbs : Nat) ∧ d.fdiv (Nat.gcd n.natAbs d.natAbs : Nat) = d'.fdiv (Nat.gcd n'.natAbs d'.natAbs : Nat) := by
  have key : ∀ {n d : Int}, 0 < d → ∃ a b : Int, ∃ g : Nat, g = Nat.gcd n.natAbs d.natAbs ∧ 0 < g ∧ n = g * a ∧ d = g * b ∧ 0 < b ∧ Nat.Coprime a.natAbs b.natAbs := by
    intro n d hd
    have g0 : 0 < Nat.gcd n.natAbs d.natAbs := Nat.gcd_pos_of_pos_right _ (by omega)
    obtain ⟨a, ha⟩ : ((Nat.gcd n.natAbs d.natAbs : Nat) : Int) ∣ n := Int.natAbs_dvd_natAbs.mp (by simpa using Nat.gcd_dvd_left _ _)
    obtain ⟨b, hb⟩ : ((Nat.gcd n.natAbs d.natAbs : Nat) : Int) ∣ d := Int.natAbs_dvd_natAbs.mp (by simpa using Nat.gcd_dvd_right _ _)
    refine ⟨a, b, _, rfl, g0, ha, hb, ?_, ?_⟩
    · rcases Int.lt_trichotomy 0 b with z | z | z
      · exact z
      · exfalso; subst z; simp at hb; omega
      · exfalso
        have : ((Nat.gcd n.natAbs d.natAbs : Nat) : Int) * b < 0 := Int.mul_neg_of_pos_of_neg (by omega) z
        omega
    · have h1 : n.natAbs = Nat.gcd n.natAbs d.natAbs * a.natAbs := by
        have := congrArg Int.natAbs ha
        rw [Int.natAbs_mul, Int.natAbs_natCast] at this; exact this
      have h2 : d.natAbs = Nat.gcd n.natAbs d.natAbs * b.natAbs := by
        have := congrArg Int.natAbs hb
        rw [Int.natAbs_mul, Int.natAbs_natCast] at this; exact this
      have h3 : Nat.gcd n.natAbs d.natAbs = Nat.gcd n.natAbs d.natAbs * Nat.gcd a.natAbs b.natAbs := by
        rw [← Nat.gcd_mul_left, ← h1, ← h2]
      have h4 : Nat.gcd n.natAbs d.natAbs * 1 = Nat.gcd n.natAbs d.natAbs * Nat.gcd a.natAbs b.natAbs := by omega
      exact (Nat.eq_of_mul_eq_mul_left g0 h4).symm
  obtain ⟨a, b, g, hg, g0, ha, hb, b0, hc⟩ := key (n := n) hd
  obtain ⟨a', b', g', hg', g0', ha', hb', b0', hc'⟩ := key (n := n') hd'
  rw [← hg, ← hg']
  have e2 : a * b' = a' * b := by
    rw [ha, hb, ha', hb'] at e
    have hgg : ((g : Int) * g') ≠ 0 := Int.mul_ne_zero (by omega) (by omega)
    refine Int.eq_of_mul_eq_mul_left hgg ?_
    grind
  have e3 : a.natAbs * b'.natAbs = a'.natAbs * b.natAbs := by rw [← Int.natAbs_mul, ← Int.natAbs_mul, e2]
  have d1 : b.natAbs ∣ b'.natAbs := hc.symm.dvd_of_dvd_mul_left (by rw [e3]; exact Nat.dvd_mul_left _ _)
  have d2 : b'.natAbs ∣ b.natAbs := hc'.symm.dvd_of_dvd_mul_left (by rw [← e3]; exact Nat.dvd_mul_left _ _)
  have bb : b = b' := by have := Nat.dvd_antisymm d1 d2; omega
  subst bb
  have aa : a = a' := Int.eq_of_mul_eq_mul_right (by omega) e2
  subst aa
  rw [ha, hb, ha', hb', Int.mul_fdiv_cancel_left _ (by omega), Int.mul_fdiv_cancel_left _ (by omega), Int.mul_fdiv_cancel_left _ (by omega), Int.mul_fdiv_cancel_left _ (by omega)]
  exact ⟨rfl, rfl⟩
/-- the reduced number over the reduced number -/
def lowN (n d : Int) : Int := n.fdiv (Nat.gcd n.natAbs d.natAbs : Nat)
def lowD (n d : Int) : Int := d.fdiv (Nat.gcd n.natAbs d.natAbs : Nat)
theorem low_ok {n d : Int} (hd : 0 < d) : 0 < lowD n d ∧ lowN n d * d = n * lowD n d ∧ (lowN n d).natAbs ≤ n.natAbs ∧ (lowD n d).natAbs ≤ d.natAbs := by
  have g0 : 0 < Nat.gcd n.natAbs d.natAbs := Nat.gcd_pos_of_pos_right _ (by omega)
  obtain ⟨a, ha⟩ : ((Nat.gcd n.natAbs d.natAbs : Nat) : Int) ∣ n := Int.natAbs_dvd_natAbs.mp (by simpa using Nat.gcd_dvd_left _ _)
  obtain ⟨b, hb⟩ : ((Nat.gcd n.natAbs d.natAbs : Nat) : Int) ∣ d := Int.natAbs_dvd_natAbs.mp (by simpa using Nat.gcd_dvd_right _ _)
  unfold lowN lowD
  generalize Nat.gcd n.natAbs d.natAbs = g at *
  subst ha hb
  rw [Int.mul_fdiv_cancel_left _ (by omega), Int.mul_fdiv_cancel_left _ (by omega)]
  have big : ∀ c : Int, c.natAbs ≤ ((g : Int) * c).natAbs := fun c => by
    rw [Int.natAbs_mul]
    have : 1 * c.natAbs ≤ (g : Int).natAbs * c.natAbs := Nat.mul_le_mul_right _ (by omega)
    omega
  refine ⟨?_, by grind, big a, big b⟩
  rcases Int.lt_trichotomy 0 b with z | z | z
  · exact z
  · exfalso; subst z; simp at hd
  · exfalso
    have : (g : Int) * b < 0 := Int.mul_neg_of_pos_of_neg (by omega) z
    omega
theorem low_eq {n d n' d' : Int} (hd : 0 < d) (hd' : 0 < d') (e : n * d' = n' * d) : lowN n d = lowN n' d' ∧ lowD n d = lowD n' d' := low_uniq hd hd' e
/-! ### a polynomial at a fraction -/
def hA (a b : Int) : List Int → Int
  | [] => 0
  | c :: p => hA a b p * a + c * b ^ p.length
theorem pow_bits {b : Int} {k : Nat} (h : b.natAbs < 2 ^ k) : ∀ n : Nat, (b ^ n).natAbs < 2 ^ (k * n + 1)
  | 0 => by simp
  | n + 1 => by
    rw [Int.pow_succ]
    exact Nat.lt_of_lt_of_le (mul_bits (pow_bits h n) h) (Nat.pow_le_pow_right (by decide) (by rw [Nat.mul_succ]; omega))
theorem hA_bits {a b : Int} (ha : a.natAbs < 2 ^ 40) (hb : b.natAbs < 2 ^ 40) : ∀ {p : List Int}, Bits p 60 → (hA a b p).natAbs < 2 ^ (41 * p.length + 70)
  | [], _ => by
    show (0 : Int).natAbs < _
    exact Nat.pow_pos (by decide)
  | c :: p, h => by
    have ih := hA_bits ha hb fun d hd => h d (List.mem_cons_of_mem _ hd)
    have hc := h c List.mem_cons_self
    show (hA a b p * a + c * b ^ p.length).natAbs < 2 ^ (41 * (p.length + 1) + 70)
    have h1 := mul_bits ih ha
    have h2 := mul_bits hc (pow_bits hb p.length)
    have k1 : (hA a b p * a).natAbs < 2 ^ (41 * p.length + 110) := Nat.lt_of_lt_of_le h1 (Nat.pow_le_pow_right (by decide) (by omega))
    have k2 : (c * b ^ p.length).natAbs < 2 ^ (41 * p.length + 110) := Nat.lt_of_lt_of_le h2 (Nat.pow_le_pow_right (by decide) (by omega))
    exact Nat.lt_of_lt_of_le (add_bits k1 k2) (Nat.pow_le_pow_right (by decide) (by omega))
end PA
end
section
namespace DD
open PySem PySem.Spec PyProof.Rows L2
/-! ### the text by places -/
def topS (i : Nat) : Stmt := PySem.Challenge.pw_wayorring_k01_values_common_square_free.main.body.getD i (.Pass ⟨0, 0, 0, 0⟩)
/-! ### frac -/
abbrev s_frac : Stmt := topS 2
abbrev N_frac : List Str := ["above", "below", "by"]
abbrev P_frac : List Str := ["above", "below"]
theorem sc_frac : FnScope N_frac P_frac (defScope s_frac) := ⟨rfl, rfl, rfl, by decide +kernel, rfl, by decide +kernel, by decide +kernel⟩
theorem bd_frac {K : PySem.W.Frag} {f : Addr} {fd : FuncData} (F : FnP K "frac" "frac" s_frac f fd) : Binds K fd P_frac [] := FunD.bindsN F fun _ _ _ _ _ _ us hl => match us, hl with | [_, _], _ => rfl
def r_frac  : DS := sSeq (sAsg (dCB gGcd (aCons (dVar 0) (aCons (dVar 1) (aNil)))) (gNm 2)) (sSeq (sIf (dTest (dBin gLt (dVar 1) (dC (.int 0)))) (sAsg (dUn gNeg (dVar 2)) (gNm 2)) (sNext)) (sRet (dTup (aCons (dBin gDiv (dVar 0) (dVar 2)) (aCons (dBin gDiv (dVar 1) (dVar 2)) (aNil))))))
theorem body_frac {W : Wd} {k : Nat}  (ng : W.mg "gcd" = some (.builtin "math.gcd")) : Body W k N_frac "frac" (defScope s_frac) (defBody s_frac) (r_frac ) := fun f cdv A outer s H E hi =>
  have nd := sc_frac.nd
  pdss_cons (pds_set (i := 2) nd rfl (by first | exact .inl rfl | exact .inr rfl) (pd_callF cr_gcd cd_gcd (by rfl) ng (pda_cons (pd_var (pv 0)) (pda_cons (pd_var (pv 1)) (pda_nil)))))
      (pdss_cons (pds_if (pdt_cmp op_lt od_lt (pd_var (pv 1)) (pd_int) (nomark _)) (pdss_one (pds_set (i := 2) nd rfl (by first | exact .inl rfl | exact .inr rfl) (pd_un un_neg ud_neg (pd_var (pv 2))))) (pdss_nil))
      (pdss_one (pds_ret (pd_tup (pda_cons (pd_op op_fdivG od_div (pd_var (pv 0)) (pd_var (pv 2))) (pda_cons (pd_op op_fdivG od_div (pd_var (pv 1)) (pd_var (pv 2))) (pda_nil)))))))
/-! ### sign_of -/
abbrev s_sign_of : Stmt := topS 3
abbrev N_sign_of : List Str := ["number"]
abbrev P_sign_of : List Str := ["number"]
theorem sc_sign_of : FnScope N_sign_of P_sign_of (defScope s_sign_of) := ⟨rfl, rfl, rfl, by decide +kernel, rfl, by decide +kernel, by decide +kernel⟩
theorem bd_sign_of {K : PySem.W.Frag} {f : Addr} {fd : FuncData} (F : FnP K "sign_of" "sign_of" s_sign_of f fd) : Binds K fd P_sign_of [] := FunD.bindsN F fun _ _ _ _ _ _ us hl => match us, hl with | [_], _ => rfl
def r_sign_of  : DS := sRet (dBin gSubA (dBin gGt (dVar 0) (dC (.int 0))) (dBin gLt (dVar 0) (dC (.int 0))))
theorem body_sign_of {W : Wd} {k : Nat}   : Body W k N_sign_of "sign_of" (defScope s_sign_of) (defBody s_sign_of) (r_sign_of ) := fun f cdv A outer s H E hi =>
  have nd := sc_sign_of.nd
  pdss_one (pds_ret (pd_op op_subA od_subA (pd_cmp op_gt od_gt (pd_var (pv 0)) (pd_int) (nomark _)) (pd_cmp op_lt od_lt (pd_var (pv 0)) (pd_int) (nomark _))))
/-! ### common_divisor -/
abbrev s_common_divisor : Stmt := topS 4
abbrev N_common_divisor : List Str := ["numbers", "found", "number"]
abbrev P_common_divisor : List Str := ["numbers"]
theorem sc_common_divisor : FnScope N_common_divisor P_common_divisor (defScope s_common_divisor) := ⟨rfl, rfl, rfl, by decide +kernel, rfl, by decide +kernel, by decide +kernel⟩
theorem bd_common_divisor {K : PySem.W.Frag} {f : Addr} {fd : FuncData} (F : FnP K "common_divisor" "common_divisor" s_common_divisor f fd) : Binds K fd P_common_divisor [] := FunD.bindsN F fun _ _ _ _ _ _ us hl => match us, hl with | [_], _ => rfl
def r_common_divisor  : DS := sSeq (sAsg (dC (.int 0)) (gNm 1)) (sSeq (sFor (iSeq (dVar 0)) (gNm 2) (sAsg (dCB gGcd (aCons (dVar 1) (aCons (dVar 2) (aNil)))) (gNm 1))) (sRet (dVar 1)))
theorem body_common_divisor {W : Wd} {k : Nat}  (ng : W.mg "gcd" = some (.builtin "math.gcd")) : Body W k N_common_divisor "common_divisor" (defScope s_common_divisor) (defBody s_common_divisor) (r_common_divisor ) := fun f cdv A outer s H E hi =>
  have nd := sc_common_divisor.nd
  pdss_cons (pds_set (i := 1) nd rfl (by first | exact .inl rfl | exact .inr rfl) (pd_int))
      (pdss_cons (pds_for PassesOwn.never rfl (pdi_seq (pd_var (pv 0))) (pdg_name (pg_name (i := 2) nd rfl (by first | exact .inl rfl | exact .inr rfl))) (pdss_one (pds_set (i := 1) nd rfl (by first | exact .inl rfl | exact .inr rfl) (pd_callF cr_gcd cd_gcd (by rfl) ng (pda_cons (pd_var (pv 1)) (pda_cons (pd_var (pv 2)) (pda_nil)))))))
      (pdss_one (pds_ret (pd_var (pv 1)))))
/-! ### trimmed -/
abbrev s_trimmed : Stmt := topS 6
abbrev N_trimmed : List Str := ["numbers", "many"]
abbrev P_trimmed : List Str := ["numbers"]
theorem sc_trimmed : FnScope N_trimmed P_trimmed (defScope s_trimmed) := ⟨rfl, rfl, rfl, by decide +kernel, rfl, by decide +kernel, by decide +kernel⟩
theorem bd_trimmed {K : PySem.W.Frag} {f : Addr} {fd : FuncData} (F : FnP K "trimmed" "trimmed" s_trimmed f fd) : Binds K fd P_trimmed [] := FunD.bindsN F fun _ _ _ _ _ _ us hl => match us, hl with | [_], _ => rfl
def r_trimmed  : DS := sSeq (sAsg (dCB gLen (aCons (dVar 0) (aNil))) (gNm 1)) (sSeq (sWhile (dAnd (dTest (dBin gGt (dVar 1) (dC (.int 0)))) (dTest (dBin gEq (dBin gIx (dVar 0) (dBin gSubA (dVar 1) (dC (.int 1)))) (dC (.int 0))))) (sAug 1 (dC (.int 1)) gSub)) (sRet (dCB gTuple (aCons (dSl (dVar 0) (oNone) (oSome (dVar 1))) (aNil)))))
theorem body_trimmed {W : Wd} {k : Nat}  (nb : NB W) : Body W k N_trimmed "trimmed" (defScope s_trimmed) (defBody s_trimmed) (r_trimmed ) := fun f cdv A outer s H E hi =>
  have nd := sc_trimmed.nd
  pdss_cons (pds_set (i := 1) nd rfl (by first | exact .inl rfl | exact .inr rfl) (pd_callB call_lenA cd_len (by rfl) nb.len (by decide +kernel) (pda_cons (pd_var (pv 0)) (pda_nil))))
      (pdss_cons (pds_while PassesOwn.never ((pdw_and (pdt_cmp op_gt od_gt (pd_var (pv 1)) (pd_int) (nomark _)) (pdw_and1 (pdt_cmp (op_eqD hi.room.units) od_eq (pd_ix (pd_var (pv 0)) (pd_op op_subA od_subA (pd_var (pv 1)) (pd_int))) (pd_int) (nomark _)))).pt) (pdss_one (pds_aug (i := 1) nd rfl (by first | exact .inl rfl | exact .inr rfl) (pd_int) (pip_op iop_sub) (ipd_op od_sub))))
      (pdss_one (pds_ret (pd_callTy call_tuple_of cd_tuple (by rfl) nb.tuple_ (by decide +kernel) (pda_cons (pd_slice (pd_var (pv 0)) (pdo_none) (pdo_some (pd_var (pv 1)))) (pda_nil))))))
/-! ### poly_plus -/
abbrev s_poly_plus : Stmt := topS 7
abbrev N_poly_plus : List Str := ["p", "q", "longer", "shorter", "found", "power", "number"]
abbrev P_poly_plus : List Str := ["p", "q"]
theorem sc_poly_plus : FnScope N_poly_plus P_poly_plus (defScope s_poly_plus) := ⟨rfl, rfl, rfl, by decide +kernel, rfl, by decide +kernel, by decide +kernel⟩
theorem bd_poly_plus {K : PySem.W.Frag} {f : Addr} {fd : FuncData} (F : FnP K "poly_plus" "poly_plus" s_poly_plus f fd) : Binds K fd P_poly_plus [] := FunD.bindsN F fun _ _ _ _ _ _ us hl => match us, hl with | [_, _], _ => rfl
def r_poly_plus (sp_trimmed : DSp) : DS := sSeq (sAsg (dIf (dTest (dBin gGe (dCB gLen (aCons (dVar 0) (aNil))) (dCB gLen (aCons (dVar 1) (aNil))))) (dTup (aCons (dVar 0) (aCons (dVar 1) (aNil)))) (dTup (aCons (dVar 1) (aCons (dVar 0) (aNil))))) (gUnp 2 (gsCons (gNm 2) (gsCons (gNm 3) (gsNil))))) (sSeq (sAsg (dCB gList (aCons (dVar 2) (aNil))) (gNm 4)) (sSeq (sFor (iEnumerate (aCons (dVar 3) (aNil))) (gUnp 2 (gsCons (gNm 5) (gsCons (gNm 6) (gsNil)))) (sAugS (dVar 4) (dVar 5) (dVar 6) gAddI)) (sRet (dCall sp_trimmed (aCons (dVar 4) (aNil))))))
theorem body_poly_plus {W : Wd} {k : Nat} {sp_trimmed : DSp} (f_trimmed : GFn W k "trimmed" P_trimmed sp_trimmed) (nb : NB W) : Body W k N_poly_plus "poly_plus" (defScope s_poly_plus) (defBody s_poly_plus) (r_poly_plus sp_trimmed) := fun f cdv A outer s H E hi =>
  have nd := sc_poly_plus.nd
  pdss_cons (pds_asg (pd_ifExp (pdt_cmp op_ge od_ge (pd_callB call_lenA cd_len (by rfl) nb.len (by decide +kernel) (pda_cons (pd_var (pv 0)) (pda_nil))) (pd_callB call_lenA cd_len (by rfl) nb.len (by decide +kernel) (pda_cons (pd_var (pv 1)) (pda_nil))) (nomark _)) (pd_tup (pda_cons (pd_var (pv 0)) (pda_cons (pd_var (pv 1)) (pda_nil)))) (pd_tup (pda_cons (pd_var (pv 1)) (pda_cons (pd_var (pv 0)) (pda_nil))))) (pdg_tup rfl (pdgs_cons (pdg_name (pg_name (i := 2) nd rfl (by first | exact .inl rfl | exact .inr rfl))) (pdgs_cons (pdg_name (pg_name (i := 3) nd rfl (by first | exact .inl rfl | exact .inr rfl))) (pdgs_nil)))))
      (pdss_cons (pds_set (i := 4) nd rfl (by first | exact .inl rfl | exact .inr rfl) (pd_callTy call_list_of cd_list (by rfl) nb.list_ (by decide +kernel) (pda_cons (pd_var (pv 2)) (pda_nil))))
      (pdss_cons (pds_for PassesOwn.never rfl (pdi_enumerate (by rfl) nb.enumerate (pda_cons (pd_var (pv 3)) (pda_nil))) (pdg_tup rfl (pdgs_cons (pdg_name (pg_name (i := 5) nd rfl (by first | exact .inl rfl | exact .inr rfl))) (pdgs_cons (pdg_name (pg_name (i := 6) nd rfl (by first | exact .inl rfl | exact .inr rfl))) (pdgs_nil)))) (pdss_one (pds_augS (pd_var (pv 4)) (pd_var (pv 5)) (pd_var (pv 6)) (pip_op iop_add) (ipd_op od_iadd))))
      (pdss_one (pds_ret (pd_call f_trimmed hi (by rfl) (pda_cons (pd_var (pv 4)) (pda_nil)))))))
/-! ### poly_scaled -/
abbrev s_poly_scaled : Stmt := topS 8
abbrev N_poly_scaled : List Str := ["p", "number", "one"]
abbrev P_poly_scaled : List Str := ["p", "number"]
theorem sc_poly_scaled : FnScope N_poly_scaled P_poly_scaled (defScope s_poly_scaled) := ⟨rfl, rfl, rfl, by decide +kernel, rfl, by decide +kernel, by decide +kernel⟩
theorem bd_poly_scaled {K : PySem.W.Frag} {f : Addr} {fd : FuncData} (F : FnP K "poly_scaled" "poly_scaled" s_poly_scaled f fd) : Binds K fd P_poly_scaled [] := FunD.bindsN F fun _ _ _ _ _ _ us hl => match us, hl with | [_, _], _ => rfl
def r_poly_scaled  : DS := sRet (dIf (dTest (dBin gNe (dVar 1) (dC (.int 0)))) (dCB gTuple (aCons (dLc (iSeq (dVar 0)) (gNm 2) (tYesD) (dBin gMulA (dVar 2) (dVar 1)) [2]) (aNil))) (dTup (aNil)))
theorem body_poly_scaled {W : Wd} {k : Nat}  (nb : NB W) : Body W k N_poly_scaled "poly_scaled" (defScope s_poly_scaled) (defBody s_poly_scaled) (r_poly_scaled ) := fun f cdv A outer s H E hi =>
  have nd := sc_poly_scaled.nd
  pdss_one (pds_ret (pd_ifExp (pdt_cmp (op_neD hi.room.units) od_ne (pd_var (pv 1)) (pd_int) (nomark _)) (pd_callTy call_tuple_of cd_tuple (by rfl) nb.tuple_ (by decide +kernel) (pda_cons (pd_lc rfl nd (pdi_seq (pd_var (pv 0))) (blkOk_by (own := [("one", 2)]) (by show blkC N_poly_scaled (defScope s_poly_scaled) _ _ = true; decide +kernel)) (fun _ _ _ _ _ => pdg_name (pg_name (i := 2) nd rfl (by first | exact .inl rfl | exact .inr rfl))) (fun _ _ _ _ _ => pdts_nil) (fun _ _ _ _ _ => pd_op op_mulA od_mulA (pd_var (pv 2)) (pd_var (pv 1))) (by decide)) (pda_nil))) (pd_tup (pda_nil))))
/-! ### poly_minus -/
abbrev s_poly_minus : Stmt := topS 9
abbrev N_poly_minus : List Str := ["p", "q"]
abbrev P_poly_minus : List Str := ["p", "q"]
theorem sc_poly_minus : FnScope N_poly_minus P_poly_minus (defScope s_poly_minus) := ⟨rfl, rfl, rfl, by decide +kernel, rfl, by decide +kernel, by decide +kernel⟩
theorem bd_poly_minus {K : PySem.W.Frag} {f : Addr} {fd : FuncData} (F : FnP K "poly_minus" "poly_minus" s_poly_minus f fd) : Binds K fd P_poly_minus [] := FunD.bindsN F fun _ _ _ _ _ _ us hl => match us, hl with | [_, _], _ => rfl
def r_poly_minus (sp_poly_plus : DSp) (sp_poly_scaled : DSp) : DS := sRet (dCall sp_poly_plus (aCons (dVar 0) (aCons (dCall sp_poly_scaled (aCons (dVar 1) (aCons (dUn gNeg (dC (.int 1))) (aNil)))) (aNil))))
theorem body_poly_minus {W : Wd} {k : Nat} {sp_poly_plus : DSp} {sp_poly_scaled : DSp} (f_poly_plus : GFn W k "poly_plus" P_poly_plus sp_poly_plus) (f_poly_scaled : GFn W k "poly_scaled" P_poly_scaled sp_poly_scaled) : Body W k N_poly_minus "poly_minus" (defScope s_poly_minus) (defBody s_poly_minus) (r_poly_minus sp_poly_plus sp_poly_scaled) := fun f cdv A outer s H E hi =>
  have nd := sc_poly_minus.nd
  pdss_one (pds_ret (pd_call f_poly_plus hi (by rfl) (pda_cons (pd_var (pv 0)) (pda_cons (pd_call f_poly_scaled hi (by rfl) (pda_cons (pd_var (pv 1)) (pda_cons (pd_un un_neg ud_neg (pd_int)) (pda_nil)))) (pda_nil)))))
/-! ### poly_raised -/
abbrev s_poly_raised : Stmt := topS 10
abbrev N_poly_raised : List Str := ["p", "many"]
abbrev P_poly_raised : List Str := ["p", "many"]
theorem sc_poly_raised : FnScope N_poly_raised P_poly_raised (defScope s_poly_raised) := ⟨rfl, rfl, rfl, by decide +kernel, rfl, by decide +kernel, by decide +kernel⟩
theorem bd_poly_raised {K : PySem.W.Frag} {f : Addr} {fd : FuncData} (F : FnP K "poly_raised" "poly_raised" s_poly_raised f fd) : Binds K fd P_poly_raised [] := FunD.bindsN F fun _ _ _ _ _ _ us hl => match us, hl with | [_, _], _ => rfl
def r_poly_raised  : DS := sRet (dIf (dTru (dVar 0)) (dBin gAdd (dBin gMulA (dTup (aCons (dC (.int 0)) (aNil))) (dVar 1)) (dVar 0)) (dTup (aNil)))
theorem body_poly_raised {W : Wd} {k : Nat}   : Body W k N_poly_raised "poly_raised" (defScope s_poly_raised) (defBody s_poly_raised) (r_poly_raised ) := fun f cdv A outer s H E hi =>
  have nd := sc_poly_raised.nd
  pdss_one (pds_ret (pd_ifExp (pdt_tru (pd_var (pv 0))) (pd_op op_addA od_add (pd_op op_mulA od_mulA (pd_tup (pda_cons (pd_int) (pda_nil))) (pd_var (pv 1))) (pd_var (pv 0))) (pd_tup (pda_nil))))
/-! ### slope -/
abbrev s_slope : Stmt := topS 11
abbrev N_slope : List Str := ["p", "power", "number"]
abbrev P_slope : List Str := ["p"]
theorem sc_slope : FnScope N_slope P_slope (defScope s_slope) := ⟨rfl, rfl, rfl, by decide +kernel, rfl, by decide +kernel, by decide +kernel⟩
theorem bd_slope {K : PySem.W.Frag} {f : Addr} {fd : FuncData} (F : FnP K "slope" "slope" s_slope f fd) : Binds K fd P_slope [] := FunD.bindsN F fun _ _ _ _ _ _ us hl => match us, hl with | [_], _ => rfl
def r_slope  : DS := sRet (dCB gTuple (aCons (dSl (dLc (iEnumerate (aCons (dVar 0) (aNil))) (gUnp 2 (gsCons (gNm 1) (gsCons (gNm 2) (gsNil)))) (tYesD) (dBin gMulA (dVar 1) (dVar 2)) [1, 2]) (oSome (dC (.int 1))) (oNone)) (aNil)))
theorem body_slope {W : Wd} {k : Nat}  (nb : NB W) : Body W k N_slope "slope" (defScope s_slope) (defBody s_slope) (r_slope ) := fun f cdv A outer s H E hi =>
  have nd := sc_slope.nd
  pdss_one (pds_ret (pd_callTy call_tuple_of cd_tuple (by rfl) nb.tuple_ (by decide +kernel) (pda_cons (pd_slice (pd_lc rfl nd (pdi_enumerate (by rfl) nb.enumerate (pda_cons (pd_var (pv 0)) (pda_nil))) (blkOk_by (own := [("power", 1), ("number", 2)]) (by show blkC N_slope (defScope s_slope) _ _ = true; decide +kernel)) (fun _ _ _ _ _ => pdg_tup rfl (pdgs_cons (pdg_name (pg_name (i := 1) nd rfl (by first | exact .inl rfl | exact .inr rfl))) (pdgs_cons (pdg_name (pg_name (i := 2) nd rfl (by first | exact .inl rfl | exact .inr rfl))) (pdgs_nil)))) (fun _ _ _ _ _ => pdts_nil) (fun _ _ _ _ _ => pd_op op_mulA od_mulA (pd_var (pv 1)) (pd_var (pv 2))) (by decide)) (pdo_some (pd_int)) (pdo_none)) (pda_nil))))
/-! ### content -/
abbrev s_content : Stmt := topS 12
abbrev N_content : List Str := ["p"]
abbrev P_content : List Str := ["p"]
theorem sc_content : FnScope N_content P_content (defScope s_content) := ⟨rfl, rfl, rfl, by decide +kernel, rfl, by decide +kernel, by decide +kernel⟩
theorem bd_content {K : PySem.W.Frag} {f : Addr} {fd : FuncData} (F : FnP K "content" "content" s_content f fd) : Binds K fd P_content [] := FunD.bindsN F fun _ _ _ _ _ _ us hl => match us, hl with | [_], _ => rfl
def r_content (sp_common_divisor : DSp) : DS := sRet (dCall sp_common_divisor (aCons (dVar 0) (aNil)))
theorem body_content {W : Wd} {k : Nat} {sp_common_divisor : DSp} (f_common_divisor : GFn W k "common_divisor" P_common_divisor sp_common_divisor) : Body W k N_content "content" (defScope s_content) (defBody s_content) (r_content sp_common_divisor) := fun f cdv A outer s H E hi =>
  have nd := sc_content.nd
  pdss_one (pds_ret (pd_call f_common_divisor hi (by rfl) (pda_cons (pd_var (pv 0)) (pda_nil))))
/-! ### reduced -/
abbrev s_reduced : Stmt := topS 13
abbrev N_reduced : List Str := ["p", "by", "number"]
abbrev P_reduced : List Str := ["p"]
theorem sc_reduced : FnScope N_reduced P_reduced (defScope s_reduced) := ⟨rfl, rfl, rfl, by decide +kernel, rfl, by decide +kernel, by decide +kernel⟩
theorem bd_reduced {K : PySem.W.Frag} {f : Addr} {fd : FuncData} (F : FnP K "reduced" "reduced" s_reduced f fd) : Binds K fd P_reduced [] := FunD.bindsN F fun _ _ _ _ _ _ us hl => match us, hl with | [_], _ => rfl
def r_reduced (sp_content : DSp) : DS := sSeq (sAsg (dCall sp_content (aCons (dVar 0) (aNil))) (gNm 1)) (sRet (dIf (dTest (dBin gGt (dVar 1) (dC (.int 1)))) (dCB gTuple (aCons (dLc (iSeq (dVar 0)) (gNm 2) (tYesD) (dBin gDiv (dVar 2) (dVar 1)) [2]) (aNil))) (dVar 0)))
theorem body_reduced {W : Wd} {k : Nat} {sp_content : DSp} (f_content : GFn W k "content" P_content sp_content) (nb : NB W) : Body W k N_reduced "reduced" (defScope s_reduced) (defBody s_reduced) (r_reduced sp_content) := fun f cdv A outer s H E hi =>
  have nd := sc_reduced.nd
  pdss_cons (pds_set (i := 1) nd rfl (by first | exact .inl rfl | exact .inr rfl) (pd_call f_content hi (by rfl) (pda_cons (pd_var (pv 0)) (pda_nil))))
      (pdss_one (pds_ret (pd_ifExp (pdt_cmp op_gt od_gt (pd_var (pv 1)) (pd_int) (nomark _)) (pd_callTy call_tuple_of cd_tuple (by rfl) nb.tuple_ (by decide +kernel) (pda_cons (pd_lc rfl nd (pdi_seq (pd_var (pv 0))) (blkOk_by (own := [("number", 2)]) (by show blkC N_reduced (defScope s_reduced) _ _ = true; decide +kernel)) (fun _ _ _ _ _ => pdg_name (pg_name (i := 2) nd rfl (by first | exact .inl rfl | exact .inr rfl))) (fun _ _ _ _ _ => pdts_nil) (fun _ _ _ _ _ => pd_op op_fdivG od_div (pd_var (pv 2)) (pd_var (pv 1))) (by decide)) (pda_nil))) (pd_var (pv 0)))))
/-! ### primitive -/
abbrev s_primitive : Stmt := topS 14
abbrev N_primitive : List Str := ["p", "found"]
abbrev P_primitive : List Str := ["p"]
theorem sc_primitive : FnScope N_primitive P_primitive (defScope s_primitive) := ⟨rfl, rfl, rfl, by decide +kernel, rfl, by decide +kernel, by decide +kernel⟩
theorem bd_primitive {K : PySem.W.Frag} {f : Addr} {fd : FuncData} (F : FnP K "primitive" "primitive" s_primitive f fd) : Binds K fd P_primitive [] := FunD.bindsN F fun _ _ _ _ _ _ us hl => match us, hl with | [_], _ => rfl
def r_primitive (sp_reduced : DSp) (sp_poly_scaled : DSp) : DS := sSeq (sAsg (dCall sp_reduced (aCons (dVar 0) (aNil))) (gNm 1)) (sRet (dIf (dAnd (dTru (dVar 1)) (dTest (dBin gLt (dBin gIx (dVar 1) (dUn gNeg (dC (.int 1)))) (dC (.int 0))))) (dCall sp_poly_scaled (aCons (dVar 1) (aCons (dUn gNeg (dC (.int 1))) (aNil)))) (dVar 1)))
theorem body_primitive {W : Wd} {k : Nat} {sp_reduced : DSp} {sp_poly_scaled : DSp} (f_reduced : GFn W k "reduced" P_reduced sp_reduced) (f_poly_scaled : GFn W k "poly_scaled" P_poly_scaled sp_poly_scaled) : Body W k N_primitive "primitive" (defScope s_primitive) (defBody s_primitive) (r_primitive sp_reduced sp_poly_scaled) := fun f cdv A outer s H E hi =>
  have nd := sc_primitive.nd
  pdss_cons (pds_set (i := 1) nd rfl (by first | exact .inl rfl | exact .inr rfl) (pd_call f_reduced hi (by rfl) (pda_cons (pd_var (pv 0)) (pda_nil))))
      (pdss_one (pds_ret (pd_ifExp ((pdw_and (pdt_tru (pd_var (pv 1))) (pdw_and1 (pdt_cmp op_lt od_lt (pd_ix (pd_var (pv 1)) (pd_un un_neg ud_neg (pd_int))) (pd_int) (nomark _)))).pt) (pd_call f_poly_scaled hi (by rfl) (pda_cons (pd_var (pv 1)) (pda_cons (pd_un un_neg ud_neg (pd_int)) (pda_nil)))) (pd_var (pv 1)))))
/-! ### divided -/
abbrev s_divided : Stmt := topS 15
abbrev N_divided : List Str := ["p", "q", "multiplier", "quotient", "rest", "by", "shift", "factor", "part", "one"]
abbrev P_divided : List Str := ["p", "q"]
theorem sc_divided : FnScope N_divided P_divided (defScope s_divided) := ⟨rfl, rfl, rfl, by decide +kernel, rfl, by decide +kernel, by decide +kernel⟩
theorem bd_divided {K : PySem.W.Frag} {f : Addr} {fd : FuncData} (F : FnP K "divided" "divided" s_divided f fd) : Binds K fd P_divided [] := FunD.bindsN F fun _ _ _ _ _ _ us hl => match us, hl with | [_, _], _ => rfl
def r_divided (sp_common_divisor : DSp) (sp_sign_of : DSp) (sp_poly_minus : DSp) (sp_poly_scaled : DSp) (sp_poly_raised : DSp) (sp_trimmed : DSp) : DS := sSeq (sPar3 2 3 4 (aCons (dC (.int 1)) (aCons (dBin gMulA (dLst (aCons (dC (.int 0)) (aNil))) (dCB gMax2 (aCons (dC (.int 0)) (aCons (dBin gAdd (dBin gSubA (dCB gLen (aCons (dVar 0) (aNil))) (dCB gLen (aCons (dVar 1) (aNil)))) (dC (.int 1))) (aNil))))) (aCons (dVar 0) (aNil))))) (sSeq (sWhile (dTest (dBin gGe (dCB gLen (aCons (dVar 4) (aNil))) (dCB gLen (aCons (dVar 1) (aNil))))) (sSeq (sAsg (dCall sp_common_divisor (aCons (dTup (aCons (dBin gIx (dVar 4) (dUn gNeg (dC (.int 1)))) (aCons (dBin gIx (dVar 1) (dUn gNeg (dC (.int 1)))) (aNil)))) (aNil))) (gNm 5)) (sSeq (sAsg (dTup (aCons (dBin gDiv (dCB gAbs (aCons (dBin gIx (dVar 1) (dUn gNeg (dC (.int 1)))) (aNil))) (dVar 5)) (aCons (dBin gDiv (dBin gMulA (dBin gIx (dVar 4) (dUn gNeg (dC (.int 1)))) (dCall sp_sign_of (aCons (dBin gIx (dVar 1) (dUn gNeg (dC (.int 1)))) (aNil)))) (dVar 5)) (aNil)))) (gUnp 2 (gsCons (gNm 7) (gsCons (gNm 8) (gsNil))))) (sSeq (sAsg (dBin gSubA (dCB gLen (aCons (dVar 4) (aNil))) (dCB gLen (aCons (dVar 1) (aNil)))) (gNm 6)) (sSeq (sAsg (dLc (iSeq (dVar 3)) (gNm 9) (tYesD) (dBin gMulA (dVar 9) (dVar 7)) [9]) (gNm 3)) (sSeq (sAugS (dVar 3) (dVar 6) (dVar 8) gAddI) (sSeq (sAsg (dCall sp_poly_minus (aCons (dCall sp_poly_scaled (aCons (dVar 4) (aCons (dVar 7) (aNil)))) (aCons (dCall sp_poly_raised (aCons (dCall sp_poly_scaled (aCons (dVar 1) (aCons (dVar 8) (aNil)))) (aCons (dVar 6) (aNil)))) (aNil)))) (gNm 4)) (sAug 2 (dVar 7) gMul)))))))) (sRet (dTup (aCons (dVar 2) (aCons (dCall sp_trimmed (aCons (dVar 3) (aNil))) (aCons (dVar 4) (aNil)))))))
theorem body_divided {W : Wd} {k : Nat} {sp_common_divisor : DSp} {sp_sign_of : DSp} {sp_poly_minus : DSp} {sp_poly_scaled : DSp} {sp_poly_raised : DSp} {sp_trimmed : DSp} (f_common_divisor : GFn W k "common_divisor" P_common_divisor sp_common_divisor) (f_sign_of : GFn W k "sign_of" P_sign_of sp_sign_of) (f_poly_minus : GFn W k "poly_minus" P_poly_minus sp_poly_minus) (f_poly_scaled : GFn W k "poly_scaled" P_poly_scaled sp_poly_scaled) (f_poly_raised : GFn W k "poly_raised" P_poly_raised sp_poly_raised) (f_trimmed : GFn W k "trimmed" P_trimmed sp_trimmed) (nb : NB W) : Body W k N_divided "divided" (defScope s_divided) (defBody s_divided) (r_divided sp_common_divisor sp_sign_of sp_poly_minus sp_poly_scaled sp_poly_raised sp_trimmed) := fun f cdv A outer s H E hi =>
  have nd := sc_divided.nd
  pdss_cons (pds_par3 (i := 2) (j := 3) (l := 4) rfl nd rfl rfl rfl (by decide) (by decide) (by decide) rfl rfl rfl (pda_cons (pd_int) (pda_cons (pd_op op_mulA od_mulA (pd_lst (pda_cons (pd_int) (pda_nil))) (pd_callB (call_max2 rfl) cd_max2 (by rfl) nb.max (by decide +kernel) (pda_cons (pd_int) (pda_cons (pd_op op_addA od_add (pd_op op_subA od_subA (pd_callB call_lenA cd_len (by rfl) nb.len (by decide +kernel) (pda_cons (pd_var (pv 0)) (pda_nil))) (pd_callB call_lenA cd_len (by rfl) nb.len (by decide +kernel) (pda_cons (pd_var (pv 1)) (pda_nil)))) (pd_int)) (pda_nil))))) (pda_cons (pd_var (pv 0)) (pda_nil)))))
      (pdss_cons (pds_while PassesOwn.never (pdt_cmp op_ge od_ge (pd_callB call_lenA cd_len (by rfl) nb.len (by decide +kernel) (pda_cons (pd_var (pv 4)) (pda_nil))) (pd_callB call_lenA cd_len (by rfl) nb.len (by decide +kernel) (pda_cons (pd_var (pv 1)) (pda_nil))) (nomark _)) (pdss_cons (pds_set (i := 5) nd rfl (by first | exact .inl rfl | exact .inr rfl) (pd_call f_common_divisor hi (by rfl) (pda_cons (pd_tup (pda_cons (pd_ix (pd_var (pv 4)) (pd_un un_neg ud_neg (pd_int))) (pda_cons (pd_ix (pd_var (pv 1)) (pd_un un_neg ud_neg (pd_int))) (pda_nil)))) (pda_nil))))
      (pdss_cons (pds_asg (pd_tup (pda_cons (pd_op op_fdivG od_div (pd_callB call_abs cd_abs (by rfl) nb.abs (by decide +kernel) (pda_cons (pd_ix (pd_var (pv 1)) (pd_un un_neg ud_neg (pd_int))) (pda_nil))) (pd_var (pv 5))) (pda_cons (pd_op op_fdivG od_div (pd_op op_mulA od_mulA (pd_ix (pd_var (pv 4)) (pd_un un_neg ud_neg (pd_int))) (pd_call f_sign_of hi (by rfl) (pda_cons (pd_ix (pd_var (pv 1)) (pd_un un_neg ud_neg (pd_int))) (pda_nil)))) (pd_var (pv 5))) (pda_nil)))) (pdg_tup rfl (pdgs_cons (pdg_name (pg_name (i := 7) nd rfl (by first | exact .inl rfl | exact .inr rfl))) (pdgs_cons (pdg_name (pg_name (i := 8) nd rfl (by first | exact .inl rfl | exact .inr rfl))) (pdgs_nil)))))
      (pdss_cons (pds_set (i := 6) nd rfl (by first | exact .inl rfl | exact .inr rfl) (pd_op op_subA od_subA (pd_callB call_lenA cd_len (by rfl) nb.len (by decide +kernel) (pda_cons (pd_var (pv 4)) (pda_nil))) (pd_callB call_lenA cd_len (by rfl) nb.len (by decide +kernel) (pda_cons (pd_var (pv 1)) (pda_nil)))))
      (pdss_cons (pds_setLc (i := 3) rfl nd rfl rfl (sw_true rfl rfl rfl (by decide +kernel)) (pdi_seq (pd_var (pv 3))) (blkOk_by (own := [("one", 9)]) (by show blkC N_divided (defScope s_divided) _ _ = true; decide +kernel)) (fun _ _ _ _ _ => pdg_name (pg_name (i := 9) nd rfl (by first | exact .inl rfl | exact .inr rfl))) (fun _ _ _ _ _ => pdts_nil) (fun _ _ _ _ _ => pd_op op_mulA od_mulA (pd_var (pv 9)) (pd_var (pv 7))) (by decide))
      (pdss_cons (pds_augS (pd_var (pv 3)) (pd_var (pv 6)) (pd_var (pv 8)) (pip_op iop_add) (ipd_op od_iadd))
      (pdss_cons (pds_set (i := 4) nd rfl (by first | exact .inl rfl | exact .inr rfl) (pd_call f_poly_minus hi (by rfl) (pda_cons (pd_call f_poly_scaled hi (by rfl) (pda_cons (pd_var (pv 4)) (pda_cons (pd_var (pv 7)) (pda_nil)))) (pda_cons (pd_call f_poly_raised hi (by rfl) (pda_cons (pd_call f_poly_scaled hi (by rfl) (pda_cons (pd_var (pv 1)) (pda_cons (pd_var (pv 8)) (pda_nil)))) (pda_cons (pd_var (pv 6)) (pda_nil)))) (pda_nil)))))
      (pdss_one (pds_aug (i := 2) nd rfl (by first | exact .inl rfl | exact .inr rfl) (pd_var (pv 7)) (pip_op iop_mulG) (ipd_op od_mul))))))))))
      (pdss_one (pds_ret (pd_tup (pda_cons (pd_var (pv 2)) (pda_cons (pd_call f_trimmed hi (by rfl) (pda_cons (pd_var (pv 3)) (pda_nil))) (pda_cons (pd_var (pv 4)) (pda_nil))))))))
/-! ### exact_over -/
abbrev s_exact_over : Stmt := topS 16
abbrev N_exact_over : List Str := ["p", "q", "rest", "found", "shift", "top", "power", "number"]
abbrev P_exact_over : List Str := ["p", "q"]
theorem sc_exact_over : FnScope N_exact_over P_exact_over (defScope s_exact_over) := ⟨rfl, rfl, rfl, by decide +kernel, rfl, by decide +kernel, by decide +kernel⟩
theorem bd_exact_over {K : PySem.W.Frag} {f : Addr} {fd : FuncData} (F : FnP K "exact_over" "exact_over" s_exact_over f fd) : Binds K fd P_exact_over [] := FunD.bindsN F fun _ _ _ _ _ _ us hl => match us, hl with | [_, _], _ => rfl
def r_exact_over (sp_trimmed : DSp) : DS := sSeq (sPar 2 3 (aCons (dCB gList (aCons (dVar 0) (aNil))) (aCons (dBin gMulA (dLst (aCons (dC (.int 0)) (aNil))) (dCB gMax2 (aCons (dC (.int 0)) (aCons (dBin gAdd (dBin gSubA (dCB gLen (aCons (dVar 0) (aNil))) (dCB gLen (aCons (dVar 1) (aNil)))) (dC (.int 1))) (aNil))))) (aNil)))) (sSeq (sFor (iRange3 (aCons (dBin gSubA (dCB gLen (aCons (dVar 0) (aNil))) (dCB gLen (aCons (dVar 1) (aNil)))) (aCons (dUn gNeg (dC (.int 1))) (aCons (dUn gNeg (dC (.int 1))) (aNil))))) (gNm 4) (sSeq (sAsg (dBin gIx (dVar 2) (dBin gSubA (dBin gAdd (dVar 4) (dCB gLen (aCons (dVar 1) (aNil)))) (dC (.int 1)))) (gNm 5)) (sSeq (sIf (dTest (dBin gNe (dBin gMod (dVar 5) (dBin gIx (dVar 1) (dUn gNeg (dC (.int 1))))) (dC (.int 0)))) (sRet (dC .non)) (sNext)) (sSeq (sAsg (dBin gDiv (dVar 5) (dBin gIx (dVar 1) (dUn gNeg (dC (.int 1))))) (gSubD (dVar 3) (dVar 4) gSetL)) (sFor (iEnumerate (aCons (dVar 1) (aNil))) (gUnp 2 (gsCons (gNm 6) (gsCons (gNm 7) (gsNil)))) (sAugS (dVar 2) (dBin gAdd (dVar 4) (dVar 6)) (dBin gMulA (dBin gIx (dVar 3) (dVar 4)) (dVar 7)) gSub)))))) (sRet (dIf (dNot (dTru (dCB gAny (aCons (dVar 2) (aNil))))) (dCall sp_trimmed (aCons (dVar 3) (aNil))) (dC .non))))
theorem body_exact_over {W : Wd} {k : Nat} {sp_trimmed : DSp} (f_trimmed : GFn W k "trimmed" P_trimmed sp_trimmed) (nb : NB W) : Body W k N_exact_over "exact_over" (defScope s_exact_over) (defBody s_exact_over) (r_exact_over sp_trimmed) := fun f cdv A outer s H E hi =>
  have nd := sc_exact_over.nd
  pdss_cons (pds_par (i := 2) (j := 3) rfl nd rfl rfl (by decide) rfl rfl (pda_cons (pd_callTy call_list_of cd_list (by rfl) nb.list_ (by decide +kernel) (pda_cons (pd_var (pv 0)) (pda_nil))) (pda_cons (pd_op op_mulA od_mulA (pd_lst (pda_cons (pd_int) (pda_nil))) (pd_callB (call_max2 rfl) cd_max2 (by rfl) nb.max (by decide +kernel) (pda_cons (pd_int) (pda_cons (pd_op op_addA od_add (pd_op op_subA od_subA (pd_callB call_lenA cd_len (by rfl) nb.len (by decide +kernel) (pda_cons (pd_var (pv 0)) (pda_nil))) (pd_callB call_lenA cd_len (by rfl) nb.len (by decide +kernel) (pda_cons (pd_var (pv 1)) (pda_nil)))) (pd_int)) (pda_nil))))) (pda_nil))))
      (pdss_cons (pds_for PassesOwn.never rfl (pdi_range3 (by rfl) nb.range (pda_cons (pd_op op_subA od_subA (pd_callB call_lenA cd_len (by rfl) nb.len (by decide +kernel) (pda_cons (pd_var (pv 0)) (pda_nil))) (pd_callB call_lenA cd_len (by rfl) nb.len (by decide +kernel) (pda_cons (pd_var (pv 1)) (pda_nil)))) (pda_cons (pd_un un_neg ud_neg (pd_int)) (pda_cons (pd_un un_neg ud_neg (pd_int)) (pda_nil))))) (pdg_name (pg_name (i := 4) nd rfl (by first | exact .inl rfl | exact .inr rfl))) (pdss_cons (pds_set (i := 5) nd rfl (by first | exact .inl rfl | exact .inr rfl) (pd_ix (pd_var (pv 2)) (pd_op op_subA od_subA (pd_op op_addA od_add (pd_var (pv 4)) (pd_callB call_lenA cd_len (by rfl) nb.len (by decide +kernel) (pda_cons (pd_var (pv 1)) (pda_nil)))) (pd_int))))
      (pdss_cons (pds_if (pdt_cmp (op_neD hi.room.units) od_ne (pd_op op_modN od_mod (pd_var (pv 5)) (pd_ix (pd_var (pv 1)) (pd_un un_neg ud_neg (pd_int)))) (pd_int) (nomark _)) (pdss_one (pds_ret (pd_non))) (pdss_nil))
      (pdss_cons (pds_asg (pd_op op_fdivG od_div (pd_var (pv 5)) (pd_ix (pd_var (pv 1)) (pd_un un_neg ud_neg (pd_int)))) (pdg_sub (pd_var (pv 3)) (pd_var (pv 4)) set_list sd_lst))
      (pdss_one (pds_for PassesOwn.never rfl (pdi_enumerate (by rfl) nb.enumerate (pda_cons (pd_var (pv 1)) (pda_nil))) (pdg_tup rfl (pdgs_cons (pdg_name (pg_name (i := 6) nd rfl (by first | exact .inl rfl | exact .inr rfl))) (pdgs_cons (pdg_name (pg_name (i := 7) nd rfl (by first | exact .inl rfl | exact .inr rfl))) (pdgs_nil)))) (pdss_one (pds_augS (pd_var (pv 2)) (pd_op op_addA od_add (pd_var (pv 4)) (pd_var (pv 6))) (pd_op op_mulA od_mulA (pd_ix (pd_var (pv 3)) (pd_var (pv 4))) (pd_var (pv 7))) (pip_op iop_sub) (ipd_op od_sub)))))))))
      (pdss_one (pds_ret (pd_ifExp (pdt_not (pdt_tru (pd_callB (cr_anyD rfl) cd_any (by rfl) nb.any (by decide +kernel) (pda_cons (pd_var (pv 2)) (pda_nil))))) (pd_call f_trimmed hi (by rfl) (pda_cons (pd_var (pv 3)) (pda_nil))) (pd_non)))))
/-! ### scaled_value -/
abbrev s_scaled_value : Stmt := topS 17
abbrev N_scaled_value : List Str := ["p", "q", "above", "below", "number"]
abbrev P_scaled_value : List Str := ["p", "q"]
theorem sc_scaled_value : FnScope N_scaled_value P_scaled_value (defScope s_scaled_value) := ⟨rfl, rfl, rfl, by decide +kernel, rfl, by decide +kernel, by decide +kernel⟩
theorem bd_scaled_value {K : PySem.W.Frag} {f : Addr} {fd : FuncData} (F : FnP K "scaled_value" "scaled_value" s_scaled_value f fd) : Binds K fd P_scaled_value [] := FunD.bindsN F fun _ _ _ _ _ _ us hl => match us, hl with | [_, _], _ => rfl
def r_scaled_value  : DS := sSeq (sAsg (dTup (aCons (dC (.int 0)) (aCons (dC (.int 1)) (aNil)))) (gUnp 2 (gsCons (gNm 2) (gsCons (gNm 3) (gsNil))))) (sSeq (sFor (iReversed (aCons (dVar 0) (aNil))) (gNm 4) (sSeq (sAsg (dBin gAdd (dBin gMulA (dVar 2) (dBin gIx (dVar 1) (dC (.int 0)))) (dBin gMulA (dVar 4) (dVar 3))) (gNm 2)) (sAug 3 (dBin gIx (dVar 1) (dC (.int 1))) gMul))) (sRet (dTup (aCons (dVar 2) (aCons (dIf (dTru (dVar 0)) (dBin gDiv (dVar 3) (dBin gIx (dVar 1) (dC (.int 1)))) (dC (.int 1))) (aNil))))))
theorem body_scaled_value {W : Wd} {k : Nat}  (nb : NB W) : Body W k N_scaled_value "scaled_value" (defScope s_scaled_value) (defBody s_scaled_value) (r_scaled_value ) := fun f cdv A outer s H E hi =>
  have nd := sc_scaled_value.nd
  pdss_cons (pds_asg (pd_tup (pda_cons (pd_int) (pda_cons (pd_int) (pda_nil)))) (pdg_tup rfl (pdgs_cons (pdg_name (pg_name (i := 2) nd rfl (by first | exact .inl rfl | exact .inr rfl))) (pdgs_cons (pdg_name (pg_name (i := 3) nd rfl (by first | exact .inl rfl | exact .inr rfl))) (pdgs_nil)))))
      (pdss_cons (pds_for PassesOwn.never rfl (pdi_reversed (by rfl) nb.reversed (pd_var (pv 0))) (pdg_name (pg_name (i := 4) nd rfl (by first | exact .inl rfl | exact .inr rfl))) (pdss_cons (pds_set (i := 2) nd rfl (by first | exact .inl rfl | exact .inr rfl) (pd_op op_addA od_add (pd_op op_mulA od_mulA (pd_var (pv 2)) (pd_ix (pd_var (pv 1)) (pd_int))) (pd_op op_mulA od_mulA (pd_var (pv 4)) (pd_var (pv 3)))))
      (pdss_one (pds_aug (i := 3) nd rfl (by first | exact .inl rfl | exact .inr rfl) (pd_ix (pd_var (pv 1)) (pd_int)) (pip_op iop_mulG) (ipd_op od_mul)))))
      (pdss_one (pds_ret (pd_tup (pda_cons (pd_var (pv 2)) (pda_cons (pd_ifExp (pdt_tru (pd_var (pv 0))) (pd_op op_fdivG od_div (pd_var (pv 3)) (pd_ix (pd_var (pv 1)) (pd_int))) (pd_int)) (pda_nil)))))))
/-! ### value_at -/
abbrev s_value_at : Stmt := topS 18
abbrev N_value_at : List Str := ["p", "q", "above", "below"]
abbrev P_value_at : List Str := ["p", "q"]
theorem sc_value_at : FnScope N_value_at P_value_at (defScope s_value_at) := ⟨rfl, rfl, rfl, by decide +kernel, rfl, by decide +kernel, by decide +kernel⟩
theorem bd_value_at {K : PySem.W.Frag} {f : Addr} {fd : FuncData} (F : FnP K "value_at" "value_at" s_value_at f fd) : Binds K fd P_value_at [] := FunD.bindsN F fun _ _ _ _ _ _ us hl => match us, hl with | [_, _], _ => rfl
def r_value_at (sp_scaled_value : DSp) (sp_frac : DSp) : DS := sSeq (sAsg (dCall sp_scaled_value (aCons (dVar 0) (aCons (dVar 1) (aNil)))) (gUnp 2 (gsCons (gNm 2) (gsCons (gNm 3) (gsNil))))) (sRet (dCall sp_frac (aCons (dVar 2) (aCons (dVar 3) (aNil)))))
theorem body_value_at {W : Wd} {k : Nat} {sp_scaled_value : DSp} {sp_frac : DSp} (f_scaled_value : GFn W k "scaled_value" P_scaled_value sp_scaled_value) (f_frac : GFn W k "frac" P_frac sp_frac) : Body W k N_value_at "value_at" (defScope s_value_at) (defBody s_value_at) (r_value_at sp_scaled_value sp_frac) := fun f cdv A outer s H E hi =>
  have nd := sc_value_at.nd
  pdss_cons (pds_asg (pd_call f_scaled_value hi (by rfl) (pda_cons (pd_var (pv 0)) (pda_cons (pd_var (pv 1)) (pda_nil)))) (pdg_tup rfl (pdgs_cons (pdg_name (pg_name (i := 2) nd rfl (by first | exact .inl rfl | exact .inr rfl))) (pdgs_cons (pdg_name (pg_name (i := 3) nd rfl (by first | exact .inl rfl | exact .inr rfl))) (pdgs_nil)))))
      (pdss_one (pds_ret (pd_call f_frac hi (by rfl) (pda_cons (pd_var (pv 2)) (pda_cons (pd_var (pv 3)) (pda_nil))))))
/-! ### common -/
abbrev s_common : Stmt := topS 19
abbrev N_common : List Str := ["p", "q", "one", "other"]
abbrev P_common : List Str := ["p", "q"]
theorem sc_common : FnScope N_common P_common (defScope s_common) := ⟨rfl, rfl, rfl, by decide +kernel, rfl, by decide +kernel, by decide +kernel⟩
theorem bd_common {K : PySem.W.Frag} {f : Addr} {fd : FuncData} (F : FnP K "common" "common" s_common f fd) : Binds K fd P_common [] := FunD.bindsN F fun _ _ _ _ _ _ us hl => match us, hl with | [_, _], _ => rfl
def r_common (sp_primitive : DSp) (sp_divided : DSp) : DS := sSeq (sPar 2 3 (aCons (dCall sp_primitive (aCons (dVar 0) (aNil))) (aCons (dCall sp_primitive (aCons (dVar 1) (aNil))) (aNil)))) (sSeq (sIf (dTest (dBin gLt (dCB gLen (aCons (dVar 2) (aNil))) (dCB gLen (aCons (dVar 3) (aNil))))) (sPar 2 3 (aCons (dVar 3) (aCons (dVar 2) (aNil)))) (sNext)) (sSeq (sWhile (dTru (dVar 3)) (sPar 2 3 (aCons (dVar 3) (aCons (dCall sp_primitive (aCons (dBin gIx (dCall sp_divided (aCons (dVar 2) (aCons (dVar 3) (aNil)))) (dC (.int 2))) (aNil))) (aNil))))) (sRet (dIf (dTest (dBin gGt (dCB gLen (aCons (dVar 2) (aNil))) (dC (.int 1)))) (dVar 2) (dTup (aCons (dC (.int 1)) (aNil)))))))
theorem body_common {W : Wd} {k : Nat} {sp_primitive : DSp} {sp_divided : DSp} (f_primitive : GFn W k "primitive" P_primitive sp_primitive) (f_divided : GFn W k "divided" P_divided sp_divided) (nb : NB W) : Body W k N_common "common" (defScope s_common) (defBody s_common) (r_common sp_primitive sp_divided) := fun f cdv A outer s H E hi =>
  have nd := sc_common.nd
  pdss_cons (pds_par (i := 2) (j := 3) rfl nd rfl rfl (by decide) rfl rfl (pda_cons (pd_call f_primitive hi (by rfl) (pda_cons (pd_var (pv 0)) (pda_nil))) (pda_cons (pd_call f_primitive hi (by rfl) (pda_cons (pd_var (pv 1)) (pda_nil))) (pda_nil))))
      (pdss_cons (pds_if (pdt_cmp op_lt od_lt (pd_callB call_lenA cd_len (by rfl) nb.len (by decide +kernel) (pda_cons (pd_var (pv 2)) (pda_nil))) (pd_callB call_lenA cd_len (by rfl) nb.len (by decide +kernel) (pda_cons (pd_var (pv 3)) (pda_nil))) (nomark _)) (pdss_one (pds_par (i := 2) (j := 3) rfl nd rfl rfl (by decide) rfl rfl (pda_cons (pd_var (pv 3)) (pda_cons (pd_var (pv 2)) (pda_nil))))) (pdss_nil))
      (pdss_cons (pds_while PassesOwn.never (pdt_tru (pd_var (pv 3))) (pdss_one (pds_par (i := 2) (j := 3) rfl nd rfl rfl (by decide) rfl rfl (pda_cons (pd_var (pv 3)) (pda_cons (pd_call f_primitive hi (by rfl) (pda_cons (pd_ix (pd_call f_divided hi (by rfl) (pda_cons (pd_var (pv 2)) (pda_cons (pd_var (pv 3)) (pda_nil)))) (pd_int)) (pda_nil))) (pda_nil))))))
      (pdss_one (pds_ret (pd_ifExp (pdt_cmp op_gt od_gt (pd_callB call_lenA cd_len (by rfl) nb.len (by decide +kernel) (pda_cons (pd_var (pv 2)) (pda_nil))) (pd_int) (nomark _)) (pd_var (pv 2)) (pd_tup (pda_cons (pd_int) (pda_nil))))))))
/-! ### square_free -/
abbrev s_square_free : Stmt := topS 20
abbrev N_square_free : List Str := ["p", "one", "by", "left", "other", "found", "power", "gap", "part"]
abbrev P_square_free : List Str := ["p"]
theorem sc_square_free : FnScope N_square_free P_square_free (defScope s_square_free) := ⟨rfl, rfl, rfl, by decide +kernel, rfl, by decide +kernel, by decide +kernel⟩
theorem bd_square_free {K : PySem.W.Frag} {f : Addr} {fd : FuncData} (F : FnP K "square_free" "square_free" s_square_free f fd) : Binds K fd P_square_free [] := FunD.bindsN F fun _ _ _ _ _ _ us hl => match us, hl with | [_], _ => rfl
def r_square_free (sp_primitive : DSp) (sp_common : DSp) (sp_slope : DSp) (sp_exact_over : DSp) (sp_poly_minus : DSp) : DS := sSeq (sAsg (dCall sp_primitive (aCons (dVar 0) (aNil))) (gNm 1)) (sSeq (sAsg (dCall sp_common (aCons (dVar 1) (aCons (dCall sp_slope (aCons (dVar 1) (aNil))) (aNil)))) (gNm 2)) (sSeq (sPar 3 4 (aCons (dCall sp_exact_over (aCons (dVar 1) (aCons (dVar 2) (aNil)))) (aCons (dCall sp_exact_over (aCons (dCall sp_slope (aCons (dVar 1) (aNil))) (aCons (dVar 2) (aNil)))) (aNil)))) (sSeq (sPar 5 6 (aCons (dLst (aNil)) (aCons (dC (.int 1)) (aNil)))) (sSeq (sWhile (dTest (dBin gGt (dCB gLen (aCons (dVar 3) (aNil))) (dC (.int 1)))) (sSeq (sAsg (dCall sp_poly_minus (aCons (dVar 4) (aCons (dCall sp_slope (aCons (dVar 3) (aNil))) (aNil)))) (gNm 7)) (sSeq (sAsg (dCall sp_common (aCons (dVar 3) (aCons (dVar 7) (aNil)))) (gNm 8)) (sSeq (sIf (dTest (dBin gGt (dCB gLen (aCons (dVar 8) (aNil))) (dC (.int 1)))) (sDrop (dBM isLst gAppend (dVar 5) (aCons (dTup (aCons (dVar 8) (aCons (dVar 6) (aNil)))) (aNil)))) (sNext)) (sSeq (sPar 3 4 (aCons (dCall sp_exact_over (aCons (dVar 3) (aCons (dVar 8) (aNil)))) (aCons (dCall sp_exact_over (aCons (dVar 7) (aCons (dVar 8) (aNil)))) (aNil)))) (sAug 6 (dC (.int 1)) gAddI)))))) (sRet (dCB gTuple (aCons (dVar 5) (aNil))))))))
theorem body_square_free {W : Wd} {k : Nat} {sp_primitive : DSp} {sp_common : DSp} {sp_slope : DSp} {sp_exact_over : DSp} {sp_poly_minus : DSp} (f_primitive : GFn W k "primitive" P_primitive sp_primitive) (f_common : GFn W k "common" P_common sp_common) (f_slope : GFn W k "slope" P_slope sp_slope) (f_exact_over : GFn W k "exact_over" P_exact_over sp_exact_over) (f_poly_minus : GFn W k "poly_minus" P_poly_minus sp_poly_minus) (nb : NB W) : Body W k N_square_free "square_free" (defScope s_square_free) (defBody s_square_free) (r_square_free sp_primitive sp_common sp_slope sp_exact_over sp_poly_minus) := fun f cdv A outer s H E hi =>
  have nd := sc_square_free.nd
  pdss_cons (pds_set (i := 1) nd rfl (by first | exact .inl rfl | exact .inr rfl) (pd_call f_primitive hi (by rfl) (pda_cons (pd_var (pv 0)) (pda_nil))))
      (pdss_cons (pds_set (i := 2) nd rfl (by first | exact .inl rfl | exact .inr rfl) (pd_call f_common hi (by rfl) (pda_cons (pd_var (pv 1)) (pda_cons (pd_call f_slope hi (by rfl) (pda_cons (pd_var (pv 1)) (pda_nil))) (pda_nil)))))
      (pdss_cons (pds_par (i := 3) (j := 4) rfl nd rfl rfl (by decide) rfl rfl (pda_cons (pd_call f_exact_over hi (by rfl) (pda_cons (pd_var (pv 1)) (pda_cons (pd_var (pv 2)) (pda_nil)))) (pda_cons (pd_call f_exact_over hi (by rfl) (pda_cons (pd_call f_slope hi (by rfl) (pda_cons (pd_var (pv 1)) (pda_nil))) (pda_cons (pd_var (pv 2)) (pda_nil)))) (pda_nil))))
      (pdss_cons (pds_par (i := 5) (j := 6) rfl nd rfl rfl (by decide) rfl rfl (pda_cons (pd_lst (pda_nil)) (pda_cons (pd_int) (pda_nil))))
      (pdss_cons (pds_while PassesOwn.never (pdt_cmp op_gt od_gt (pd_callB call_lenA cd_len (by rfl) nb.len (by decide +kernel) (pda_cons (pd_var (pv 3)) (pda_nil))) (pd_int) (nomark _)) (pdss_cons (pds_set (i := 7) nd rfl (by first | exact .inl rfl | exact .inr rfl) (pd_call f_poly_minus hi (by rfl) (pda_cons (pd_var (pv 4)) (pda_cons (pd_call f_slope hi (by rfl) (pda_cons (pd_var (pv 3)) (pda_nil))) (pda_nil)))))
      (pdss_cons (pds_set (i := 8) nd rfl (by first | exact .inl rfl | exact .inr rfl) (pd_call f_common hi (by rfl) (pda_cons (pd_var (pv 3)) (pda_cons (pd_var (pv 7)) (pda_nil)))))
      (pdss_cons (pds_if (pdt_cmp op_gt od_gt (pd_callB call_lenA cd_len (by rfl) nb.len (by decide +kernel) (pda_cons (pd_var (pv 8)) (pda_nil))) (pd_int) (nomark _)) (pdss_one (pds_expr (pd_bm PySem.F.plainAttrs_list PySem.F.slot_list_append PySem.F.type_list_append mt_append md_append (pd_var (pv 5)) (pda_cons (pd_tup (pda_cons (pd_var (pv 8)) (pda_cons (pd_var (pv 6)) (pda_nil)))) (pda_nil))))) (pdss_nil))
      (pdss_cons (pds_par (i := 3) (j := 4) rfl nd rfl rfl (by decide) rfl rfl (pda_cons (pd_call f_exact_over hi (by rfl) (pda_cons (pd_var (pv 3)) (pda_cons (pd_var (pv 8)) (pda_nil)))) (pda_cons (pd_call f_exact_over hi (by rfl) (pda_cons (pd_var (pv 7)) (pda_cons (pd_var (pv 8)) (pda_nil)))) (pda_nil))))
      (pdss_one (pds_aug (i := 6) nd rfl (by first | exact .inl rfl | exact .inr rfl) (pd_int) (pip_op iop_add) (ipd_op od_iadd))))))))
      (pdss_one (pds_ret (pd_callTy call_tuple_of cd_tuple (by rfl) nb.tuple_ (by decide +kernel) (pda_cons (pd_var (pv 5)) (pda_nil)))))))))
/-! ### _law_bag -/
abbrev s_l_bag : Stmt := topS 22
abbrev N_l_bag : List Str := ["script", "cells", "cell", "great"]
abbrev P_l_bag : List Str := ["script"]
theorem sc_l_bag : FnScope N_l_bag P_l_bag (defScope s_l_bag) := ⟨rfl, rfl, rfl, by decide +kernel, rfl, by decide +kernel, by decide +kernel⟩
theorem bd_l_bag {K : PySem.W.Frag} {f : Addr} {fd : FuncData} (F : FnP K "_law_bag" "_law_bag" s_l_bag f fd) : Binds K fd P_l_bag [] := FunD.bindsN F fun _ _ _ _ _ _ us hl => match us, hl with | [_], _ => rfl
def r_l_bag  : DS := sSeq (sAsg (dBin gAdd (dLc (iSeq (dVar 0)) (gNm 2) (tYesD) (dCB gAbs (aCons (dCB gInt (aCons (dVar 2) (aNil))) (aNil))) [2]) (dLst (aCons (dC (.int 7)) (aNil)))) (gNm 1)) (sSeq (sAsg (dLst (aNil)) (gNm 3)) (sSeq (sIf (dTest (dBin gEq (dBin gMod (dCB gInt (aCons (dBin gIx (dVar 1) (dC (.int 0))) (aNil))) (dC (.int 2))) (dC (.int 0)))) (sSeq (sAsg (dLc (iSeq (dVar 1)) (gNm 2) (dTest (dBin gGe (dVar 2) (dBin gPow (dC (.int 10)) (dC (.int 18))))) (dBin gDiv (dVar 2) (dC (.int 2))) [2]) (gNm 3)) (sDrop (dBM0 isLst gReverse (dVar 3)))) (sNext)) (sRet (dLst (aCons (dC (.int 0)) (aCons (dC (.int 0)) (aCons (dVar 3) (aCons (dLc (iSeq (dVar 1)) (gNm 2) (tYesD) (dBin gMod (dCB gInt (aCons (dVar 2) (aNil))) (dC (.int 2147483647))) [2]) (aNil)))))))))
theorem body_l_bag {W : Wd} {k : Nat}  (nb : NB W) : Body W k N_l_bag "_law_bag" (defScope s_l_bag) (defBody s_l_bag) (r_l_bag ) := fun f cdv A outer s H E hi =>
  have nd := sc_l_bag.nd
  pdss_cons (pds_set (i := 1) nd rfl (by first | exact .inl rfl | exact .inr rfl) (pd_op op_addA od_add (pd_lc rfl nd (pdi_seq (pd_var (pv 0))) (blkOk_by (own := [("cell", 2)]) (by show blkC N_l_bag (defScope s_l_bag) _ _ = true; decide +kernel)) (fun _ _ _ _ _ => pdg_name (pg_name (i := 2) nd rfl (by first | exact .inl rfl | exact .inr rfl))) (fun _ _ _ _ _ => pdts_nil) (fun _ _ _ _ _ => pd_callB call_abs cd_abs (by rfl) nb.abs (by decide +kernel) (pda_cons (pd_callTy call_int1 cd_int (by rfl) nb.int_ (by decide +kernel) (pda_cons (pd_var (pv 2)) (pda_nil))) (pda_nil))) (by decide)) (pd_lst (pda_cons (pd_int) (pda_nil)))))
      (pdss_cons (pds_set (i := 3) nd rfl (by first | exact .inl rfl | exact .inr rfl) (pd_lst (pda_nil)))
      (pdss_cons (pds_if (pdt_cmp (op_eqD hi.room.units) od_eq (pd_op op_modN od_mod (pd_callTy call_int1 cd_int (by rfl) nb.int_ (by decide +kernel) (pda_cons (pd_ix (pd_var (pv 1)) (pd_int)) (pda_nil))) (pd_int)) (pd_int) (nomark _)) (pdss_cons (pds_setLc (i := 3) rfl nd rfl rfl (sw_true rfl rfl rfl (by decide +kernel)) (pdi_seq (pd_var (pv 1))) (blkOk_by (own := [("cell", 2)]) (by show blkC N_l_bag (defScope s_l_bag) _ _ = true; decide +kernel)) (fun _ _ _ _ _ => pdg_name (pg_name (i := 2) nd rfl (by first | exact .inl rfl | exact .inr rfl))) (fun _ _ _ _ _ => pdts_one (pdt_cmp op_ge od_ge (pd_var (pv 2)) (pd_op op_pow od_pow (pd_int) (pd_int)) (nomark _))) (fun _ _ _ _ _ => pd_op op_fdivG od_div (pd_var (pv 2)) (pd_int)) (by decide))
      (pdss_one (pds_expr (pd_bm0 PySem.F.plainAttrs_list PySem.F.slot_list_reverse PySem.F.type_list_reverse mt_reverse md_reverse (pd_var (pv 3)))))) (pdss_nil))
      (pdss_one (pds_ret (pd_lst (pda_cons (pd_int) (pda_cons (pd_int) (pda_cons (pd_var (pv 3)) (pda_cons (pd_lc rfl nd (pdi_seq (pd_var (pv 1))) (blkOk_by (own := [("cell", 2)]) (by show blkC N_l_bag (defScope s_l_bag) _ _ = true; decide +kernel)) (fun _ _ _ _ _ => pdg_name (pg_name (i := 2) nd rfl (by first | exact .inl rfl | exact .inr rfl))) (fun _ _ _ _ _ => pdts_nil) (fun _ _ _ _ _ => pd_op op_modN od_mod (pd_callTy call_int1 cd_int (by rfl) nb.int_ (by decide +kernel) (pda_cons (pd_var (pv 2)) (pda_nil))) (pd_int)) (by decide)) (pda_nil))))))))))
/-! ### _law_draw -/
abbrev s_l_draw : Stmt := topS 23
abbrev N_l_draw : List Str := ["bag", "many", "digit", "cell", "mixed"]
abbrev P_l_draw : List Str := ["bag", "many"]
theorem sc_l_draw : FnScope N_l_draw P_l_draw (defScope s_l_draw) := ⟨rfl, rfl, rfl, by decide +kernel, rfl, by decide +kernel, by decide +kernel⟩
theorem bd_l_draw {K : PySem.W.Frag} {f : Addr} {fd : FuncData} (F : FnP K "_law_draw" "_law_draw" s_l_draw f fd) : Binds K fd P_l_draw [] := FunD.bindsN F fun _ _ _ _ _ _ us hl => match us, hl with | [_, _], _ => rfl
def r_l_draw  : DS := sSeq (sAsg (dBin gAdd (dBin gIx (dVar 0) (dC (.int 1))) (dC (.int 1))) (gSubD (dVar 0) (dC (.int 1)) gSetL)) (sSeq (sIf (dAnd (dTest (dBin gEq (dBin gIx (dVar 0) (dC (.int 0))) (dC (.int 0)))) (dTest (dBin gGt (dCB gLen (aCons (dBin gIx (dVar 0) (dC (.int 2))) (aNil))) (dC (.int 0))))) (sAsg (dBM0 isLst gPop (dBin gIx (dVar 0) (dC (.int 2)))) (gSubD (dVar 0) (dC (.int 0)) gSetL)) (sNext)) (sSeq (sIf (dTest (dBin gGt (dBin gIx (dVar 0) (dC (.int 0))) (dC (.int 0)))) (sSeq (sAsg (dBin gMod (dCB gInt (aCons (dBin gIx (dVar 0) (dC (.int 0))) (aNil))) (dVar 1)) (gNm 2)) (sSeq (sAsg (dBin gDiv (dBin gIx (dVar 0) (dC (.int 0))) (dVar 1)) (gSubD (dVar 0) (dC (.int 0)) gSetL)) (sRet (dVar 2)))) (sNext)) (sSeq (sAsg (dBin gIx (dBin gIx (dVar 0) (dC (.int 3))) (dBin gMod (dCB gInt (aCons (dBin gIx (dVar 0) (dC (.int 1))) (aNil))) (dCB gLen (aCons (dBin gIx (dVar 0) (dC (.int 3))) (aNil))))) (gNm 3)) (sSeq (sAsg (dBin gMod (dCB gInt (aCons (dBin gAdd (dBin gAdd (dBin gMul (dVar 3) (dC (.int 48271))) (dBin gMul (dBin gIx (dVar 0) (dC (.int 1))) (dC (.int 69621)))) (dC (.int 1))) (aNil))) (dC (.int 2147483647))) (gNm 4)) (sRet (dBin gMod (dBin gDiv (dBin gMod (dCB gInt (aCons (dBin gAdd (dBin gAdd (dBin gMul (dVar 4) (dVar 4)) (dBin gMul (dVar 4) (dC (.int 16807)))) (dBin gMul (dBin gIx (dVar 0) (dC (.int 1))) (dC (.int 40014)))) (aNil))) (dC (.int 2147483629))) (dC (.int 32))) (dVar 1)))))))
theorem body_l_draw {W : Wd} {k : Nat}  (nb : NB W) : Body W k N_l_draw "_law_draw" (defScope s_l_draw) (defBody s_l_draw) (r_l_draw ) := fun f cdv A outer s H E hi =>
  have nd := sc_l_draw.nd
  pdss_cons (pds_asg (pd_op op_addA od_add (pd_ix (pd_var (pv 0)) (pd_int)) (pd_int)) (pdg_sub (pd_var (pv 0)) (pd_int) set_list sd_lst))
      (pdss_cons (pds_if ((pdw_and (pdt_cmp (op_eqD hi.room.units) od_eq (pd_ix (pd_var (pv 0)) (pd_int)) (pd_int) (nomark _)) (pdw_and1 (pdt_cmp op_gt od_gt (pd_callB call_lenA cd_len (by rfl) nb.len (by decide +kernel) (pda_cons (pd_ix (pd_var (pv 0)) (pd_int)) (pda_nil))) (pd_int) (nomark _)))).pt) (pdss_one (pds_asg (pd_bm0 PySem.F.plainAttrs_list PySem.F.slot_list_pop PySem.F.type_list_pop mt_pop md_pop (pd_ix (pd_var (pv 0)) (pd_int))) (pdg_sub (pd_var (pv 0)) (pd_int) set_list sd_lst))) (pdss_nil))
      (pdss_cons (pds_if (pdt_cmp op_gt od_gt (pd_ix (pd_var (pv 0)) (pd_int)) (pd_int) (nomark _)) (pdss_cons (pds_set (i := 2) nd rfl (by first | exact .inl rfl | exact .inr rfl) (pd_op op_modN od_mod (pd_callTy call_int1 cd_int (by rfl) nb.int_ (by decide +kernel) (pda_cons (pd_ix (pd_var (pv 0)) (pd_int)) (pda_nil))) (pd_var (pv 1))))
      (pdss_cons (pds_asg (pd_op op_fdivG od_div (pd_ix (pd_var (pv 0)) (pd_int)) (pd_var (pv 1))) (pdg_sub (pd_var (pv 0)) (pd_int) set_list sd_lst))
      (pdss_one (pds_ret (pd_var (pv 2)))))) (pdss_nil))
      (pdss_cons (pds_set (i := 3) nd rfl (by first | exact .inl rfl | exact .inr rfl) (pd_ix (pd_ix (pd_var (pv 0)) (pd_int)) (pd_op op_modN od_mod (pd_callTy call_int1 cd_int (by rfl) nb.int_ (by decide +kernel) (pda_cons (pd_ix (pd_var (pv 0)) (pd_int)) (pda_nil))) (pd_callB call_lenA cd_len (by rfl) nb.len (by decide +kernel) (pda_cons (pd_ix (pd_var (pv 0)) (pd_int)) (pda_nil))))))
      (pdss_cons (pds_set (i := 4) nd rfl (by first | exact .inl rfl | exact .inr rfl) (pd_op op_modN od_mod (pd_callTy call_int1 cd_int (by rfl) nb.int_ (by decide +kernel) (pda_cons (pd_op op_addA od_add (pd_op op_addA od_add (pd_op op_mulG od_mul (pd_var (pv 3)) (pd_int)) (pd_op op_mulG od_mul (pd_ix (pd_var (pv 0)) (pd_int)) (pd_int))) (pd_int)) (pda_nil))) (pd_int)))
      (pdss_one (pds_ret (pd_op op_modN od_mod (pd_op op_fdivG od_div (pd_op op_modN od_mod (pd_callTy call_int1 cd_int (by rfl) nb.int_ (by decide +kernel) (pda_cons (pd_op op_addA od_add (pd_op op_addA od_add (pd_op op_mulG od_mul (pd_var (pv 4)) (pd_var (pv 4))) (pd_op op_mulG od_mul (pd_var (pv 4)) (pd_int))) (pd_op op_mulG od_mul (pd_ix (pd_var (pv 0)) (pd_int)) (pd_int))) (pda_nil))) (pd_int)) (pd_int)) (pd_var (pv 1)))))))))
/-! ### _law_pick -/
abbrev s_l_pick : Stmt := topS 24
abbrev N_l_pick : List Str := ["bag", "some"]
abbrev P_l_pick : List Str := ["bag", "some"]
theorem sc_l_pick : FnScope N_l_pick P_l_pick (defScope s_l_pick) := ⟨rfl, rfl, rfl, by decide +kernel, rfl, by decide +kernel, by decide +kernel⟩
theorem bd_l_pick {K : PySem.W.Frag} {f : Addr} {fd : FuncData} (F : FnP K "_law_pick" "_law_pick" s_l_pick f fd) : Binds K fd P_l_pick [] := FunD.bindsN F fun _ _ _ _ _ _ us hl => match us, hl with | [_, _], _ => rfl
def r_l_pick (sp_l_draw : DSp) : DS := sRet (dBin gIx (dVar 1) (dCall sp_l_draw (aCons (dVar 0) (aCons (dCB gLen (aCons (dVar 1) (aNil))) (aNil)))))
theorem body_l_pick {W : Wd} {k : Nat} {sp_l_draw : DSp} (f_l_draw : GFn W k "_law_draw" P_l_draw sp_l_draw) (nb : NB W) : Body W k N_l_pick "_law_pick" (defScope s_l_pick) (defBody s_l_pick) (r_l_pick sp_l_draw) := fun f cdv A outer s H E hi =>
  have nd := sc_l_pick.nd
  pdss_one (pds_ret (pd_ix (pd_var (pv 1)) (pd_call f_l_draw hi (by rfl) (pda_cons (pd_var (pv 0)) (pda_cons (pd_callB call_lenA cd_len (by rfl) nb.len (by decide +kernel) (pda_cons (pd_var (pv 1)) (pda_nil))) (pda_nil))))))
/-! ### _law_same -/
abbrev s_l_same : Stmt := topS 25
abbrev N_l_same : List Str := ["found", "due", "k"]
abbrev P_l_same : List Str := ["found", "due"]
theorem sc_l_same : FnScope N_l_same P_l_same (defScope s_l_same) := ⟨rfl, rfl, rfl, by decide +kernel, rfl, by decide +kernel, by decide +kernel⟩
theorem bd_l_same {K : PySem.W.Frag} {f : Addr} {fd : FuncData} (F : FnP K "_law_same" "_law_same" s_l_same f fd) : Binds K fd P_l_same [] := FunD.bindsN F fun _ _ _ _ _ _ us hl => match us, hl with | [_, _], _ => rfl
def r_l_same (sp_l_same : DSp) : DS := sSeq (sIf (dTest (dBin gIsN (dVar 1) (dC .non))) (sRet (dBin gIsN (dVar 0) (dC .non))) (sNext)) (sSeq (sIf (dOr (dTru (dCB gIsi (aCons (dVar 1) (aCons (dC (.ty "bool")) (aNil))))) (dTru (dCB gIsi (aCons (dVar 0) (aCons (dC (.ty "bool")) (aNil)))))) (sRet (dAndV (dCB gIsi (aCons (dVar 1) (aCons (dC (.ty "bool")) (aNil)))) (dAndV (dCB gIsi (aCons (dVar 0) (aCons (dC (.ty "bool")) (aNil)))) (dBin gEq (dVar 0) (dVar 1))))) (sNext)) (sSeq (sIf (dTru (dCB gIsi (aCons (dVar 1) (aCons (dC (.ty "int")) (aNil))))) (sRet (dAndV (dCB gIsi (aCons (dVar 0) (aCons (dC (.ty "int")) (aNil)))) (dBin gEq (dVar 0) (dVar 1)))) (sNext)) (sSeq (sIf (dTru (dCB gIsi (aCons (dVar 1) (aCons (dC (.ty "str")) (aNil))))) (sRet (dAndV (dCB gIsi (aCons (dVar 0) (aCons (dC (.ty "str")) (aNil)))) (dBin gEq (dVar 0) (dVar 1)))) (sNext)) (sSeq (sIf (dOr (dNot (dTru (dCB gIsi (aCons (dVar 1) (aCons (dC (.ty "tuple")) (aNil)))))) (dOr (dNot (dTru (dCB gIsi (aCons (dVar 0) (aCons (dC (.ty "tuple")) (aNil)))))) (dTest (dBin gNe (dCB gLen (aCons (dVar 0) (aNil))) (dCB gLen (aCons (dVar 1) (aNil))))))) (sRet (dC (.bl false))) (sNext)) (sSeq (sFor (iRange1 (aCons (dCB gLen (aCons (dVar 1) (aNil))) (aNil))) (gNm 2) (sIf (dNot (dTru (dCall sp_l_same (aCons (dBin gIx (dVar 0) (dVar 2)) (aCons (dBin gIx (dVar 1) (dVar 2)) (aNil)))))) (sRet (dC (.bl false))) (sNext))) (sRet (dC (.bl true))))))))
theorem body_l_same {W : Wd} {k : Nat} {sp_l_same : DSp} (f_l_same : GFn W k "_law_same" P_l_same sp_l_same) (nb : NB W) : Body W k N_l_same "_law_same" (defScope s_l_same) (defBody s_l_same) (r_l_same sp_l_same) := fun f cdv A outer s H E hi =>
  have nd := sc_l_same.nd
  pdss_cons (pds_if (pdt_cmp op_isN od_isN (pd_var (pv 1)) (pd_non) (nomark _)) (pdss_one (pds_ret (pd_cmp op_isN od_isN (pd_var (pv 0)) (pd_non) (nomark _)))) (pdss_nil))
      (pdss_cons (pds_if ((pdw_or (pdt_tru (pd_callB call_isi cd_isi (by rfl) nb.isinstance (by decide +kernel) (pda_cons (pd_var (pv 1)) (pda_cons (pd_ty (by rfl) nb.bool_ (by decide +kernel)) (pda_nil))))) (pdw_or1 (pdt_tru (pd_callB call_isi cd_isi (by rfl) nb.isinstance (by decide +kernel) (pda_cons (pd_var (pv 0)) (pda_cons (pd_ty (by rfl) nb.bool_ (by decide +kernel)) (pda_nil))))))).pt) (pdss_one (pds_ret (pd_and (pd_callB call_isi cd_isi (by rfl) nb.isinstance (by decide +kernel) (pda_cons (pd_var (pv 1)) (pda_cons (pd_ty (by rfl) nb.bool_ (by decide +kernel)) (pda_nil)))) (pd_and (pd_callB call_isi cd_isi (by rfl) nb.isinstance (by decide +kernel) (pda_cons (pd_var (pv 0)) (pda_cons (pd_ty (by rfl) nb.bool_ (by decide +kernel)) (pda_nil)))) (pd_one (pd_cmp (op_eqD hi.room.units) od_eq (pd_var (pv 0)) (pd_var (pv 1)) (nomark _))))))) (pdss_nil))
      (pdss_cons (pds_if (pdt_tru (pd_callB call_isi cd_isi (by rfl) nb.isinstance (by decide +kernel) (pda_cons (pd_var (pv 1)) (pda_cons (pd_ty (by rfl) nb.int_ (by decide +kernel)) (pda_nil))))) (pdss_one (pds_ret (pd_and (pd_callB call_isi cd_isi (by rfl) nb.isinstance (by decide +kernel) (pda_cons (pd_var (pv 0)) (pda_cons (pd_ty (by rfl) nb.int_ (by decide +kernel)) (pda_nil)))) (pd_one (pd_cmp (op_eqD hi.room.units) od_eq (pd_var (pv 0)) (pd_var (pv 1)) (nomark _)))))) (pdss_nil))
      (pdss_cons (pds_if (pdt_tru (pd_callB call_isi cd_isi (by rfl) nb.isinstance (by decide +kernel) (pda_cons (pd_var (pv 1)) (pda_cons (pd_ty (by rfl) nb.str_ (by decide +kernel)) (pda_nil))))) (pdss_one (pds_ret (pd_and (pd_callB call_isi cd_isi (by rfl) nb.isinstance (by decide +kernel) (pda_cons (pd_var (pv 0)) (pda_cons (pd_ty (by rfl) nb.str_ (by decide +kernel)) (pda_nil)))) (pd_one (pd_cmp (op_eqD hi.room.units) od_eq (pd_var (pv 0)) (pd_var (pv 1)) (nomark _)))))) (pdss_nil))
      (pdss_cons (pds_if ((pdw_or (pdt_not (pdt_tru (pd_callB call_isi cd_isi (by rfl) nb.isinstance (by decide +kernel) (pda_cons (pd_var (pv 1)) (pda_cons (pd_ty (by rfl) nb.tuple_ (by decide +kernel)) (pda_nil)))))) (pdw_or (pdt_not (pdt_tru (pd_callB call_isi cd_isi (by rfl) nb.isinstance (by decide +kernel) (pda_cons (pd_var (pv 0)) (pda_cons (pd_ty (by rfl) nb.tuple_ (by decide +kernel)) (pda_nil)))))) (pdw_or1 (pdt_cmp (op_neD hi.room.units) od_ne (pd_callB call_lenA cd_len (by rfl) nb.len (by decide +kernel) (pda_cons (pd_var (pv 0)) (pda_nil))) (pd_callB call_lenA cd_len (by rfl) nb.len (by decide +kernel) (pda_cons (pd_var (pv 1)) (pda_nil))) (nomark _))))).pt) (pdss_one (pds_ret (pd_bl))) (pdss_nil))
      (pdss_cons (pds_for PassesOwn.never rfl (pdi_range1 (by rfl) nb.range (pda_cons (pd_callB call_lenA cd_len (by rfl) nb.len (by decide +kernel) (pda_cons (pd_var (pv 1)) (pda_nil))) (pda_nil))) (pdg_name (pg_name (i := 2) nd rfl (by first | exact .inl rfl | exact .inr rfl))) (pdss_one (pds_if (pdt_not (pdt_tru (pd_call f_l_same hi (by rfl) (pda_cons (pd_ix (pd_var (pv 0)) (pd_var (pv 2))) (pda_cons (pd_ix (pd_var (pv 1)) (pd_var (pv 2))) (pda_nil)))))) (pdss_one (pds_ret (pd_bl))) (pdss_nil))))
      (pdss_one (pds_ret (pd_bl))))))))
/-! ### _law_gcd -/
abbrev s_l_gcd : Stmt := topS 26
abbrev N_l_gcd : List Str := ["a", "b", "k"]
abbrev P_l_gcd : List Str := ["a", "b"]
theorem sc_l_gcd : FnScope N_l_gcd P_l_gcd (defScope s_l_gcd) := ⟨rfl, rfl, rfl, by decide +kernel, rfl, by decide +kernel, by decide +kernel⟩
theorem bd_l_gcd {K : PySem.W.Frag} {f : Addr} {fd : FuncData} (F : FnP K "_law_gcd" "_law_gcd" s_l_gcd f fd) : Binds K fd P_l_gcd [] := FunD.bindsN F fun _ _ _ _ _ _ us hl => match us, hl with | [_, _], _ => rfl
def r_l_gcd  : DS := sSeq (sPar 0 1 (aCons (dCB gAbs (aCons (dVar 0) (aNil))) (aCons (dCB gAbs (aCons (dVar 1) (aNil))) (aNil)))) (sSeq (sFor (iRange1 (aCons (dC (.int 6000)) (aNil))) (gNm 2) (sSeq (sIf (dTest (dBin gEq (dVar 1) (dC (.int 0)))) (sRet (dVar 0)) (sNext)) (sPar 0 1 (aCons (dVar 1) (aCons (dBin gMod (dCB gInt (aCons (dVar 0) (aNil))) (dVar 1)) (aNil)))))) (sRet (dVar 0)))
theorem body_l_gcd {W : Wd} {k : Nat}  (nb : NB W) : Body W k N_l_gcd "_law_gcd" (defScope s_l_gcd) (defBody s_l_gcd) (r_l_gcd ) := fun f cdv A outer s H E hi =>
  have nd := sc_l_gcd.nd
  pdss_cons (pds_par (i := 0) (j := 1) rfl nd rfl rfl (by decide) rfl rfl (pda_cons (pd_callB call_abs cd_abs (by rfl) nb.abs (by decide +kernel) (pda_cons (pd_var (pv 0)) (pda_nil))) (pda_cons (pd_callB call_abs cd_abs (by rfl) nb.abs (by decide +kernel) (pda_cons (pd_var (pv 1)) (pda_nil))) (pda_nil))))
      (pdss_cons (pds_for PassesOwn.never rfl (pdi_range1 (by rfl) nb.range (pda_cons (pd_int) (pda_nil))) (pdg_name (pg_name (i := 2) nd rfl (by first | exact .inl rfl | exact .inr rfl))) (pdss_cons (pds_if (pdt_cmp (op_eqD hi.room.units) od_eq (pd_var (pv 1)) (pd_int) (nomark _)) (pdss_one (pds_ret (pd_var (pv 0)))) (pdss_nil))
      (pdss_one (pds_par (i := 0) (j := 1) rfl nd rfl rfl (by decide) rfl rfl (pda_cons (pd_var (pv 1)) (pda_cons (pd_op op_modN od_mod (pd_callTy call_int1 cd_int (by rfl) nb.int_ (by decide +kernel) (pda_cons (pd_var (pv 0)) (pda_nil))) (pd_var (pv 1))) (pda_nil)))))))
      (pdss_one (pds_ret (pd_var (pv 0)))))
/-! ### _law_fr -/
abbrev s_l_fr : Stmt := topS 27
abbrev N_l_fr : List Str := ["a", "b", "by"]
abbrev P_l_fr : List Str := ["a", "b"]
theorem sc_l_fr : FnScope N_l_fr P_l_fr (defScope s_l_fr) := ⟨rfl, rfl, rfl, by decide +kernel, rfl, by decide +kernel, by decide +kernel⟩
theorem bd_l_fr {K : PySem.W.Frag} {f : Addr} {fd : FuncData} (F : FnP K "_law_fr" "_law_fr" s_l_fr f fd) : Binds K fd P_l_fr [] := FunD.bindsN F fun _ _ _ _ _ _ us hl => match us, hl with | [_, _], _ => rfl
def r_l_fr (sp_l_gcd : DSp) : DS := sSeq (sAsg (dCall sp_l_gcd (aCons (dVar 0) (aCons (dVar 1) (aNil)))) (gNm 2)) (sSeq (sIf (dTest (dBin gLt (dVar 1) (dC (.int 0)))) (sAsg (dBin gSubA (dC (.int 0)) (dVar 2)) (gNm 2)) (sNext)) (sRet (dIf (dTest (dBin gNe (dVar 2) (dC (.int 0)))) (dTup (aCons (dBin gDiv (dVar 0) (dVar 2)) (aCons (dBin gDiv (dVar 1) (dVar 2)) (aNil)))) (dTup (aCons (dC (.int 0)) (aCons (dC (.int 1)) (aNil)))))))
theorem body_l_fr {W : Wd} {k : Nat} {sp_l_gcd : DSp} (f_l_gcd : GFn W k "_law_gcd" P_l_gcd sp_l_gcd) : Body W k N_l_fr "_law_fr" (defScope s_l_fr) (defBody s_l_fr) (r_l_fr sp_l_gcd) := fun f cdv A outer s H E hi =>
  have nd := sc_l_fr.nd
  pdss_cons (pds_set (i := 2) nd rfl (by first | exact .inl rfl | exact .inr rfl) (pd_call f_l_gcd hi (by rfl) (pda_cons (pd_var (pv 0)) (pda_cons (pd_var (pv 1)) (pda_nil)))))
      (pdss_cons (pds_if (pdt_cmp op_lt od_lt (pd_var (pv 1)) (pd_int) (nomark _)) (pdss_one (pds_set (i := 2) nd rfl (by first | exact .inl rfl | exact .inr rfl) (pd_op op_subA od_subA (pd_int) (pd_var (pv 2))))) (pdss_nil))
      (pdss_one (pds_ret (pd_ifExp (pdt_cmp (op_neD hi.room.units) od_ne (pd_var (pv 2)) (pd_int) (nomark _)) (pd_tup (pda_cons (pd_op op_fdivG od_div (pd_var (pv 0)) (pd_var (pv 2))) (pda_cons (pd_op op_fdivG od_div (pd_var (pv 1)) (pd_var (pv 2))) (pda_nil)))) (pd_tup (pda_cons (pd_int) (pda_cons (pd_int) (pda_nil))))))))
/-! ### _law_add -/
abbrev s_l_add : Stmt := topS 28
abbrev N_l_add : List Str := ["a", "b"]
abbrev P_l_add : List Str := ["a", "b"]
theorem sc_l_add : FnScope N_l_add P_l_add (defScope s_l_add) := ⟨rfl, rfl, rfl, by decide +kernel, rfl, by decide +kernel, by decide +kernel⟩
theorem bd_l_add {K : PySem.W.Frag} {f : Addr} {fd : FuncData} (F : FnP K "_law_add" "_law_add" s_l_add f fd) : Binds K fd P_l_add [] := FunD.bindsN F fun _ _ _ _ _ _ us hl => match us, hl with | [_, _], _ => rfl
def r_l_add (sp_l_fr : DSp) : DS := sRet (dCall sp_l_fr (aCons (dBin gAdd (dBin gMulA (dBin gIx (dVar 0) (dC (.int 0))) (dBin gIx (dVar 1) (dC (.int 1)))) (dBin gMulA (dBin gIx (dVar 1) (dC (.int 0))) (dBin gIx (dVar 0) (dC (.int 1))))) (aCons (dBin gMulA (dBin gIx (dVar 0) (dC (.int 1))) (dBin gIx (dVar 1) (dC (.int 1)))) (aNil))))
theorem body_l_add {W : Wd} {k : Nat} {sp_l_fr : DSp} (f_l_fr : GFn W k "_law_fr" P_l_fr sp_l_fr) : Body W k N_l_add "_law_add" (defScope s_l_add) (defBody s_l_add) (r_l_add sp_l_fr) := fun f cdv A outer s H E hi =>
  have nd := sc_l_add.nd
  pdss_one (pds_ret (pd_call f_l_fr hi (by rfl) (pda_cons (pd_op op_addA od_add (pd_op op_mulA od_mulA (pd_ix (pd_var (pv 0)) (pd_int)) (pd_ix (pd_var (pv 1)) (pd_int))) (pd_op op_mulA od_mulA (pd_ix (pd_var (pv 1)) (pd_int)) (pd_ix (pd_var (pv 0)) (pd_int)))) (pda_cons (pd_op op_mulA od_mulA (pd_ix (pd_var (pv 0)) (pd_int)) (pd_ix (pd_var (pv 1)) (pd_int))) (pda_nil)))))
/-! ### _law_mul -/
abbrev s_l_mul : Stmt := topS 29
abbrev N_l_mul : List Str := ["a", "b"]
abbrev P_l_mul : List Str := ["a", "b"]
theorem sc_l_mul : FnScope N_l_mul P_l_mul (defScope s_l_mul) := ⟨rfl, rfl, rfl, by decide +kernel, rfl, by decide +kernel, by decide +kernel⟩
theorem bd_l_mul {K : PySem.W.Frag} {f : Addr} {fd : FuncData} (F : FnP K "_law_mul" "_law_mul" s_l_mul f fd) : Binds K fd P_l_mul [] := FunD.bindsN F fun _ _ _ _ _ _ us hl => match us, hl with | [_, _], _ => rfl
def r_l_mul (sp_l_fr : DSp) : DS := sRet (dCall sp_l_fr (aCons (dBin gMulA (dBin gIx (dVar 0) (dC (.int 0))) (dBin gIx (dVar 1) (dC (.int 0)))) (aCons (dBin gMulA (dBin gIx (dVar 0) (dC (.int 1))) (dBin gIx (dVar 1) (dC (.int 1)))) (aNil))))
theorem body_l_mul {W : Wd} {k : Nat} {sp_l_fr : DSp} (f_l_fr : GFn W k "_law_fr" P_l_fr sp_l_fr) : Body W k N_l_mul "_law_mul" (defScope s_l_mul) (defBody s_l_mul) (r_l_mul sp_l_fr) := fun f cdv A outer s H E hi =>
  have nd := sc_l_mul.nd
  pdss_one (pds_ret (pd_call f_l_fr hi (by rfl) (pda_cons (pd_op op_mulA od_mulA (pd_ix (pd_var (pv 0)) (pd_int)) (pd_ix (pd_var (pv 1)) (pd_int))) (pda_cons (pd_op op_mulA od_mulA (pd_ix (pd_var (pv 0)) (pd_int)) (pd_ix (pd_var (pv 1)) (pd_int))) (pda_nil)))))
/-! ### _law_poly_mul -/
abbrev s_l_poly_mul : Stmt := topS 30
abbrev N_l_poly_mul : List Str := ["p", "q", "out", "k", "i", "j"]
abbrev P_l_poly_mul : List Str := ["p", "q"]
theorem sc_l_poly_mul : FnScope N_l_poly_mul P_l_poly_mul (defScope s_l_poly_mul) := ⟨rfl, rfl, rfl, by decide +kernel, rfl, by decide +kernel, by decide +kernel⟩
theorem bd_l_poly_mul {K : PySem.W.Frag} {f : Addr} {fd : FuncData} (F : FnP K "_law_poly_mul" "_law_poly_mul" s_l_poly_mul f fd) : Binds K fd P_l_poly_mul [] := FunD.bindsN F fun _ _ _ _ _ _ us hl => match us, hl with | [_, _], _ => rfl
def r_l_poly_mul  : DS := sSeq (sIf (dOr (dTest (dBin gEq (dCB gLen (aCons (dVar 0) (aNil))) (dC (.int 0)))) (dTest (dBin gEq (dCB gLen (aCons (dVar 1) (aNil))) (dC (.int 0))))) (sRet (dTup (aNil))) (sNext)) (sSeq (sAsg (dLc (iRange1 (aCons (dBin gSubA (dBin gAdd (dCB gLen (aCons (dVar 0) (aNil))) (dCB gLen (aCons (dVar 1) (aNil)))) (dC (.int 1))) (aNil))) (gNm 3) (tYesD) (dC (.int 0)) [3]) (gNm 2)) (sSeq (sFor (iRange1 (aCons (dCB gLen (aCons (dVar 0) (aNil))) (aNil))) (gNm 4) (sFor (iRange1 (aCons (dCB gLen (aCons (dVar 1) (aNil))) (aNil))) (gNm 5) (sAugS (dVar 2) (dBin gAdd (dVar 4) (dVar 5)) (dBin gMulA (dBin gIx (dVar 0) (dVar 4)) (dBin gIx (dVar 1) (dVar 5))) gAddI))) (sRet (dCB gTuple (aCons (dVar 2) (aNil))))))
theorem body_l_poly_mul {W : Wd} {k : Nat}  (nb : NB W) : Body W k N_l_poly_mul "_law_poly_mul" (defScope s_l_poly_mul) (defBody s_l_poly_mul) (r_l_poly_mul ) := fun f cdv A outer s H E hi =>
  have nd := sc_l_poly_mul.nd
  pdss_cons (pds_if ((pdw_or (pdt_cmp (op_eqD hi.room.units) od_eq (pd_callB call_lenA cd_len (by rfl) nb.len (by decide +kernel) (pda_cons (pd_var (pv 0)) (pda_nil))) (pd_int) (nomark _)) (pdw_or1 (pdt_cmp (op_eqD hi.room.units) od_eq (pd_callB call_lenA cd_len (by rfl) nb.len (by decide +kernel) (pda_cons (pd_var (pv 1)) (pda_nil))) (pd_int) (nomark _)))).pt) (pdss_one (pds_ret (pd_tup (pda_nil)))) (pdss_nil))
      (pdss_cons (pds_setLc (i := 2) rfl nd rfl rfl (sw_true rfl rfl rfl (by decide +kernel)) (pdi_range1 (by rfl) nb.range (pda_cons (pd_op op_subA od_subA (pd_op op_addA od_add (pd_callB call_lenA cd_len (by rfl) nb.len (by decide +kernel) (pda_cons (pd_var (pv 0)) (pda_nil))) (pd_callB call_lenA cd_len (by rfl) nb.len (by decide +kernel) (pda_cons (pd_var (pv 1)) (pda_nil)))) (pd_int)) (pda_nil))) (blkOk_by (own := [("k", 3)]) (by show blkC N_l_poly_mul (defScope s_l_poly_mul) _ _ = true; decide +kernel)) (fun _ _ _ _ _ => pdg_name (pg_name (i := 3) nd rfl (by first | exact .inl rfl | exact .inr rfl))) (fun _ _ _ _ _ => pdts_nil) (fun _ _ _ _ _ => pd_int) (by decide))
      (pdss_cons (pds_for PassesOwn.never rfl (pdi_range1 (by rfl) nb.range (pda_cons (pd_callB call_lenA cd_len (by rfl) nb.len (by decide +kernel) (pda_cons (pd_var (pv 0)) (pda_nil))) (pda_nil))) (pdg_name (pg_name (i := 4) nd rfl (by first | exact .inl rfl | exact .inr rfl))) (pdss_one (pds_for PassesOwn.never rfl (pdi_range1 (by rfl) nb.range (pda_cons (pd_callB call_lenA cd_len (by rfl) nb.len (by decide +kernel) (pda_cons (pd_var (pv 1)) (pda_nil))) (pda_nil))) (pdg_name (pg_name (i := 5) nd rfl (by first | exact .inl rfl | exact .inr rfl))) (pdss_one (pds_augS (pd_var (pv 2)) (pd_op op_addA od_add (pd_var (pv 4)) (pd_var (pv 5))) (pd_op op_mulA od_mulA (pd_ix (pd_var (pv 0)) (pd_var (pv 4))) (pd_ix (pd_var (pv 1)) (pd_var (pv 5)))) (pip_op iop_add) (ipd_op od_iadd))))))
      (pdss_one (pds_ret (pd_callTy call_tuple_of cd_tuple (by rfl) nb.tuple_ (by decide +kernel) (pda_cons (pd_var (pv 2)) (pda_nil)))))))
/-! ### _law_poly_at -/
abbrev s_l_poly_at : Stmt := topS 31
abbrev N_l_poly_at : List Str := ["p", "x", "out", "c"]
abbrev P_l_poly_at : List Str := ["p", "x"]
theorem sc_l_poly_at : FnScope N_l_poly_at P_l_poly_at (defScope s_l_poly_at) := ⟨rfl, rfl, rfl, by decide +kernel, rfl, by decide +kernel, by decide +kernel⟩
theorem bd_l_poly_at {K : PySem.W.Frag} {f : Addr} {fd : FuncData} (F : FnP K "_law_poly_at" "_law_poly_at" s_l_poly_at f fd) : Binds K fd P_l_poly_at [] := FunD.bindsN F fun _ _ _ _ _ _ us hl => match us, hl with | [_, _], _ => rfl
def r_l_poly_at (sp_l_add : DSp) (sp_l_mul : DSp) : DS := sSeq (sAsg (dTup (aCons (dC (.int 0)) (aCons (dC (.int 1)) (aNil)))) (gNm 2)) (sSeq (sFor (iReversed (aCons (dVar 0) (aNil))) (gNm 3) (sAsg (dCall sp_l_add (aCons (dCall sp_l_mul (aCons (dVar 2) (aCons (dVar 1) (aNil)))) (aCons (dTup (aCons (dVar 3) (aCons (dC (.int 1)) (aNil)))) (aNil)))) (gNm 2))) (sRet (dVar 2)))
theorem body_l_poly_at {W : Wd} {k : Nat} {sp_l_add : DSp} {sp_l_mul : DSp} (f_l_add : GFn W k "_law_add" P_l_add sp_l_add) (f_l_mul : GFn W k "_law_mul" P_l_mul sp_l_mul) (nb : NB W) : Body W k N_l_poly_at "_law_poly_at" (defScope s_l_poly_at) (defBody s_l_poly_at) (r_l_poly_at sp_l_add sp_l_mul) := fun f cdv A outer s H E hi =>
  have nd := sc_l_poly_at.nd
  pdss_cons (pds_set (i := 2) nd rfl (by first | exact .inl rfl | exact .inr rfl) (pd_tup (pda_cons (pd_int) (pda_cons (pd_int) (pda_nil)))))
      (pdss_cons (pds_for PassesOwn.never rfl (pdi_reversed (by rfl) nb.reversed (pd_var (pv 0))) (pdg_name (pg_name (i := 3) nd rfl (by first | exact .inl rfl | exact .inr rfl))) (pdss_one (pds_set (i := 2) nd rfl (by first | exact .inl rfl | exact .inr rfl) (pd_call f_l_add hi (by rfl) (pda_cons (pd_call f_l_mul hi (by rfl) (pda_cons (pd_var (pv 2)) (pda_cons (pd_var (pv 1)) (pda_nil)))) (pda_cons (pd_tup (pda_cons (pd_var (pv 3)) (pda_cons (pd_int) (pda_nil)))) (pda_nil)))))))
      (pdss_one (pds_ret (pd_var (pv 2)))))
/-! ### _law_trim -/
abbrev s_l_trim : Stmt := topS 32
abbrev N_l_trim : List Str := ["numbers", "out", "k"]
abbrev P_l_trim : List Str := ["numbers"]
theorem sc_l_trim : FnScope N_l_trim P_l_trim (defScope s_l_trim) := ⟨rfl, rfl, rfl, by decide +kernel, rfl, by decide +kernel, by decide +kernel⟩
theorem bd_l_trim {K : PySem.W.Frag} {f : Addr} {fd : FuncData} (F : FnP K "_law_trim" "_law_trim" s_l_trim f fd) : Binds K fd P_l_trim [] := FunD.bindsN F fun _ _ _ _ _ _ us hl => match us, hl with | [_], _ => rfl
def r_l_trim  : DS := sSeq (sAsg (dCB gList (aCons (dVar 0) (aNil))) (gNm 1)) (sSeq (sFor (iRange1 (aCons (dCB gLen (aCons (dVar 0) (aNil))) (aNil))) (gNm 2) (sSeq (sIf (dTest (dBin gNe (dBin gIx (dVar 1) (dUn gNeg (dC (.int 1)))) (dC (.int 0)))) (sBreak) (sNext)) (sDrop (dBM0 isLst gPop (dVar 1))))) (sRet (dCB gTuple (aCons (dVar 1) (aNil)))))
theorem body_l_trim {W : Wd} {k : Nat}  (nb : NB W) : Body W k N_l_trim "_law_trim" (defScope s_l_trim) (defBody s_l_trim) (r_l_trim ) := fun f cdv A outer s H E hi =>
  have nd := sc_l_trim.nd
  pdss_cons (pds_set (i := 1) nd rfl (by first | exact .inl rfl | exact .inr rfl) (pd_callTy call_list_of cd_list (by rfl) nb.list_ (by decide +kernel) (pda_cons (pd_var (pv 0)) (pda_nil))))
      (pdss_cons (pds_for PassesOwn.never rfl (pdi_range1 (by rfl) nb.range (pda_cons (pd_callB call_lenA cd_len (by rfl) nb.len (by decide +kernel) (pda_cons (pd_var (pv 0)) (pda_nil))) (pda_nil))) (pdg_name (pg_name (i := 2) nd rfl (by first | exact .inl rfl | exact .inr rfl))) (pdss_cons (pds_if (pdt_cmp (op_neD hi.room.units) od_ne (pd_ix (pd_var (pv 1)) (pd_un un_neg ud_neg (pd_int))) (pd_int) (nomark _)) (pdss_one (pds_break)) (pdss_nil))
      (pdss_one (pds_expr (pd_bm0 PySem.F.plainAttrs_list PySem.F.slot_list_pop PySem.F.type_list_pop mt_pop md_pop (pd_var (pv 1)))))))
      (pdss_one (pds_ret (pd_callTy call_tuple_of cd_tuple (by rfl) nb.tuple_ (by decide +kernel) (pda_cons (pd_var (pv 1)) (pda_nil))))))
/-! ### _law_content -/
abbrev s_l_content : Stmt := topS 33
abbrev N_l_content : List Str := ["p", "by", "c"]
abbrev P_l_content : List Str := ["p"]
theorem sc_l_content : FnScope N_l_content P_l_content (defScope s_l_content) := ⟨rfl, rfl, rfl, by decide +kernel, rfl, by decide +kernel, by decide +kernel⟩
theorem bd_l_content {K : PySem.W.Frag} {f : Addr} {fd : FuncData} (F : FnP K "_law_content" "_law_content" s_l_content f fd) : Binds K fd P_l_content [] := FunD.bindsN F fun _ _ _ _ _ _ us hl => match us, hl with | [_], _ => rfl
def r_l_content (sp_l_gcd : DSp) : DS := sSeq (sAsg (dC (.int 0)) (gNm 1)) (sSeq (sFor (iSeq (dVar 0)) (gNm 2) (sAsg (dCall sp_l_gcd (aCons (dVar 1) (aCons (dVar 2) (aNil)))) (gNm 1))) (sRet (dVar 1)))
theorem body_l_content {W : Wd} {k : Nat} {sp_l_gcd : DSp} (f_l_gcd : GFn W k "_law_gcd" P_l_gcd sp_l_gcd) : Body W k N_l_content "_law_content" (defScope s_l_content) (defBody s_l_content) (r_l_content sp_l_gcd) := fun f cdv A outer s H E hi =>
  have nd := sc_l_content.nd
  pdss_cons (pds_set (i := 1) nd rfl (by first | exact .inl rfl | exact .inr rfl) (pd_int))
      (pdss_cons (pds_for PassesOwn.never rfl (pdi_seq (pd_var (pv 0))) (pdg_name (pg_name (i := 2) nd rfl (by first | exact .inl rfl | exact .inr rfl))) (pdss_one (pds_set (i := 1) nd rfl (by first | exact .inl rfl | exact .inr rfl) (pd_call f_l_gcd hi (by rfl) (pda_cons (pd_var (pv 1)) (pda_cons (pd_var (pv 2)) (pda_nil)))))))
      (pdss_one (pds_ret (pd_var (pv 1)))))
/-! ### _law_primitive -/
abbrev s_l_primitive : Stmt := topS 34
abbrev N_l_primitive : List Str := ["p", "by", "c"]
abbrev P_l_primitive : List Str := ["p"]
theorem sc_l_primitive : FnScope N_l_primitive P_l_primitive (defScope s_l_primitive) := ⟨rfl, rfl, rfl, by decide +kernel, rfl, by decide +kernel, by decide +kernel⟩
theorem bd_l_primitive {K : PySem.W.Frag} {f : Addr} {fd : FuncData} (F : FnP K "_law_primitive" "_law_primitive" s_l_primitive f fd) : Binds K fd P_l_primitive [] := FunD.bindsN F fun _ _ _ _ _ _ us hl => match us, hl with | [_], _ => rfl
def r_l_primitive (sp_l_content : DSp) : DS := sSeq (sIf (dTest (dBin gEq (dCB gLen (aCons (dVar 0) (aNil))) (dC (.int 0)))) (sRet (dTup (aNil))) (sNext)) (sSeq (sAsg (dCall sp_l_content (aCons (dVar 0) (aNil))) (gNm 1)) (sSeq (sIf (dTest (dBin gLt (dBin gIx (dVar 0) (dUn gNeg (dC (.int 1)))) (dC (.int 0)))) (sAsg (dBin gSubA (dC (.int 0)) (dVar 1)) (gNm 1)) (sNext)) (sRet (dCB gTuple (aCons (dLc (iSeq (dVar 0)) (gNm 2) (tYesD) (dBin gDiv (dVar 2) (dVar 1)) [2]) (aNil))))))
theorem body_l_primitive {W : Wd} {k : Nat} {sp_l_content : DSp} (f_l_content : GFn W k "_law_content" P_l_content sp_l_content) (nb : NB W) : Body W k N_l_primitive "_law_primitive" (defScope s_l_primitive) (defBody s_l_primitive) (r_l_primitive sp_l_content) := fun f cdv A outer s H E hi =>
  have nd := sc_l_primitive.nd
  pdss_cons (pds_if (pdt_cmp (op_eqD hi.room.units) od_eq (pd_callB call_lenA cd_len (by rfl) nb.len (by decide +kernel) (pda_cons (pd_var (pv 0)) (pda_nil))) (pd_int) (nomark _)) (pdss_one (pds_ret (pd_tup (pda_nil)))) (pdss_nil))
      (pdss_cons (pds_set (i := 1) nd rfl (by first | exact .inl rfl | exact .inr rfl) (pd_call f_l_content hi (by rfl) (pda_cons (pd_var (pv 0)) (pda_nil))))
      (pdss_cons (pds_if (pdt_cmp op_lt od_lt (pd_ix (pd_var (pv 0)) (pd_un un_neg ud_neg (pd_int))) (pd_int) (nomark _)) (pdss_one (pds_set (i := 1) nd rfl (by first | exact .inl rfl | exact .inr rfl) (pd_op op_subA od_subA (pd_int) (pd_var (pv 1))))) (pdss_nil))
      (pdss_one (pds_ret (pd_callTy call_tuple_of cd_tuple (by rfl) nb.tuple_ (by decide +kernel) (pda_cons (pd_lc rfl nd (pdi_seq (pd_var (pv 0))) (blkOk_by (own := [("c", 2)]) (by show blkC N_l_primitive (defScope s_l_primitive) _ _ = true; decide +kernel)) (fun _ _ _ _ _ => pdg_name (pg_name (i := 2) nd rfl (by first | exact .inl rfl | exact .inr rfl))) (fun _ _ _ _ _ => pdts_nil) (fun _ _ _ _ _ => pd_op op_fdivG od_div (pd_var (pv 2)) (pd_var (pv 1))) (by decide)) (pda_nil)))))))
/-! ### _law_poly_power -/
abbrev s_l_poly_power : Stmt := topS 35
abbrev N_l_poly_power : List Str := ["p", "n", "out", "k"]
abbrev P_l_poly_power : List Str := ["p", "n"]
theorem sc_l_poly_power : FnScope N_l_poly_power P_l_poly_power (defScope s_l_poly_power) := ⟨rfl, rfl, rfl, by decide +kernel, rfl, by decide +kernel, by decide +kernel⟩
theorem bd_l_poly_power {K : PySem.W.Frag} {f : Addr} {fd : FuncData} (F : FnP K "_law_poly_power" "_law_poly_power" s_l_poly_power f fd) : Binds K fd P_l_poly_power [] := FunD.bindsN F fun _ _ _ _ _ _ us hl => match us, hl with | [_, _], _ => rfl
def r_l_poly_power (sp_l_poly_mul : DSp) : DS := sSeq (sAsg (dTup (aCons (dC (.int 1)) (aNil))) (gNm 2)) (sSeq (sFor (iRange1 (aCons (dVar 1) (aNil))) (gNm 3) (sAsg (dCall sp_l_poly_mul (aCons (dVar 2) (aCons (dVar 0) (aNil)))) (gNm 2))) (sRet (dVar 2)))
theorem body_l_poly_power {W : Wd} {k : Nat} {sp_l_poly_mul : DSp} (f_l_poly_mul : GFn W k "_law_poly_mul" P_l_poly_mul sp_l_poly_mul) (nb : NB W) : Body W k N_l_poly_power "_law_poly_power" (defScope s_l_poly_power) (defBody s_l_poly_power) (r_l_poly_power sp_l_poly_mul) := fun f cdv A outer s H E hi =>
  have nd := sc_l_poly_power.nd
  pdss_cons (pds_set (i := 2) nd rfl (by first | exact .inl rfl | exact .inr rfl) (pd_tup (pda_cons (pd_int) (pda_nil))))
      (pdss_cons (pds_for PassesOwn.never rfl (pdi_range1 (by rfl) nb.range (pda_cons (pd_var (pv 1)) (pda_nil))) (pdg_name (pg_name (i := 3) nd rfl (by first | exact .inl rfl | exact .inr rfl))) (pdss_one (pds_set (i := 2) nd rfl (by first | exact .inl rfl | exact .inr rfl) (pd_call f_l_poly_mul hi (by rfl) (pda_cons (pd_var (pv 2)) (pda_cons (pd_var (pv 0)) (pda_nil)))))))
      (pdss_one (pds_ret (pd_var (pv 2)))))
/-! ### _law_poly_sum -/
abbrev s_l_poly_sum : Stmt := topS 36
abbrev N_l_poly_sum : List Str := ["p", "q", "out", "k"]
abbrev P_l_poly_sum : List Str := ["p", "q"]
theorem sc_l_poly_sum : FnScope N_l_poly_sum P_l_poly_sum (defScope s_l_poly_sum) := ⟨rfl, rfl, rfl, by decide +kernel, rfl, by decide +kernel, by decide +kernel⟩
theorem bd_l_poly_sum {K : PySem.W.Frag} {f : Addr} {fd : FuncData} (F : FnP K "_law_poly_sum" "_law_poly_sum" s_l_poly_sum f fd) : Binds K fd P_l_poly_sum [] := FunD.bindsN F fun _ _ _ _ _ _ us hl => match us, hl with | [_, _], _ => rfl
def r_l_poly_sum (sp_l_trim : DSp) : DS := sSeq (sAsg (dLc (iRange1 (aCons (dCB gMax2 (aCons (dCB gLen (aCons (dVar 0) (aNil))) (aCons (dCB gLen (aCons (dVar 1) (aNil))) (aNil)))) (aNil))) (gNm 3) (tYesD) (dC (.int 0)) [3]) (gNm 2)) (sSeq (sFor (iRange1 (aCons (dCB gLen (aCons (dVar 0) (aNil))) (aNil))) (gNm 3) (sAugS (dVar 2) (dVar 3) (dBin gIx (dVar 0) (dVar 3)) gAddI)) (sSeq (sFor (iRange1 (aCons (dCB gLen (aCons (dVar 1) (aNil))) (aNil))) (gNm 3) (sAugS (dVar 2) (dVar 3) (dBin gIx (dVar 1) (dVar 3)) gAddI)) (sRet (dCall sp_l_trim (aCons (dVar 2) (aNil))))))
theorem body_l_poly_sum {W : Wd} {k : Nat} {sp_l_trim : DSp} (f_l_trim : GFn W k "_law_trim" P_l_trim sp_l_trim) (nb : NB W) : Body W k N_l_poly_sum "_law_poly_sum" (defScope s_l_poly_sum) (defBody s_l_poly_sum) (r_l_poly_sum sp_l_trim) := fun f cdv A outer s H E hi =>
  have nd := sc_l_poly_sum.nd
  pdss_cons (pds_setLc (i := 2) rfl nd rfl rfl (sw_true rfl rfl rfl (by decide +kernel)) (pdi_range1 (by rfl) nb.range (pda_cons (pd_callB (call_max2 rfl) cd_max2 (by rfl) nb.max (by decide +kernel) (pda_cons (pd_callB call_lenA cd_len (by rfl) nb.len (by decide +kernel) (pda_cons (pd_var (pv 0)) (pda_nil))) (pda_cons (pd_callB call_lenA cd_len (by rfl) nb.len (by decide +kernel) (pda_cons (pd_var (pv 1)) (pda_nil))) (pda_nil)))) (pda_nil))) (blkOk_by (own := [("k", 3)]) (by show blkC N_l_poly_sum (defScope s_l_poly_sum) _ _ = true; decide +kernel)) (fun _ _ _ _ _ => pdg_name (pg_name (i := 3) nd rfl (by first | exact .inl rfl | exact .inr rfl))) (fun _ _ _ _ _ => pdts_nil) (fun _ _ _ _ _ => pd_int) (by decide))
      (pdss_cons (pds_for PassesOwn.never rfl (pdi_range1 (by rfl) nb.range (pda_cons (pd_callB call_lenA cd_len (by rfl) nb.len (by decide +kernel) (pda_cons (pd_var (pv 0)) (pda_nil))) (pda_nil))) (pdg_name (pg_name (i := 3) nd rfl (by first | exact .inl rfl | exact .inr rfl))) (pdss_one (pds_augS (pd_var (pv 2)) (pd_var (pv 3)) (pd_ix (pd_var (pv 0)) (pd_var (pv 3))) (pip_op iop_add) (ipd_op od_iadd))))
      (pdss_cons (pds_for PassesOwn.never rfl (pdi_range1 (by rfl) nb.range (pda_cons (pd_callB call_lenA cd_len (by rfl) nb.len (by decide +kernel) (pda_cons (pd_var (pv 1)) (pda_nil))) (pda_nil))) (pdg_name (pg_name (i := 3) nd rfl (by first | exact .inl rfl | exact .inr rfl))) (pdss_one (pds_augS (pd_var (pv 2)) (pd_var (pv 3)) (pd_ix (pd_var (pv 1)) (pd_var (pv 3))) (pip_op iop_add) (ipd_op od_iadd))))
      (pdss_one (pds_ret (pd_call f_l_trim hi (by rfl) (pda_cons (pd_var (pv 2)) (pda_nil)))))))
/-! ### _law_moved -/
abbrev s_l_moved : Stmt := topS 37
abbrev N_l_moved : List Str := ["p", "k", "out", "c"]
abbrev P_l_moved : List Str := ["p", "k"]
theorem sc_l_moved : FnScope N_l_moved P_l_moved (defScope s_l_moved) := ⟨rfl, rfl, rfl, by decide +kernel, rfl, by decide +kernel, by decide +kernel⟩
theorem bd_l_moved {K : PySem.W.Frag} {f : Addr} {fd : FuncData} (F : FnP K "_law_moved" "_law_moved" s_l_moved f fd) : Binds K fd P_l_moved [] := FunD.bindsN F fun _ _ _ _ _ _ us hl => match us, hl with | [_, _], _ => rfl
def r_l_moved (sp_l_poly_sum : DSp) (sp_l_poly_mul : DSp) : DS := sSeq (sAsg (dTup (aNil)) (gNm 2)) (sSeq (sFor (iReversed (aCons (dVar 0) (aNil))) (gNm 3) (sAsg (dCall sp_l_poly_sum (aCons (dCall sp_l_poly_mul (aCons (dVar 2) (aCons (dTup (aCons (dVar 1) (aCons (dC (.int 1)) (aNil)))) (aNil)))) (aCons (dTup (aCons (dVar 3) (aNil))) (aNil)))) (gNm 2))) (sRet (dVar 2)))
theorem body_l_moved {W : Wd} {k : Nat} {sp_l_poly_sum : DSp} {sp_l_poly_mul : DSp} (f_l_poly_sum : GFn W k "_law_poly_sum" P_l_poly_sum sp_l_poly_sum) (f_l_poly_mul : GFn W k "_law_poly_mul" P_l_poly_mul sp_l_poly_mul) (nb : NB W) : Body W k N_l_moved "_law_moved" (defScope s_l_moved) (defBody s_l_moved) (r_l_moved sp_l_poly_sum sp_l_poly_mul) := fun f cdv A outer s H E hi =>
  have nd := sc_l_moved.nd
  pdss_cons (pds_set (i := 2) nd rfl (by first | exact .inl rfl | exact .inr rfl) (pd_tup (pda_nil)))
      (pdss_cons (pds_for PassesOwn.never rfl (pdi_reversed (by rfl) nb.reversed (pd_var (pv 0))) (pdg_name (pg_name (i := 3) nd rfl (by first | exact .inl rfl | exact .inr rfl))) (pdss_one (pds_set (i := 2) nd rfl (by first | exact .inl rfl | exact .inr rfl) (pd_call f_l_poly_sum hi (by rfl) (pda_cons (pd_call f_l_poly_mul hi (by rfl) (pda_cons (pd_var (pv 2)) (pda_cons (pd_tup (pda_cons (pd_var (pv 1)) (pda_cons (pd_int) (pda_nil)))) (pda_nil)))) (pda_cons (pd_tup (pda_cons (pd_var (pv 3)) (pda_nil))) (pda_nil)))))))
      (pdss_one (pds_ret (pd_var (pv 2)))))
/-! ### _law_factor -/
abbrev s_l_factor : Stmt := topS 38
abbrev N_l_factor : List Str := ["bag", "some", "choice", "b", "a"]
abbrev P_l_factor : List Str := ["bag"]
theorem sc_l_factor : FnScope N_l_factor P_l_factor (defScope s_l_factor) := ⟨rfl, rfl, rfl, by decide +kernel, rfl, by decide +kernel, by decide +kernel⟩
theorem bd_l_factor {K : PySem.W.Frag} {f : Addr} {fd : FuncData} (F : FnP K "_law_factor" "_law_factor" s_l_factor f fd) : Binds K fd P_l_factor [] := FunD.bindsN F fun _ _ _ _ _ _ us hl => match us, hl with | [_], _ => rfl
def r_l_factor (sp_l_draw : DSp) (sp_l_primitive : DSp) (sp_l_moved : DSp) (sp_l_pick : DSp) : DS := sSeq (sAsg (dLst (aCons (dTup (aCons (dUn gNeg (dC (.int 2))) (aCons (dC (.int 0)) (aCons (dC (.int 1)) (aNil))))) (aCons (dTup (aCons (dUn gNeg (dC (.int 3))) (aCons (dC (.int 0)) (aCons (dC (.int 1)) (aNil))))) (aCons (dTup (aCons (dC (.int 1)) (aCons (dC (.int 0)) (aCons (dC (.int 1)) (aNil))))) (aCons (dTup (aCons (dC (.int 1)) (aCons (dC (.int 1)) (aCons (dC (.int 1)) (aNil))))) (aCons (dTup (aCons (dUn gNeg (dC (.int 1))) (aCons (dUn gNeg (dC (.int 1))) (aCons (dC (.int 1)) (aNil))))) (aCons (dTup (aCons (dUn gNeg (dC (.int 2))) (aCons (dC (.int 0)) (aCons (dC (.int 0)) (aCons (dC (.int 1)) (aNil)))))) (aCons (dTup (aCons (dUn gNeg (dC (.int 1))) (aCons (dUn gNeg (dC (.int 1))) (aCons (dC (.int 0)) (aCons (dC (.int 1)) (aNil)))))) (aCons (dTup (aCons (dC (.int 1)) (aCons (dC (.int 0)) (aCons (dC (.int 0)) (aCons (dC (.int 0)) (aCons (dC (.int 1)) (aNil))))))) (aCons (dTup (aCons (dC (.int 1)) (aCons (dC (.int 0)) (aCons (dUn gNeg (dC (.int 10))) (aCons (dC (.int 0)) (aCons (dC (.int 1)) (aNil))))))) (aNil))))))))))) (gNm 1)) (sSeq (sAsg (dBin gAdd (dVar 1) (dLst (aCons (dTup (aCons (dC (.int 1)) (aCons (dC (.int 0)) (aCons (dUn gNeg (dC (.int 1))) (aCons (dC (.int 0)) (aCons (dC (.int 1)) (aNil))))))) (aCons (dTup (aCons (dC (.int 1)) (aCons (dC (.int 1)) (aCons (dC (.int 1)) (aCons (dC (.int 1)) (aCons (dC (.int 1)) (aNil))))))) (aCons (dTup (aCons (dC (.int 2)) (aCons (dC (.int 2)) (aCons (dC (.int 0)) (aCons (dC (.int 0)) (aCons (dC (.int 3)) (aNil))))))) (aCons (dTup (aCons (dUn gNeg (dC (.int 2))) (aCons (dC (.int 0)) (aCons (dC (.int 0)) (aCons (dC (.int 0)) (aCons (dC (.int 1)) (aNil))))))) (aCons (dTup (aCons (dUn gNeg (dC (.int 1))) (aCons (dC (.int 0)) (aCons (dC (.int 2)) (aNil))))) (aCons (dTup (aCons (dC (.int 3)) (aCons (dC (.int 1)) (aCons (dC (.int 2)) (aNil))))) (aNil))))))))) (gNm 1)) (sSeq (sAsg (dCall sp_l_draw (aCons (dVar 0) (aCons (dC (.int 3)) (aNil)))) (gNm 2)) (sSeq (sIf (dTest (dBin gEq (dVar 2) (dC (.int 0)))) (sSeq (sAsg (dBin gAdd (dC (.int 1)) (dCall sp_l_draw (aCons (dVar 0) (aCons (dC (.int 5)) (aNil))))) (gNm 3)) (sSeq (sAsg (dBin gSubA (dCall sp_l_draw (aCons (dVar 0) (aCons (dC (.int 21)) (aNil)))) (dC (.int 10))) (gNm 4)) (sRet (dIf (dTest (dBin gNe (dVar 4) (dC (.int 0)))) (dCall sp_l_primitive (aCons (dTup (aCons (dBin gSubA (dC (.int 0)) (dVar 4)) (aCons (dVar 3) (aNil)))) (aNil))) (dTup (aCons (dC (.int 0)) (aCons (dC (.int 1)) (aNil)))))))) (sNext)) (sRet (dCall sp_l_primitive (aCons (dCall sp_l_moved (aCons (dCall sp_l_pick (aCons (dVar 0) (aCons (dVar 1) (aNil)))) (aCons (dBin gSubA (dCall sp_l_draw (aCons (dVar 0) (aCons (dC (.int 5)) (aNil)))) (dC (.int 2))) (aNil)))) (aNil)))))))
theorem body_l_factor {W : Wd} {k : Nat} {sp_l_draw : DSp} {sp_l_primitive : DSp} {sp_l_moved : DSp} {sp_l_pick : DSp} (f_l_draw : GFn W k "_law_draw" P_l_draw sp_l_draw) (f_l_primitive : GFn W k "_law_primitive" P_l_primitive sp_l_primitive) (f_l_moved : GFn W k "_law_moved" P_l_moved sp_l_moved) (f_l_pick : GFn W k "_law_pick" P_l_pick sp_l_pick) : Body W k N_l_factor "_law_factor" (defScope s_l_factor) (defBody s_l_factor) (r_l_factor sp_l_draw sp_l_primitive sp_l_moved sp_l_pick) := fun f cdv A outer s H E hi =>
  have nd := sc_l_factor.nd
  pdss_cons (pds_set (i := 1) nd rfl (by first | exact .inl rfl | exact .inr rfl) (pd_lst (pda_cons (pd_tup (pda_cons (pd_un un_neg ud_neg (pd_int)) (pda_cons (pd_int) (pda_cons (pd_int) (pda_nil))))) (pda_cons (pd_tup (pda_cons (pd_un un_neg ud_neg (pd_int)) (pda_cons (pd_int) (pda_cons (pd_int) (pda_nil))))) (pda_cons (pd_tup (pda_cons (pd_int) (pda_cons (pd_int) (pda_cons (pd_int) (pda_nil))))) (pda_cons (pd_tup (pda_cons (pd_int) (pda_cons (pd_int) (pda_cons (pd_int) (pda_nil))))) (pda_cons (pd_tup (pda_cons (pd_un un_neg ud_neg (pd_int)) (pda_cons (pd_un un_neg ud_neg (pd_int)) (pda_cons (pd_int) (pda_nil))))) (pda_cons (pd_tup (pda_cons (pd_un un_neg ud_neg (pd_int)) (pda_cons (pd_int) (pda_cons (pd_int) (pda_cons (pd_int) (pda_nil)))))) (pda_cons (pd_tup (pda_cons (pd_un un_neg ud_neg (pd_int)) (pda_cons (pd_un un_neg ud_neg (pd_int)) (pda_cons (pd_int) (pda_cons (pd_int) (pda_nil)))))) (pda_cons (pd_tup (pda_cons (pd_int) (pda_cons (pd_int) (pda_cons (pd_int) (pda_cons (pd_int) (pda_cons (pd_int) (pda_nil))))))) (pda_cons (pd_tup (pda_cons (pd_int) (pda_cons (pd_int) (pda_cons (pd_un un_neg ud_neg (pd_int)) (pda_cons (pd_int) (pda_cons (pd_int) (pda_nil))))))) (pda_nil))))))))))))
      (pdss_cons (pds_set (i := 1) nd rfl (by first | exact .inl rfl | exact .inr rfl) (pd_op op_addA od_add (pd_var (pv 1)) (pd_lst (pda_cons (pd_tup (pda_cons (pd_int) (pda_cons (pd_int) (pda_cons (pd_un un_neg ud_neg (pd_int)) (pda_cons (pd_int) (pda_cons (pd_int) (pda_nil))))))) (pda_cons (pd_tup (pda_cons (pd_int) (pda_cons (pd_int) (pda_cons (pd_int) (pda_cons (pd_int) (pda_cons (pd_int) (pda_nil))))))) (pda_cons (pd_tup (pda_cons (pd_int) (pda_cons (pd_int) (pda_cons (pd_int) (pda_cons (pd_int) (pda_cons (pd_int) (pda_nil))))))) (pda_cons (pd_tup (pda_cons (pd_un un_neg ud_neg (pd_int)) (pda_cons (pd_int) (pda_cons (pd_int) (pda_cons (pd_int) (pda_cons (pd_int) (pda_nil))))))) (pda_cons (pd_tup (pda_cons (pd_un un_neg ud_neg (pd_int)) (pda_cons (pd_int) (pda_cons (pd_int) (pda_nil))))) (pda_cons (pd_tup (pda_cons (pd_int) (pda_cons (pd_int) (pda_cons (pd_int) (pda_nil))))) (pda_nil))))))))))
      (pdss_cons (pds_set (i := 2) nd rfl (by first | exact .inl rfl | exact .inr rfl) (pd_call f_l_draw hi (by rfl) (pda_cons (pd_var (pv 0)) (pda_cons (pd_int) (pda_nil)))))
      (pdss_cons (pds_if (pdt_cmp (op_eqD hi.room.units) od_eq (pd_var (pv 2)) (pd_int) (nomark _)) (pdss_cons (pds_set (i := 3) nd rfl (by first | exact .inl rfl | exact .inr rfl) (pd_op op_addA od_add (pd_int) (pd_call f_l_draw hi (by rfl) (pda_cons (pd_var (pv 0)) (pda_cons (pd_int) (pda_nil))))))
      (pdss_cons (pds_set (i := 4) nd rfl (by first | exact .inl rfl | exact .inr rfl) (pd_op op_subA od_subA (pd_call f_l_draw hi (by rfl) (pda_cons (pd_var (pv 0)) (pda_cons (pd_int) (pda_nil)))) (pd_int)))
      (pdss_one (pds_ret (pd_ifExp (pdt_cmp (op_neD hi.room.units) od_ne (pd_var (pv 4)) (pd_int) (nomark _)) (pd_call f_l_primitive hi (by rfl) (pda_cons (pd_tup (pda_cons (pd_op op_subA od_subA (pd_int) (pd_var (pv 4))) (pda_cons (pd_var (pv 3)) (pda_nil)))) (pda_nil))) (pd_tup (pda_cons (pd_int) (pda_cons (pd_int) (pda_nil))))))))) (pdss_nil))
      (pdss_one (pds_ret (pd_call f_l_primitive hi (by rfl) (pda_cons (pd_call f_l_moved hi (by rfl) (pda_cons (pd_call f_l_pick hi (by rfl) (pda_cons (pd_var (pv 0)) (pda_cons (pd_var (pv 1)) (pda_nil)))) (pda_cons (pd_op op_subA od_subA (pd_call f_l_draw hi (by rfl) (pda_cons (pd_var (pv 0)) (pda_cons (pd_int) (pda_nil)))) (pd_int)) (pda_nil)))) (pda_nil))))))))
/-! ### _law_factors_of -/
abbrev s_l_factors_of : Stmt := topS 39
abbrev N_l_factors_of : List Str := ["bag", "most", "rows", "total", "k", "p", "power", "row"]
abbrev P_l_factors_of : List Str := ["bag", "most"]
theorem sc_l_factors_of : FnScope N_l_factors_of P_l_factors_of (defScope s_l_factors_of) := ⟨rfl, rfl, rfl, by decide +kernel, rfl, by decide +kernel, by decide +kernel⟩
theorem bd_l_factors_of {K : PySem.W.Frag} {f : Addr} {fd : FuncData} (F : FnP K "_law_factors_of" "_law_factors_of" s_l_factors_of f fd) : Binds K fd P_l_factors_of [] := FunD.bindsN F fun _ _ _ _ _ _ us hl => match us, hl with | [_, _], _ => rfl
def r_l_factors_of (sp_l_draw : DSp) (sp_l_factor : DSp) (sp_l_pick : DSp) : DS := sSeq (sPar 2 3 (aCons (dLst (aNil)) (aCons (dC (.int 0)) (aNil)))) (sSeq (sFor (iRange1 (aCons (dBin gAdd (dC (.int 1)) (dCall sp_l_draw (aCons (dVar 0) (aCons (dC (.int 4)) (aNil))))) (aNil))) (gNm 4) (sSeq (sPar 5 6 (aCons (dCall sp_l_factor (aCons (dVar 0) (aNil))) (aCons (dCall sp_l_pick (aCons (dVar 0) (aCons (dLst (aCons (dC (.int 1)) (aCons (dC (.int 1)) (aCons (dC (.int 2)) (aCons (dC (.int 3)) (aCons (dC (.int 5)) (aNil))))))) (aNil)))) (aNil)))) (sIf (dAnd (dTest (dBin gLe (dBin gAdd (dVar 3) (dBin gMulA (dBin gSubA (dCB gLen (aCons (dVar 5) (aNil))) (dC (.int 1))) (dVar 6))) (dVar 1))) (dTest (dBin gNotIn (dVar 5) (dLc (iSeq (dVar 2)) (gNm 7) (tYesD) (dBin gIx (dVar 7) (dC (.int 0))) [7])))) (sSeq (sDrop (dBM isLst gAppend (dVar 2) (aCons (dTup (aCons (dVar 5) (aCons (dVar 6) (aNil)))) (aNil)))) (sAug 3 (dBin gMulA (dBin gSubA (dCB gLen (aCons (dVar 5) (aNil))) (dC (.int 1))) (dVar 6)) gAddI)) (sNext)))) (sRet (dVar 2)))
theorem body_l_factors_of {W : Wd} {k : Nat} {sp_l_draw : DSp} {sp_l_factor : DSp} {sp_l_pick : DSp} (f_l_draw : GFn W k "_law_draw" P_l_draw sp_l_draw) (f_l_factor : GFn W k "_law_factor" P_l_factor sp_l_factor) (f_l_pick : GFn W k "_law_pick" P_l_pick sp_l_pick) (nb : NB W) : Body W k N_l_factors_of "_law_factors_of" (defScope s_l_factors_of) (defBody s_l_factors_of) (r_l_factors_of sp_l_draw sp_l_factor sp_l_pick) := fun f cdv A outer s H E hi =>
  have nd := sc_l_factors_of.nd
  pdss_cons (pds_par (i := 2) (j := 3) rfl nd rfl rfl (by decide) rfl rfl (pda_cons (pd_lst (pda_nil)) (pda_cons (pd_int) (pda_nil))))
      (pdss_cons (pds_for PassesOwn.never rfl (pdi_range1 (by rfl) nb.range (pda_cons (pd_op op_addA od_add (pd_int) (pd_call f_l_draw hi (by rfl) (pda_cons (pd_var (pv 0)) (pda_cons (pd_int) (pda_nil))))) (pda_nil))) (pdg_name (pg_name (i := 4) nd rfl (by first | exact .inl rfl | exact .inr rfl))) (pdss_cons (pds_par (i := 5) (j := 6) rfl nd rfl rfl (by decide) rfl rfl (pda_cons (pd_call f_l_factor hi (by rfl) (pda_cons (pd_var (pv 0)) (pda_nil))) (pda_cons (pd_call f_l_pick hi (by rfl) (pda_cons (pd_var (pv 0)) (pda_cons (pd_lst (pda_cons (pd_int) (pda_cons (pd_int) (pda_cons (pd_int) (pda_cons (pd_int) (pda_cons (pd_int) (pda_nil))))))) (pda_nil)))) (pda_nil))))
      (pdss_one (pds_if ((pdw_and (pdt_cmp op_le od_le (pd_op op_addA od_add (pd_var (pv 3)) (pd_op op_mulA od_mulA (pd_op op_subA od_subA (pd_callB call_lenA cd_len (by rfl) nb.len (by decide +kernel) (pda_cons (pd_var (pv 5)) (pda_nil))) (pd_int)) (pd_var (pv 6)))) (pd_var (pv 1)) (nomark _)) (pdw_and1 (pdt_cmp (op_notInD hi.room.units2) od_notIn (pd_var (pv 5)) (pd_lc rfl nd (pdi_seq (pd_var (pv 2))) (blkOk_by (own := [("row", 7)]) (by show blkC N_l_factors_of (defScope s_l_factors_of) _ _ = true; decide +kernel)) (fun _ _ _ _ _ => pdg_name (pg_name (i := 7) nd rfl (by first | exact .inl rfl | exact .inr rfl))) (fun _ _ _ _ _ => pdts_nil) (fun _ _ _ _ _ => pd_ix (pd_var (pv 7)) (pd_int)) (by decide)) (by rfl)))).pt) (pdss_cons (pds_expr (pd_bm PySem.F.plainAttrs_list PySem.F.slot_list_append PySem.F.type_list_append mt_append md_append (pd_var (pv 2)) (pda_cons (pd_tup (pda_cons (pd_var (pv 5)) (pda_cons (pd_var (pv 6)) (pda_nil)))) (pda_nil))))
      (pdss_one (pds_aug (i := 3) nd rfl (by first | exact .inl rfl | exact .inr rfl) (pd_op op_mulA od_mulA (pd_op op_subA od_subA (pd_callB call_lenA cd_len (by rfl) nb.len (by decide +kernel) (pda_cons (pd_var (pv 5)) (pda_nil))) (pd_int)) (pd_var (pv 6))) (pip_op iop_add) (ipd_op od_iadd)))) (pdss_nil)))))
      (pdss_one (pds_ret (pd_var (pv 2)))))
/-! ### _law_product -/
abbrev s_l_product : Stmt := topS 40
abbrev N_l_product : List Str := ["rows", "number", "out", "p", "power"]
abbrev P_l_product : List Str := ["rows", "number"]
theorem sc_l_product : FnScope N_l_product P_l_product (defScope s_l_product) := ⟨rfl, rfl, rfl, by decide +kernel, rfl, by decide +kernel, by decide +kernel⟩
theorem bd_l_product {K : PySem.W.Frag} {f : Addr} {fd : FuncData} (F : FnP K "_law_product" "_law_product" s_l_product f fd) : Binds K fd P_l_product [] := FunD.bindsN F fun _ _ _ _ _ _ us hl => match us, hl with | [_, _], _ => rfl
def r_l_product (sp_l_poly_mul : DSp) (sp_l_poly_power : DSp) : DS := sSeq (sAsg (dTup (aCons (dVar 1) (aNil))) (gNm 2)) (sSeq (sFor (iSeq (dVar 0)) (gUnp 2 (gsCons (gNm 3) (gsCons (gNm 4) (gsNil)))) (sAsg (dCall sp_l_poly_mul (aCons (dVar 2) (aCons (dCall sp_l_poly_power (aCons (dVar 3) (aCons (dVar 4) (aNil)))) (aNil)))) (gNm 2))) (sRet (dVar 2)))
theorem body_l_product {W : Wd} {k : Nat} {sp_l_poly_mul : DSp} {sp_l_poly_power : DSp} (f_l_poly_mul : GFn W k "_law_poly_mul" P_l_poly_mul sp_l_poly_mul) (f_l_poly_power : GFn W k "_law_poly_power" P_l_poly_power sp_l_poly_power) : Body W k N_l_product "_law_product" (defScope s_l_product) (defBody s_l_product) (r_l_product sp_l_poly_mul sp_l_poly_power) := fun f cdv A outer s H E hi =>
  have nd := sc_l_product.nd
  pdss_cons (pds_set (i := 2) nd rfl (by first | exact .inl rfl | exact .inr rfl) (pd_tup (pda_cons (pd_var (pv 1)) (pda_nil))))
      (pdss_cons (pds_for PassesOwn.never rfl (pdi_seq (pd_var (pv 0))) (pdg_tup rfl (pdgs_cons (pdg_name (pg_name (i := 3) nd rfl (by first | exact .inl rfl | exact .inr rfl))) (pdgs_cons (pdg_name (pg_name (i := 4) nd rfl (by first | exact .inl rfl | exact .inr rfl))) (pdgs_nil)))) (pdss_one (pds_set (i := 2) nd rfl (by first | exact .inl rfl | exact .inr rfl) (pd_call f_l_poly_mul hi (by rfl) (pda_cons (pd_var (pv 2)) (pda_cons (pd_call f_l_poly_power hi (by rfl) (pda_cons (pd_var (pv 3)) (pda_cons (pd_var (pv 4)) (pda_nil)))) (pda_nil)))))))
      (pdss_one (pds_ret (pd_var (pv 2)))))
/-! ### _law_is_small -/
abbrev s_l_is_small : Stmt := topS 41
abbrev N_l_is_small : List Str := ["p", "c"]
abbrev P_l_is_small : List Str := ["p"]
theorem sc_l_is_small : FnScope N_l_is_small P_l_is_small (defScope s_l_is_small) := ⟨rfl, rfl, rfl, by decide +kernel, rfl, by decide +kernel, by decide +kernel⟩
theorem bd_l_is_small {K : PySem.W.Frag} {f : Addr} {fd : FuncData} (F : FnP K "_law_is_small" "_law_is_small" s_l_is_small f fd) : Binds K fd P_l_is_small [] := FunD.bindsN F fun _ _ _ _ _ _ us hl => match us, hl with | [_], _ => rfl
def r_l_is_small  : DS := sRet (dBin gEq (dLc (iSeq (dVar 0)) (gNm 1) (dTest (dBin gGe (dCB gAbs (aCons (dVar 1) (aNil))) (dBin gPow (dC (.int 10)) (dC (.int 12))))) (dVar 1) [1]) (dLst (aNil)))
theorem body_l_is_small {W : Wd} {k : Nat}  (nb : NB W) : Body W k N_l_is_small "_law_is_small" (defScope s_l_is_small) (defBody s_l_is_small) (r_l_is_small ) := fun f cdv A outer s H E hi =>
  have nd := sc_l_is_small.nd
  pdss_one (pds_ret (pd_cmp (op_eqD hi.room.units) od_eq (pd_lc rfl nd (pdi_seq (pd_var (pv 0))) (blkOk_by (own := [("c", 1)]) (by show blkC N_l_is_small (defScope s_l_is_small) _ _ = true; decide +kernel)) (fun _ _ _ _ _ => pdg_name (pg_name (i := 1) nd rfl (by first | exact .inl rfl | exact .inr rfl))) (fun _ _ _ _ _ => pdts_one (pdt_cmp op_ge od_ge (pd_callB call_abs cd_abs (by rfl) nb.abs (by decide +kernel) (pda_cons (pd_var (pv 1)) (pda_nil))) (pd_op op_pow od_pow (pd_int) (pd_int)) (nomark _))) (fun _ _ _ _ _ => pd_var (pv 1)) (by decide)) (pd_lst (pda_nil)) (nomark _)))
/-! ### _law_shared -/
abbrev s_l_shared : Stmt := topS 42
abbrev N_l_shared : List Str := ["one", "other", "out", "p", "power", "q", "times_of"]
abbrev P_l_shared : List Str := ["one", "other"]
theorem sc_l_shared : FnScope N_l_shared P_l_shared (defScope s_l_shared) := ⟨rfl, rfl, rfl, by decide +kernel, rfl, by decide +kernel, by decide +kernel⟩
theorem bd_l_shared {K : PySem.W.Frag} {f : Addr} {fd : FuncData} (F : FnP K "_law_shared" "_law_shared" s_l_shared f fd) : Binds K fd P_l_shared [] := FunD.bindsN F fun _ _ _ _ _ _ us hl => match us, hl with | [_, _], _ => rfl
def r_l_shared (sp_l_poly_mul : DSp) (sp_l_poly_power : DSp) (sp_l_primitive : DSp) : DS := sSeq (sAsg (dTup (aCons (dC (.int 1)) (aNil))) (gNm 2)) (sSeq (sFor (iSeq (dVar 0)) (gUnp 2 (gsCons (gNm 3) (gsCons (gNm 4) (gsNil)))) (sFor (iSeq (dVar 1)) (gUnp 2 (gsCons (gNm 5) (gsCons (gNm 6) (gsNil)))) (sIf (dTest (dBin gEq (dVar 3) (dVar 5))) (sAsg (dCall sp_l_poly_mul (aCons (dVar 2) (aCons (dCall sp_l_poly_power (aCons (dVar 3) (aCons (dCB gMin2 (aCons (dVar 4) (aCons (dVar 6) (aNil)))) (aNil)))) (aNil)))) (gNm 2)) (sNext)))) (sRet (dCall sp_l_primitive (aCons (dVar 2) (aNil)))))
theorem body_l_shared {W : Wd} {k : Nat} {sp_l_poly_mul : DSp} {sp_l_poly_power : DSp} {sp_l_primitive : DSp} (f_l_poly_mul : GFn W k "_law_poly_mul" P_l_poly_mul sp_l_poly_mul) (f_l_poly_power : GFn W k "_law_poly_power" P_l_poly_power sp_l_poly_power) (f_l_primitive : GFn W k "_law_primitive" P_l_primitive sp_l_primitive) (nb : NB W) : Body W k N_l_shared "_law_shared" (defScope s_l_shared) (defBody s_l_shared) (r_l_shared sp_l_poly_mul sp_l_poly_power sp_l_primitive) := fun f cdv A outer s H E hi =>
  have nd := sc_l_shared.nd
  pdss_cons (pds_set (i := 2) nd rfl (by first | exact .inl rfl | exact .inr rfl) (pd_tup (pda_cons (pd_int) (pda_nil))))
      (pdss_cons (pds_for PassesOwn.never rfl (pdi_seq (pd_var (pv 0))) (pdg_tup rfl (pdgs_cons (pdg_name (pg_name (i := 3) nd rfl (by first | exact .inl rfl | exact .inr rfl))) (pdgs_cons (pdg_name (pg_name (i := 4) nd rfl (by first | exact .inl rfl | exact .inr rfl))) (pdgs_nil)))) (pdss_one (pds_for PassesOwn.never rfl (pdi_seq (pd_var (pv 1))) (pdg_tup rfl (pdgs_cons (pdg_name (pg_name (i := 5) nd rfl (by first | exact .inl rfl | exact .inr rfl))) (pdgs_cons (pdg_name (pg_name (i := 6) nd rfl (by first | exact .inl rfl | exact .inr rfl))) (pdgs_nil)))) (pdss_one (pds_if (pdt_cmp (op_eqD hi.room.units) od_eq (pd_var (pv 3)) (pd_var (pv 5)) (nomark _)) (pdss_one (pds_set (i := 2) nd rfl (by first | exact .inl rfl | exact .inr rfl) (pd_call f_l_poly_mul hi (by rfl) (pda_cons (pd_var (pv 2)) (pda_cons (pd_call f_l_poly_power hi (by rfl) (pda_cons (pd_var (pv 3)) (pda_cons (pd_callB (call_min2 rfl) cd_min2 (by rfl) nb.min (by decide +kernel) (pda_cons (pd_var (pv 4)) (pda_cons (pd_var (pv 6)) (pda_nil)))) (pda_nil)))) (pda_nil)))))) (pdss_nil))))))
      (pdss_one (pds_ret (pd_call f_l_primitive hi (by rfl) (pda_cons (pd_var (pv 2)) (pda_nil))))))
/-! ### _law_parted -/
abbrev s_l_parted : Stmt := topS 43
abbrev N_l_parted : List Str := ["rows", "out", "power", "own", "p", "many"]
abbrev P_l_parted : List Str := ["rows"]
theorem sc_l_parted : FnScope N_l_parted P_l_parted (defScope s_l_parted) := ⟨rfl, rfl, rfl, by decide +kernel, rfl, by decide +kernel, by decide +kernel⟩
theorem bd_l_parted {K : PySem.W.Frag} {f : Addr} {fd : FuncData} (F : FnP K "_law_parted" "_law_parted" s_l_parted f fd) : Binds K fd P_l_parted [] := FunD.bindsN F fun _ _ _ _ _ _ us hl => match us, hl with | [_], _ => rfl
def r_l_parted (sp_l_poly_mul : DSp) (sp_l_primitive : DSp) : DS := sSeq (sAsg (dLst (aNil)) (gNm 1)) (sSeq (sFor (iRange2 (aCons (dC (.int 1)) (aCons (dC (.int 13)) (aNil)))) (gNm 2) (sSeq (sAsg (dTup (aCons (dC (.int 1)) (aNil))) (gNm 3)) (sSeq (sFor (iSeq (dVar 0)) (gUnp 2 (gsCons (gNm 4) (gsCons (gNm 5) (gsNil)))) (sIf (dTest (dBin gEq (dVar 5) (dVar 2))) (sAsg (dCall sp_l_poly_mul (aCons (dVar 3) (aCons (dVar 4) (aNil)))) (gNm 3)) (sNext))) (sIf (dTest (dBin gGt (dCB gLen (aCons (dVar 3) (aNil))) (dC (.int 1)))) (sDrop (dBM isLst gAppend (dVar 1) (aCons (dTup (aCons (dCall sp_l_primitive (aCons (dVar 3) (aNil))) (aCons (dVar 2) (aNil)))) (aNil)))) (sNext))))) (sRet (dCB gTuple (aCons (dVar 1) (aNil)))))
theorem body_l_parted {W : Wd} {k : Nat} {sp_l_poly_mul : DSp} {sp_l_primitive : DSp} (f_l_poly_mul : GFn W k "_law_poly_mul" P_l_poly_mul sp_l_poly_mul) (f_l_primitive : GFn W k "_law_primitive" P_l_primitive sp_l_primitive) (nb : NB W) : Body W k N_l_parted "_law_parted" (defScope s_l_parted) (defBody s_l_parted) (r_l_parted sp_l_poly_mul sp_l_primitive) := fun f cdv A outer s H E hi =>
  have nd := sc_l_parted.nd
  pdss_cons (pds_set (i := 1) nd rfl (by first | exact .inl rfl | exact .inr rfl) (pd_lst (pda_nil)))
      (pdss_cons (pds_for PassesOwn.never rfl (pdi_range2 (by rfl) nb.range (pda_cons (pd_int) (pda_cons (pd_int) (pda_nil)))) (pdg_name (pg_name (i := 2) nd rfl (by first | exact .inl rfl | exact .inr rfl))) (pdss_cons (pds_set (i := 3) nd rfl (by first | exact .inl rfl | exact .inr rfl) (pd_tup (pda_cons (pd_int) (pda_nil))))
      (pdss_cons (pds_for PassesOwn.never rfl (pdi_seq (pd_var (pv 0))) (pdg_tup rfl (pdgs_cons (pdg_name (pg_name (i := 4) nd rfl (by first | exact .inl rfl | exact .inr rfl))) (pdgs_cons (pdg_name (pg_name (i := 5) nd rfl (by first | exact .inl rfl | exact .inr rfl))) (pdgs_nil)))) (pdss_one (pds_if (pdt_cmp (op_eqD hi.room.units) od_eq (pd_var (pv 5)) (pd_var (pv 2)) (nomark _)) (pdss_one (pds_set (i := 3) nd rfl (by first | exact .inl rfl | exact .inr rfl) (pd_call f_l_poly_mul hi (by rfl) (pda_cons (pd_var (pv 3)) (pda_cons (pd_var (pv 4)) (pda_nil)))))) (pdss_nil))))
      (pdss_one (pds_if (pdt_cmp op_gt od_gt (pd_callB call_lenA cd_len (by rfl) nb.len (by decide +kernel) (pda_cons (pd_var (pv 3)) (pda_nil))) (pd_int) (nomark _)) (pdss_one (pds_expr (pd_bm PySem.F.plainAttrs_list PySem.F.slot_list_append PySem.F.type_list_append mt_append md_append (pd_var (pv 1)) (pda_cons (pd_tup (pda_cons (pd_call f_l_primitive hi (by rfl) (pda_cons (pd_var (pv 3)) (pda_nil))) (pda_cons (pd_var (pv 2)) (pda_nil)))) (pda_nil))))) (pdss_nil))))))
      (pdss_one (pds_ret (pd_callTy call_tuple_of cd_tuple (by rfl) nb.tuple_ (by decide +kernel) (pda_cons (pd_var (pv 1)) (pda_nil))))))
/-! ### _law_two_lots -/
abbrev s_l_two_lots : Stmt := topS 44
abbrev N_l_two_lots : List Str := ["bag", "one", "other", "p", "power", "total", "row"]
abbrev P_l_two_lots : List Str := ["bag"]
theorem sc_l_two_lots : FnScope N_l_two_lots P_l_two_lots (defScope s_l_two_lots) := ⟨rfl, rfl, rfl, by decide +kernel, rfl, by decide +kernel, by decide +kernel⟩
theorem bd_l_two_lots {K : PySem.W.Frag} {f : Addr} {fd : FuncData} (F : FnP K "_law_two_lots" "_law_two_lots" s_l_two_lots f fd) : Binds K fd P_l_two_lots [] := FunD.bindsN F fun _ _ _ _ _ _ us hl => match us, hl with | [_], _ => rfl
def r_l_two_lots (sp_l_factors_of : DSp) (sp_l_draw : DSp) (sp_l_pick : DSp) : DS := sSeq (sPar 1 2 (aCons (dCall sp_l_factors_of (aCons (dVar 0) (aCons (dC (.int 12)) (aNil)))) (aCons (dCall sp_l_factors_of (aCons (dVar 0) (aCons (dC (.int 6)) (aNil)))) (aNil)))) (sSeq (sFor (iSeq (dVar 1)) (gUnp 2 (gsCons (gNm 3) (gsCons (gNm 4) (gsNil)))) (sIf (dAnd (dTest (dBin gEq (dCall sp_l_draw (aCons (dVar 0) (aCons (dC (.int 2)) (aNil)))) (dC (.int 0)))) (dTest (dBin gNotIn (dVar 3) (dLc (iSeq (dVar 2)) (gNm 6) (tYesD) (dBin gIx (dVar 6) (dC (.int 0))) [6])))) (sSeq (sAsg (dCB gSum (aCons (dLc (iSeq (dVar 2)) (gNm 6) (tYesD) (dBin gMulA (dBin gSubA (dCB gLen (aCons (dBin gIx (dVar 6) (dC (.int 0))) (aNil))) (dC (.int 1))) (dBin gIx (dVar 6) (dC (.int 1)))) [6]) (aNil))) (gNm 5)) (sSeq (sAsg (dCall sp_l_pick (aCons (dVar 0) (aCons (dLst (aCons (dC (.int 1)) (aCons (dC (.int 1)) (aCons (dC (.int 2)) (aNil))))) (aNil)))) (gNm 4)) (sIf (dTest (dBin gLe (dBin gAdd (dVar 5) (dBin gMulA (dBin gSubA (dCB gLen (aCons (dVar 3) (aNil))) (dC (.int 1))) (dVar 4))) (dC (.int 12)))) (sDrop (dBM isLst gAppend (dVar 2) (aCons (dTup (aCons (dVar 3) (aCons (dVar 4) (aNil)))) (aNil)))) (sNext)))) (sNext))) (sRet (dTup (aCons (dVar 1) (aCons (dVar 2) (aNil))))))
theorem body_l_two_lots {W : Wd} {k : Nat} {sp_l_factors_of : DSp} {sp_l_draw : DSp} {sp_l_pick : DSp} (f_l_factors_of : GFn W k "_law_factors_of" P_l_factors_of sp_l_factors_of) (f_l_draw : GFn W k "_law_draw" P_l_draw sp_l_draw) (f_l_pick : GFn W k "_law_pick" P_l_pick sp_l_pick) (nb : NB W) : Body W k N_l_two_lots "_law_two_lots" (defScope s_l_two_lots) (defBody s_l_two_lots) (r_l_two_lots sp_l_factors_of sp_l_draw sp_l_pick) := fun f cdv A outer s H E hi =>
  have nd := sc_l_two_lots.nd
  pdss_cons (pds_par (i := 1) (j := 2) rfl nd rfl rfl (by decide) rfl rfl (pda_cons (pd_call f_l_factors_of hi (by rfl) (pda_cons (pd_var (pv 0)) (pda_cons (pd_int) (pda_nil)))) (pda_cons (pd_call f_l_factors_of hi (by rfl) (pda_cons (pd_var (pv 0)) (pda_cons (pd_int) (pda_nil)))) (pda_nil))))
      (pdss_cons (pds_for PassesOwn.never rfl (pdi_seq (pd_var (pv 1))) (pdg_tup rfl (pdgs_cons (pdg_name (pg_name (i := 3) nd rfl (by first | exact .inl rfl | exact .inr rfl))) (pdgs_cons (pdg_name (pg_name (i := 4) nd rfl (by first | exact .inl rfl | exact .inr rfl))) (pdgs_nil)))) (pdss_one (pds_if ((pdw_and (pdt_cmp (op_eqD hi.room.units) od_eq (pd_call f_l_draw hi (by rfl) (pda_cons (pd_var (pv 0)) (pda_cons (pd_int) (pda_nil)))) (pd_int) (nomark _)) (pdw_and1 (pdt_cmp (op_notInD hi.room.units2) od_notIn (pd_var (pv 3)) (pd_lc rfl nd (pdi_seq (pd_var (pv 2))) (blkOk_by (own := [("row", 6)]) (by show blkC N_l_two_lots (defScope s_l_two_lots) _ _ = true; decide +kernel)) (fun _ _ _ _ _ => pdg_name (pg_name (i := 6) nd rfl (by first | exact .inl rfl | exact .inr rfl))) (fun _ _ _ _ _ => pdts_nil) (fun _ _ _ _ _ => pd_ix (pd_var (pv 6)) (pd_int)) (by decide)) (by rfl)))).pt) (pdss_cons (pds_set (i := 5) nd rfl (by first | exact .inl rfl | exact .inr rfl) (pd_callB (cr_sum rfl) cd_sum (by rfl) nb.sum (by decide +kernel) (pda_cons (pd_lc rfl nd (pdi_seq (pd_var (pv 2))) (blkOk_by (own := [("row", 6)]) (by show blkC N_l_two_lots (defScope s_l_two_lots) _ _ = true; decide +kernel)) (fun _ _ _ _ _ => pdg_name (pg_name (i := 6) nd rfl (by first | exact .inl rfl | exact .inr rfl))) (fun _ _ _ _ _ => pdts_nil) (fun _ _ _ _ _ => pd_op op_mulA od_mulA (pd_op op_subA od_subA (pd_callB call_lenA cd_len (by rfl) nb.len (by decide +kernel) (pda_cons (pd_ix (pd_var (pv 6)) (pd_int)) (pda_nil))) (pd_int)) (pd_ix (pd_var (pv 6)) (pd_int))) (by decide)) (pda_nil))))
      (pdss_cons (pds_set (i := 4) nd rfl (by first | exact .inl rfl | exact .inr rfl) (pd_call f_l_pick hi (by rfl) (pda_cons (pd_var (pv 0)) (pda_cons (pd_lst (pda_cons (pd_int) (pda_cons (pd_int) (pda_cons (pd_int) (pda_nil))))) (pda_nil)))))
      (pdss_one (pds_if (pdt_cmp op_le od_le (pd_op op_addA od_add (pd_var (pv 5)) (pd_op op_mulA od_mulA (pd_op op_subA od_subA (pd_callB call_lenA cd_len (by rfl) nb.len (by decide +kernel) (pda_cons (pd_var (pv 3)) (pda_nil))) (pd_int)) (pd_var (pv 4)))) (pd_int) (nomark _)) (pdss_one (pds_expr (pd_bm PySem.F.plainAttrs_list PySem.F.slot_list_append PySem.F.type_list_append mt_append md_append (pd_var (pv 2)) (pda_cons (pd_tup (pda_cons (pd_var (pv 3)) (pda_cons (pd_var (pv 4)) (pda_nil)))) (pda_nil))))) (pdss_nil))))) (pdss_nil))))
      (pdss_one (pds_ret (pd_tup (pda_cons (pd_var (pv 1)) (pda_cons (pd_var (pv 2)) (pda_nil)))))))
/-! ### _law_is_told -/
abbrev s_l_is_told : Stmt := topS 45
abbrev N_l_is_told : List Str := ["bag", "by_name", "one", "other", "p", "q", "due", "seen", "points", "factor", "power", "x"]
abbrev P_l_is_told : List Str := ["bag", "by_name"]
theorem sc_l_is_told : FnScope N_l_is_told P_l_is_told (defScope s_l_is_told) := ⟨rfl, rfl, rfl, by decide +kernel, rfl, by decide +kernel, by decide +kernel⟩
theorem bd_l_is_told {K : PySem.W.Frag} {f : Addr} {fd : FuncData} (F : FnP K "_law_is_told" "_law_is_told" s_l_is_told f fd) : Binds K fd P_l_is_told [] := FunD.bindsN F fun _ _ _ _ _ _ us hl => match us, hl with | [_, _], _ => rfl
def r_l_is_told (sp_l_two_lots : DSp) (sp_l_product : DSp) (sp_l_pick : DSp) (sp_l_is_small : DSp) (sp_l_shared : DSp) (sp_common : DSp) (sp_l_same : DSp) (sp_l_primitive : DSp) (sp_square_free : DSp) (sp_l_parted : DSp) (sp_l_fr : DSp) (sp_l_draw : DSp) (sp_value_at : DSp) (sp_l_poly_at : DSp) : DS := sSeq (sAsg (dCall sp_l_two_lots (aCons (dVar 0) (aNil))) (gUnp 2 (gsCons (gNm 2) (gsCons (gNm 3) (gsNil))))) (sSeq (sPar 4 5 (aCons (dCall sp_l_product (aCons (dVar 2) (aCons (dCall sp_l_pick (aCons (dVar 0) (aCons (dLst (aCons (dC (.int 1)) (aCons (dUn gNeg (dC (.int 1))) (aCons (dC (.int 6)) (aCons (dUn gNeg (dC (.int 35))) (aNil)))))) (aNil)))) (aNil)))) (aCons (dCall sp_l_product (aCons (dVar 3) (aCons (dCall sp_l_pick (aCons (dVar 0) (aCons (dLst (aCons (dC (.int 1)) (aCons (dUn gNeg (dC (.int 2))) (aCons (dC (.int 9)) (aNil))))) (aNil)))) (aNil)))) (aNil)))) (sSeq (sIf (dOr (dTest (dBin gLt (dCB gLen (aCons (dVar 4) (aNil))) (dC (.int 2)))) (dOr (dNot (dTru (dCall sp_l_is_small (aCons (dVar 4) (aNil))))) (dNot (dTru (dCall sp_l_is_small (aCons (dVar 5) (aNil))))))) (sRet (dC (.bl true))) (sNext)) (sSeq (sAsg (dCall sp_l_shared (aCons (dVar 2) (aCons (dVar 3) (aNil)))) (gNm 6)) (sSeq (sAsg (dIf (dTru (dVar 1)) (dCallK sp_common [1, 0] 2 (aCons (dVar 5) (aCons (dVar 4) (aNil)))) (dCall sp_common (aCons (dVar 4) (aCons (dVar 5) (aNil))))) (gNm 7)) (sSeq (sIf (dOr (dNot (dTru (dCall sp_l_same (aCons (dTup (aCons (dVar 7) (aCons (dCall sp_common (aCons (dVar 5) (aCons (dVar 4) (aNil)))) (aNil)))) (aCons (dTup (aCons (dVar 6) (aCons (dVar 6) (aNil)))) (aNil)))))) (dNot (dTru (dCall sp_l_same (aCons (dTup (aCons (dCall sp_common (aCons (dVar 4) (aCons (dTup (aNil)) (aNil)))) (aCons (dCall sp_common (aCons (dTup (aNil)) (aCons (dVar 5) (aNil)))) (aCons (dCall sp_common (aCons (dVar 4) (aCons (dTup (aCons (dC (.int 7)) (aNil))) (aNil)))) (aNil))))) (aCons (dTup (aCons (dCall sp_l_primitive (aCons (dVar 4) (aNil))) (aCons (dCall sp_l_primitive (aCons (dVar 5) (aNil))) (aCons (dTup (aCons (dC (.int 1)) (aNil))) (aNil))))) (aNil))))))) (sRet (dC (.bl false))) (sNext)) (sSeq (sAsg (dIf (dTru (dVar 1)) (dCallK sp_square_free [0] 1 (aCons (dVar 4) (aNil))) (dCall sp_square_free (aCons (dVar 4) (aNil)))) (gNm 7)) (sSeq (sIf (dNot (dTru (dCall sp_l_same (aCons (dVar 7) (aCons (dCall sp_l_parted (aCons (dVar 2) (aNil))) (aNil)))))) (sRet (dC (.bl false))) (sNext)) (sSeq (sAsg (dLst (aCons (dCall sp_l_fr (aCons (dBin gSubA (dCall sp_l_draw (aCons (dVar 0) (aCons (dC (.int 41)) (aNil)))) (dC (.int 20))) (aCons (dBin gAdd (dC (.int 1)) (dCall sp_l_draw (aCons (dVar 0) (aCons (dC (.int 9)) (aNil))))) (aNil)))) (aCons (dTup (aCons (dC (.int 0)) (aCons (dC (.int 1)) (aNil)))) (aCons (dCall sp_l_fr (aCons (dBin gAdd (dBin gPow (dC (.int 10)) (dC (.int 11))) (dCall sp_l_draw (aCons (dVar 0) (aCons (dC (.int 9)) (aNil))))) (aCons (dBin gAdd (dBin gPow (dC (.int 10)) (dC (.int 9))) (dC (.int 7))) (aNil)))) (aNil))))) (gNm 8)) (sSeq (sFor (iSeq (dVar 2)) (gUnp 2 (gsCons (gNm 9) (gsCons (gNm 10) (gsNil)))) (sIf (dTest (dBin gEq (dCB gLen (aCons (dVar 9) (aNil))) (dC (.int 2)))) (sDrop (dBM isLst gAppend (dVar 8) (aCons (dCall sp_l_fr (aCons (dBin gSubA (dC (.int 0)) (dBin gIx (dVar 9) (dC (.int 0)))) (aCons (dBin gIx (dVar 9) (dC (.int 1))) (aNil)))) (aNil)))) (sNext))) (sSeq (sFor (iSeq (dVar 8)) (gNm 11) (sSeq (sAsg (dIf (dTru (dVar 1)) (dCallK sp_value_at [1, 0] 2 (aCons (dVar 11) (aCons (dVar 4) (aNil)))) (dCall sp_value_at (aCons (dVar 4) (aCons (dVar 11) (aNil))))) (gNm 7)) (sIf (dNot (dTru (dCall sp_l_same (aCons (dVar 7) (aCons (dCall sp_l_poly_at (aCons (dVar 4) (aCons (dVar 11) (aNil)))) (aNil)))))) (sRet (dC (.bl false))) (sNext)))) (sRet (dCall sp_l_same (aCons (dTup (aCons (dCall sp_value_at (aCons (dTup (aNil)) (aCons (dBin gIx (dVar 8) (dC (.int 0))) (aNil)))) (aCons (dCall sp_value_at (aCons (dTup (aCons (dC (.int 5)) (aNil))) (aCons (dBin gIx (dVar 8) (dC (.int 0))) (aNil)))) (aNil)))) (aCons (dTup (aCons (dTup (aCons (dC (.int 0)) (aCons (dC (.int 1)) (aNil)))) (aCons (dTup (aCons (dC (.int 5)) (aCons (dC (.int 1)) (aNil)))) (aNil)))) (aNil)))))))))))))))
theorem body_l_is_told {W : Wd} {k : Nat} {sp_l_two_lots : DSp} {sp_l_product : DSp} {sp_l_pick : DSp} {sp_l_is_small : DSp} {sp_l_shared : DSp} {sp_common : DSp} {sp_l_same : DSp} {sp_l_primitive : DSp} {sp_square_free : DSp} {sp_l_parted : DSp} {sp_l_fr : DSp} {sp_l_draw : DSp} {sp_value_at : DSp} {sp_l_poly_at : DSp} (f_l_two_lots : GFn W k "_law_two_lots" P_l_two_lots sp_l_two_lots) (f_l_product : GFn W k "_law_product" P_l_product sp_l_product) (f_l_pick : GFn W k "_law_pick" P_l_pick sp_l_pick) (f_l_is_small : GFn W k "_law_is_small" P_l_is_small sp_l_is_small) (f_l_shared : GFn W k "_law_shared" P_l_shared sp_l_shared) (f_common : GFn W k "common" P_common sp_common) (k_common_10 : GFnK W k "common" P_common sp_common ["q", "p"] [1, 0]) (f_l_same : GFn W k "_law_same" P_l_same sp_l_same) (f_l_primitive : GFn W k "_law_primitive" P_l_primitive sp_l_primitive) (f_square_free : GFn W k "square_free" P_square_free sp_square_free) (k_square_free_0 : GFnK W k "square_free" P_square_free sp_square_free ["p"] [0]) (f_l_parted : GFn W k "_law_parted" P_l_parted sp_l_parted) (f_l_fr : GFn W k "_law_fr" P_l_fr sp_l_fr) (f_l_draw : GFn W k "_law_draw" P_l_draw sp_l_draw) (f_value_at : GFn W k "value_at" P_value_at sp_value_at) (k_value_at_10 : GFnK W k "value_at" P_value_at sp_value_at ["q", "p"] [1, 0]) (f_l_poly_at : GFn W k "_law_poly_at" P_l_poly_at sp_l_poly_at) (nb : NB W) : Body W k N_l_is_told "_law_is_told" (defScope s_l_is_told) (defBody s_l_is_told) (r_l_is_told sp_l_two_lots sp_l_product sp_l_pick sp_l_is_small sp_l_shared sp_common sp_l_same sp_l_primitive sp_square_free sp_l_parted sp_l_fr sp_l_draw sp_value_at sp_l_poly_at) := fun f cdv A outer s H E hi =>
  have nd := sc_l_is_told.nd
  pdss_cons (pds_asg (pd_call f_l_two_lots hi (by rfl) (pda_cons (pd_var (pv 0)) (pda_nil))) (pdg_tup rfl (pdgs_cons (pdg_name (pg_name (i := 2) nd rfl (by first | exact .inl rfl | exact .inr rfl))) (pdgs_cons (pdg_name (pg_name (i := 3) nd rfl (by first | exact .inl rfl | exact .inr rfl))) (pdgs_nil)))))
      (pdss_cons (pds_par (i := 4) (j := 5) rfl nd rfl rfl (by decide) rfl rfl (pda_cons (pd_call f_l_product hi (by rfl) (pda_cons (pd_var (pv 2)) (pda_cons (pd_call f_l_pick hi (by rfl) (pda_cons (pd_var (pv 0)) (pda_cons (pd_lst (pda_cons (pd_int) (pda_cons (pd_un un_neg ud_neg (pd_int)) (pda_cons (pd_int) (pda_cons (pd_un un_neg ud_neg (pd_int)) (pda_nil)))))) (pda_nil)))) (pda_nil)))) (pda_cons (pd_call f_l_product hi (by rfl) (pda_cons (pd_var (pv 3)) (pda_cons (pd_call f_l_pick hi (by rfl) (pda_cons (pd_var (pv 0)) (pda_cons (pd_lst (pda_cons (pd_int) (pda_cons (pd_un un_neg ud_neg (pd_int)) (pda_cons (pd_int) (pda_nil))))) (pda_nil)))) (pda_nil)))) (pda_nil))))
      (pdss_cons (pds_if ((pdw_or (pdt_cmp op_lt od_lt (pd_callB call_lenA cd_len (by rfl) nb.len (by decide +kernel) (pda_cons (pd_var (pv 4)) (pda_nil))) (pd_int) (nomark _)) (pdw_or (pdt_not (pdt_tru (pd_call f_l_is_small hi (by rfl) (pda_cons (pd_var (pv 4)) (pda_nil))))) (pdw_or1 (pdt_not (pdt_tru (pd_call f_l_is_small hi (by rfl) (pda_cons (pd_var (pv 5)) (pda_nil)))))))).pt) (pdss_one (pds_ret (pd_bl))) (pdss_nil))
      (pdss_cons (pds_set (i := 6) nd rfl (by first | exact .inl rfl | exact .inr rfl) (pd_call f_l_shared hi (by rfl) (pda_cons (pd_var (pv 2)) (pda_cons (pd_var (pv 3)) (pda_nil)))))
      (pdss_cons (pds_set (i := 7) nd rfl (by first | exact .inl rfl | exact .inr rfl) (pd_ifExp (pdt_tru (pd_var (pv 1))) (pd_callK k_common_10 hi (by rfl) (pdk_cons (pd_var (pv 5)) (pdk_cons (pd_var (pv 4)) (pdk_nil)))) (pd_call f_common hi (by rfl) (pda_cons (pd_var (pv 4)) (pda_cons (pd_var (pv 5)) (pda_nil))))))
      (pdss_cons (pds_if ((pdw_or (pdt_not (pdt_tru (pd_call f_l_same hi (by rfl) (pda_cons (pd_tup (pda_cons (pd_var (pv 7)) (pda_cons (pd_call f_common hi (by rfl) (pda_cons (pd_var (pv 5)) (pda_cons (pd_var (pv 4)) (pda_nil)))) (pda_nil)))) (pda_cons (pd_tup (pda_cons (pd_var (pv 6)) (pda_cons (pd_var (pv 6)) (pda_nil)))) (pda_nil)))))) (pdw_or1 (pdt_not (pdt_tru (pd_call f_l_same hi (by rfl) (pda_cons (pd_tup (pda_cons (pd_call f_common hi (by rfl) (pda_cons (pd_var (pv 4)) (pda_cons (pd_tup (pda_nil)) (pda_nil)))) (pda_cons (pd_call f_common hi (by rfl) (pda_cons (pd_tup (pda_nil)) (pda_cons (pd_var (pv 5)) (pda_nil)))) (pda_cons (pd_call f_common hi (by rfl) (pda_cons (pd_var (pv 4)) (pda_cons (pd_tup (pda_cons (pd_int) (pda_nil))) (pda_nil)))) (pda_nil))))) (pda_cons (pd_tup (pda_cons (pd_call f_l_primitive hi (by rfl) (pda_cons (pd_var (pv 4)) (pda_nil))) (pda_cons (pd_call f_l_primitive hi (by rfl) (pda_cons (pd_var (pv 5)) (pda_nil))) (pda_cons (pd_tup (pda_cons (pd_int) (pda_nil))) (pda_nil))))) (pda_nil)))))))).pt) (pdss_one (pds_ret (pd_bl))) (pdss_nil))
      (pdss_cons (pds_set (i := 7) nd rfl (by first | exact .inl rfl | exact .inr rfl) (pd_ifExp (pdt_tru (pd_var (pv 1))) (pd_callK k_square_free_0 hi (by rfl) (pdk_cons (pd_var (pv 4)) (pdk_nil))) (pd_call f_square_free hi (by rfl) (pda_cons (pd_var (pv 4)) (pda_nil)))))
      (pdss_cons (pds_if (pdt_not (pdt_tru (pd_call f_l_same hi (by rfl) (pda_cons (pd_var (pv 7)) (pda_cons (pd_call f_l_parted hi (by rfl) (pda_cons (pd_var (pv 2)) (pda_nil))) (pda_nil)))))) (pdss_one (pds_ret (pd_bl))) (pdss_nil))
      (pdss_cons (pds_set (i := 8) nd rfl (by first | exact .inl rfl | exact .inr rfl) (pd_lst (pda_cons (pd_call f_l_fr hi (by rfl) (pda_cons (pd_op op_subA od_subA (pd_call f_l_draw hi (by rfl) (pda_cons (pd_var (pv 0)) (pda_cons (pd_int) (pda_nil)))) (pd_int)) (pda_cons (pd_op op_addA od_add (pd_int) (pd_call f_l_draw hi (by rfl) (pda_cons (pd_var (pv 0)) (pda_cons (pd_int) (pda_nil))))) (pda_nil)))) (pda_cons (pd_tup (pda_cons (pd_int) (pda_cons (pd_int) (pda_nil)))) (pda_cons (pd_call f_l_fr hi (by rfl) (pda_cons (pd_op op_addA od_add (pd_op op_pow od_pow (pd_int) (pd_int)) (pd_call f_l_draw hi (by rfl) (pda_cons (pd_var (pv 0)) (pda_cons (pd_int) (pda_nil))))) (pda_cons (pd_op op_addA od_add (pd_op op_pow od_pow (pd_int) (pd_int)) (pd_int)) (pda_nil)))) (pda_nil))))))
      (pdss_cons (pds_for PassesOwn.never rfl (pdi_seq (pd_var (pv 2))) (pdg_tup rfl (pdgs_cons (pdg_name (pg_name (i := 9) nd rfl (by first | exact .inl rfl | exact .inr rfl))) (pdgs_cons (pdg_name (pg_name (i := 10) nd rfl (by first | exact .inl rfl | exact .inr rfl))) (pdgs_nil)))) (pdss_one (pds_if (pdt_cmp (op_eqD hi.room.units) od_eq (pd_callB call_lenA cd_len (by rfl) nb.len (by decide +kernel) (pda_cons (pd_var (pv 9)) (pda_nil))) (pd_int) (nomark _)) (pdss_one (pds_expr (pd_bm PySem.F.plainAttrs_list PySem.F.slot_list_append PySem.F.type_list_append mt_append md_append (pd_var (pv 8)) (pda_cons (pd_call f_l_fr hi (by rfl) (pda_cons (pd_op op_subA od_subA (pd_int) (pd_ix (pd_var (pv 9)) (pd_int))) (pda_cons (pd_ix (pd_var (pv 9)) (pd_int)) (pda_nil)))) (pda_nil))))) (pdss_nil))))
      (pdss_cons (pds_for PassesOwn.never rfl (pdi_seq (pd_var (pv 8))) (pdg_name (pg_name (i := 11) nd rfl (by first | exact .inl rfl | exact .inr rfl))) (pdss_cons (pds_set (i := 7) nd rfl (by first | exact .inl rfl | exact .inr rfl) (pd_ifExp (pdt_tru (pd_var (pv 1))) (pd_callK k_value_at_10 hi (by rfl) (pdk_cons (pd_var (pv 11)) (pdk_cons (pd_var (pv 4)) (pdk_nil)))) (pd_call f_value_at hi (by rfl) (pda_cons (pd_var (pv 4)) (pda_cons (pd_var (pv 11)) (pda_nil))))))
      (pdss_one (pds_if (pdt_not (pdt_tru (pd_call f_l_same hi (by rfl) (pda_cons (pd_var (pv 7)) (pda_cons (pd_call f_l_poly_at hi (by rfl) (pda_cons (pd_var (pv 4)) (pda_cons (pd_var (pv 11)) (pda_nil)))) (pda_nil)))))) (pdss_one (pds_ret (pd_bl))) (pdss_nil)))))
      (pdss_one (pds_ret (pd_call f_l_same hi (by rfl) (pda_cons (pd_tup (pda_cons (pd_call f_value_at hi (by rfl) (pda_cons (pd_tup (pda_nil)) (pda_cons (pd_ix (pd_var (pv 8)) (pd_int)) (pda_nil)))) (pda_cons (pd_call f_value_at hi (by rfl) (pda_cons (pd_tup (pda_cons (pd_int) (pda_nil))) (pda_cons (pd_ix (pd_var (pv 8)) (pd_int)) (pda_nil)))) (pda_nil)))) (pda_cons (pd_tup (pda_cons (pd_tup (pda_cons (pd_int) (pda_cons (pd_int) (pda_nil)))) (pda_cons (pd_tup (pda_cons (pd_int) (pda_cons (pd_int) (pda_nil)))) (pda_nil)))) (pda_nil))))))))))))))))
/-! ### law -/
abbrev s_law : Stmt := topS 46
abbrev N_law : List Str := ["script", "bag", "turn"]
abbrev P_law : List Str := ["script"]
theorem sc_law : FnScope N_law P_law (defScope s_law) := ⟨rfl, rfl, rfl, by decide +kernel, rfl, by decide +kernel, by decide +kernel⟩
theorem bd_law {K : PySem.W.Frag} {f : Addr} {fd : FuncData} (F : FnP K "law" "law" s_law f fd) : Binds K fd P_law [] := FunD.bindsN F fun _ _ _ _ _ _ us hl => match us, hl with | [_], _ => rfl
def r_law (sp_l_bag : DSp) (sp_l_is_told : DSp) : DS := sSeq (sAsg (dCall sp_l_bag (aCons (dVar 0) (aNil))) (gNm 1)) (sSeq (sFor (iRange1 (aCons (dC (.int 5)) (aNil))) (gNm 2) (sIf (dNot (dTru (dCall sp_l_is_told (aCons (dVar 1) (aCons (dBin gEq (dVar 2) (dC (.int 2))) (aNil)))))) (sRet (dC (.bl false))) (sNext))) (sRet (dC (.bl true))))
theorem body_law {W : Wd} {k : Nat} {sp_l_bag : DSp} {sp_l_is_told : DSp} (f_l_bag : GFn W k "_law_bag" P_l_bag sp_l_bag) (f_l_is_told : GFn W k "_law_is_told" P_l_is_told sp_l_is_told) (nb : NB W) : Body W k N_law "law" (defScope s_law) (defBody s_law) (r_law sp_l_bag sp_l_is_told) := fun f cdv A outer s H E hi =>
  have nd := sc_law.nd
  pdss_cons (pds_set (i := 1) nd rfl (by first | exact .inl rfl | exact .inr rfl) (pd_call f_l_bag hi (by rfl) (pda_cons (pd_var (pv 0)) (pda_nil))))
      (pdss_cons (pds_for PassesOwn.never rfl (pdi_range1 (by rfl) nb.range (pda_cons (pd_int) (pda_nil))) (pdg_name (pg_name (i := 2) nd rfl (by first | exact .inl rfl | exact .inr rfl))) (pdss_one (pds_if (pdt_not (pdt_tru (pd_call f_l_is_told hi (by rfl) (pda_cons (pd_var (pv 1)) (pda_cons (pd_cmp (op_eqD hi.room.units) od_eq (pd_var (pv 2)) (pd_int) (nomark _)) (pda_nil)))))) (pdss_one (pds_ret (pd_bl))) (pdss_nil))))
      (pdss_one (pds_ret (pd_bl))))
end DD
end
section
namespace DD
open PySem PySem.Spec PyProof.Rows L2 PA
abbrev T (p : List Int) : D := .tup (p.map D.int)
def frD (a b : Int) : D := .tup [.int (a.fdiv (if b < 0 then -((Nat.gcd a.natAbs b.natAbs : Nat) : Int) else (Nat.gcd a.natAbs b.natAbs : Nat))), .int (b.fdiv (if b < 0 then -((Nat.gcd a.natAbs b.natAbs : Nat) : Int) else (Nat.gcd a.natAbs b.natAbs : Nat)))]
def spFrac : DSp := fun ds M R => ∃ a b : Int, ds = [.int a, .int b] ∧ b ≠ 0 ∧ b.natAbs < 2 ^ 8000 ∧ R (frD a b) M
theorem k_frac (ds : List D) (M : Mem) (R : DK) (h : spFrac ds M R) : r_frac (endsF R) (startD N_frac ds) M := by
  obtain ⟨a, b, rfl, hb, hs, h⟩ := h
  have g0 : 0 < Nat.gcd a.natAbs b.natAbs := Nat.gcd_pos_of_pos_right _ (by omega)
  have gl : Nat.gcd a.natAbs b.natAbs ≤ b.natAbs := Nat.le_of_dvd (by omega) (Nat.gcd_dvd_right _ _)
  unfold r_frac
  unfold frD at h
  simp [size_line]
  generalize Nat.gcd a.natAbs b.natAbs = g at *
  have d1 : ∀ i, DivOk i (g : Int) := fun i => div_ok 8000 (by omega) (by simpa using Nat.lt_of_le_of_lt gl hs) (by omega) (by omega)
  have d2 : ∀ i, DivOk i (-(g : Int)) := fun i => div_ok 8000 (by omega) (by simpa using Nat.lt_of_le_of_lt gl hs) (by omega) (by omega)
  by_cases hc : b < 0
  · simp [hc, size_line, d2] at h ⊢
    exact ⟨M, Sub.refl M, h⟩
  · simp [hc, size_line, d1] at h ⊢
    exact ⟨M, Sub.refl M, h⟩
def spSign : DSp := fun ds M R => ∃ n : Int, ds = [.int n] ∧ R (.int n.sign) M
theorem k_sign_of (ds : List D) (M : Mem) (R : DK) (h : spSign ds M R) : r_sign_of (endsF R) (startD N_sign_of ds) M := by
  obtain ⟨n, rfl, h⟩ := h
  unfold r_sign_of
  simp [size_line]
  have : b2i (decide (0 < n)) - b2i (decide (n < 0)) = n.sign := by
    rcases Int.lt_trichotomy n 0 with z | z | z
    · rw [Int.sign_eq_neg_one_of_neg z]; simp [b2i, z]; omega
    · subst z; rfl
    · rw [Int.sign_eq_one_of_pos z]; simp [b2i, z]; omega
  rw [this]
  exact ⟨M, Sub.refl M, h⟩
def spCdv : DSp := fun ds M R => ∃ ns, ds = [T ns] ∧ ns.length ≤ 1000 ∧ R (.int (cont ns)) M
theorem cont_take (ns : List Int) (i : Nat) (x : Int) (h : ns[i]? = some x) : cont (ns.take (i + 1)) = Nat.gcd (cont (ns.take i)) x.natAbs := by
  rw [List.take_add_one, h]
  simp [cont, contFrom, List.foldl_append]
theorem k_common_divisor (ds : List D) (M : Mem) (R : DK) (h : spCdv ds M R) : r_common_divisor (endsF R) (startD N_common_divisor ds) M := by
  obtain ⟨ns, rfl, hl, h⟩ := h
  unfold r_common_divisor
  simp [size_line]
  refine for_in (fun i δ M' => M' = M ∧ δ[0]? = some (some (T ns)) ∧ δ[1]? = some (some (.int (cont (ns.take i)))) ∧ δ.length = 3) ?_ ?_ ?_ ?_
  · simp [cont, contFrom]
  · simp
  · rintro i x δ M' hx ⟨rfl, h0, h1, h2⟩
    obtain ⟨a, b, c, rfl⟩ : ∃ a b c, δ = [a, b, c] := by
      match δ, h2 with
      | [a, b, c], _ => exact ⟨a, b, c, rfl⟩
    simp at hx h0 h1
    obtain ⟨y, hy, rfl⟩ := hx
    subst h0 h1
    simp
    have := cont_take ns i y hy
    rw [← this]
  · rintro δ M' ⟨rfl, h0, h1, h2⟩
    obtain ⟨a, b, c, rfl⟩ : ∃ a b c, δ = [a, b, c] := by
      match δ, h2 with
      | [a, b, c], _ => exact ⟨a, b, c, rfl⟩
    simp at h0 h1
    subst h0 h1
    simp
    exact ⟨M', Sub.refl M', h⟩

theorem slots {n : Nat} {δ : DSt} (h : δ.length = n) : δ.length = n := h
def spTrimmed : DSp := fun ds M R => ∃ a ns M0, ds = [.ref a] ∧ M a = some (.lst (ns.map D.int)) ∧ ns.length ≤ 10000 ∧ Sub M0 M ∧ R (T (trim ns)) M0
theorem k_trimmed (ds : List D) (M : Mem) (R : DK) (h : spTrimmed ds M R) : r_trimmed (endsF R) (startD N_trimmed ds) M := by
  obtain ⟨a, ns, M0, rfl, ha, hl, hM, h⟩ := h
  unfold r_trimmed
  simp [size_line, ha]
  refine ⟨fun n δ M' => M' = M ∧ δ = [some (.ref a), some (.int n)] ∧ n ≤ ns.length ∧ ∀ j, n ≤ j → ns.getD j 0 = 0, ⟨ns.length, rfl, rfl, Nat.le_refl _, fun j hj => by simp [List.getD_eq_getElem?_getD, List.getElem?_eq_none hj]⟩, ?_⟩
  rintro n δ M' ⟨rfl, rfl, h1, h2⟩
  have fin : (n = 0 ∨ ns.getD (n - 1) 0 ≠ 0) → ∀ p, M' p = none → ∃ M0, Sub M0 (updM M' p (.lst (cutD (ns.map D.int) none (some (n : Int))))) ∧ R (.tup (cutD (ns.map D.int) none (some (n : Int)))) M0 := fun hz p hp => by
    refine ⟨M0, hM.put (hM.un hp), ?_⟩
    rw [cut_to (by omega) (by simp; omega)]
    have e := trim_take h1 h2 hz
    simp only [Int.toNat_natCast, ← List.map_take, e]
    exact h
  by_cases hn : n = 0
  · subst hn
    simp [ha]
    intro p hp
    obtain ⟨M1, q, r⟩ := fin (.inl rfl) p hp
    exact ⟨_, Sub.refl _, M1, q, r⟩
  · have e : ns[n - 1]? = some (ns.getD (n - 1) 0) := by
      rw [List.getD_eq_getElem?_getD, List.getElem?_eq_getElem (by omega)]; rfl
    have at1 : atI (ns.map D.int) ((n : Int) - 1) = some (.int (ns.getD (n - 1) 0)) := atI_nat (by omega) (by
      rw [show ((n : Int) - 1).toNat = n - 1 by omega, List.getElem?_map, e]; rfl)
    have hn' : 0 < n := by omega
    simp [ha, at1, hn']
    by_cases hz : ns.getD (n - 1) 0 = 0
    · simp only [List.getD_eq_getElem?_getD] at hz
      simp [hz]
      refine ⟨n - 1, by omega, by omega, by omega, fun j hj => ?_⟩
      by_cases q : j = n - 1
      · subst q; simpa using hz
      · have := h2 j (by omega); simpa using this
    · have hz' := hz
      simp only [List.getD_eq_getElem?_getD] at hz
      simp [hz]
      intro p hp
      obtain ⟨M1, q, r⟩ := fin (.inr hz') p hp
      exact ⟨_, Sub.refl _, M1, q, r⟩
end DD
end
section
namespace DD
open PySem PySem.Spec PyProof.Rows L2 PA
theorem enum_at {ns : List Int} {i : Nat} {x : D} (h : (enumD (ns.map D.int))[i]? = some x) : ∃ c, ns[i]? = some c ∧ x = .tup [.int (i : Int), .int c] := by
  have hi : i < ns.length := by
    have := (List.getElem?_eq_some_iff.mp h).1
    rw [enumD_length] at this; simpa using this
  have h1 : (ns.map D.int)[i]? = some (.int ns[i]) := by rw [List.getElem?_map, List.getElem?_eq_getElem hi]; rfl
  rw [enumD_get h1] at h
  exact ⟨ns[i], List.getElem?_eq_getElem hi, (Option.some.inj h).symm⟩
theorem addL_nil (l : List Int) : addL [] l = l := by unfold addL; rfl
theorem addL_comm (p q : List Int) : addL p q = addL q p := ev_inj_len (by rw [addL_len, addL_len]; omega) fun x _ => by rw [ev_addL, ev_addL]; omega
theorem addL_set : ∀ (s l : List Int) (i : Nat) (c : Int), s.length ≤ l.length → s[i]? = some c → (addL (s.take i) l)[i]? = some (l.getD i 0) ∧ (addL (s.take i) l).set i (l.getD i 0 + c) = addL (s.take (i + 1)) l
  | [], l, i, c, _, h => by simp at h
  | a :: s, [], i, c, hl, h => by simp at hl
  | a :: s, b :: l, 0, c, hl, h => by
    simp at h; subst h
    simp [addL, addL_nil]; omega
  | a :: s, b :: l, i + 1, c, hl, h => by
    have ih := addL_set s l i c (by simpa using hl) (by simpa using h)
    simp only [List.take_succ_cons, addL, List.getElem?_cons_succ, List.getD_cons_succ, List.set_cons_succ]
    exact ⟨ih.1, by rw [ih.2]⟩
def spPlus : DSp := fun ds M R => ∃ p q, ds = [T p, T q] ∧ p.length ≤ 1000 ∧ q.length ≤ 1000 ∧ R (T (trim (addL p q))) M
theorem plus_loop {p q lo sh : List Int} {M : Mem} {R : DK} (hl : sh.length ≤ lo.length) (h2 : lo.length ≤ 1000) (h : R (T (trim (addL sh lo))) M) (a : Addr) (ha : M a = none) :
    ForIn (gUnp 2 (gsCons (gNm 5) (gsCons (gNm 6) (gsNil)))) (sAugS (dVar 4) (dVar 5) (dVar 6) gAddI) { endsF R with nx := (sRet (dCall spTrimmed (aCons (dVar 4) (aNil)))) (endsF R) }
      [some (T p), some (T q), some (T lo), some (T sh), some (.ref a), none, none] (enumD (sh.map D.int)) (fun _ => True) (updM M a (.lst (lo.map D.int))) := by
  refine for_in (fun i δ M' => M' = updM M a (.lst ((addL (sh.take i) lo).map D.int)) ∧ ∃ x y, δ = [some (T p), some (T q), some (T lo), some (T sh), some (.ref a), x, y]) ?_ ?_ ?_ ?_
  · exact ⟨by rw [List.take_zero, addL_nil], _, _, rfl⟩
  · intros; trivial
  · rintro i x δ M' hx ⟨rfl, u, v, rfl⟩
    obtain ⟨c, hc, rfl⟩ := enum_at hx
    obtain ⟨e1, e2⟩ := addL_set sh lo i c hl hc
    have hi : i < (addL (sh.take i) lo).length := (List.getElem?_eq_some_iff.mp e1).1
    have at1 : atI ((addL (sh.take i) lo).map D.int) (i : Int) = some (.int (lo.getD i 0)) := atI_nat (by omega) (by rw [Int.toNat_natCast, List.getElem?_map, e1]; rfl)
    have ix1 : ixN (addL (sh.take i) lo).length (i : Int) = some i := ixN_nat (by omega) (by omega)
    simp only [List.getD_eq_getElem?_getD] at at1 e2
    simp [at1, ix1]
    rw [updM_upd, ← e2, List.map_set]
  · rintro δ M' ⟨rfl, u, v, rfl⟩
    rw [enumD_length, List.length_map, List.take_length]
    simp
    exact ⟨a, addL sh lo, M, rfl, by simp, by rw [addL_len]; omega, Sub.new ha, M, Sub.refl M, h⟩
theorem k_poly_plus (ds : List D) (M : Mem) (R : DK) (h : spPlus ds M R) : r_poly_plus spTrimmed (endsF R) (startD N_poly_plus ds) M := by
  obtain ⟨p, q, rfl, hp, hq, h⟩ := h
  unfold r_poly_plus
  simp [size_line]
  by_cases hc : q.length ≤ p.length
  · simp [hc, size_line]
    intro a ha
    exact plus_loop hc hp (by rw [addL_comm]; exact h) a ha
  · simp [hc, size_line]
    intro a ha
    exact plus_loop (by omega) hq h a ha

def spScaled : DSp := fun ds M R => ∃ p n, ds = [T p, .int n] ∧ p.length ≤ 1000 ∧ (∀ c ∈ p, MulOk c n) ∧ R (T (if n = 0 then [] else p.map fun c => c * n)) M
theorem k_poly_scaled (ds : List D) (M : Mem) (R : DK) (h : spScaled ds M R) : r_poly_scaled (endsF R) (startD N_poly_scaled ds) M := by
  obtain ⟨p, n, rfl, hp, hm, h⟩ := h
  unfold r_poly_scaled
  by_cases hn : n = 0
  · subst hn
    simp [size_line] at h ⊢
    exact ⟨M, Sub.refl M, h⟩
  · simp [size_line, hn] at h ⊢
    refine lc_map (fun d => match d with | .int c => .int (c * n) | x => x) (by simp [size_line]; omega) ?_ ?_ ?_
    · intros; trivial
    · intro x q acc RY hx hq hr
      obtain ⟨c, hc, rfl⟩ := List.mem_map.mp hx
      simp [wipeD]
      exact ⟨hm c hc, hr⟩
    · intro q hq
      simp
      refine ⟨M, Sub.new hq, M, Sub.refl M, ?_⟩
      have : List.map ((fun d => match d with | D.int c => D.int (c * n) | x => x) ∘ D.int) p = List.map (D.int ∘ fun c => c * n) p := rfl
      rw [this]
      simpa [T] using h
theorem neg1_ok {c : Int} (h : c.natAbs < 2 ^ 90000) : MulOk c (-1) := mul_ok 90000 2 h (by decide) (by omega) (by omega) (by omega)
def spMinus : DSp := fun ds M R => ∃ p q, ds = [T p, T q] ∧ p.length ≤ 1000 ∧ q.length ≤ 1000 ∧ Bits q 90000 ∧ R (T (trim (addL p (negL q)))) M
theorem k_poly_minus (ds : List D) (M : Mem) (R : DK) (h : spMinus ds M R) : r_poly_minus spPlus spScaled (endsF R) (startD N_poly_minus ds) M := by
  obtain ⟨p, q, rfl, hp, hq, hb, h⟩ := h
  unfold r_poly_minus
  simp [size_line]
  refine ⟨q, -1, rfl, hq, fun c hc => neg1_ok (hb c hc), p, _, rfl, hp, by simpa using hq, M, Sub.refl M, h⟩
def spRaised : DSp := fun ds M R => ∃ p n, ds = [T p, .int n] ∧ p.length ≤ 1000 ∧ 0 ≤ n ∧ n ≤ 1000 ∧ R (T (if p = [] then [] else List.replicate n.toNat 0 ++ p)) M
theorem k_poly_raised (ds : List D) (M : Mem) (R : DK) (h : spRaised ds M R) : r_poly_raised (endsF R) (startD N_poly_raised ds) M := by
  obtain ⟨p, n, rfl, hp, h0, hn, h⟩ := h
  unfold r_poly_raised
  cases p with
  | nil =>
    simp [size_line, truD] at h ⊢
    exact ⟨M, Sub.refl M, h⟩
  | cons a p =>
    simp [size_line, truD] at h hp ⊢
    refine ⟨by omega, by omega, by omega, M, Sub.refl M, by simpa [T] using h⟩

def spSlope : DSp := fun ds M R => ∃ p, ds = [T p] ∧ p.length ≤ 1000 ∧ Bits p 90000 ∧ R (T (dr p)) M
theorem drFrom_at : ∀ (p : List Int) (i : Int) (k : Nat), (drFrom i p)[k]? = (p[k]?).map fun c => (i + k) * c
  | [], i, k => by simp [drFrom]
  | a :: p, i, 0 => by simp [drFrom]
  | a :: p, i, k + 1 => by
    show (drFrom (i + 1) p)[k]? = (p[k]?).map fun c => (i + ((k + 1 : Nat) : Int)) * c
    rw [drFrom_at p (i + 1) k]
    congr 1
    funext c
    congr 1
    omega
theorem cut_1 {α : Type} (xs : List α) : cutD xs (some 1) none = xs.drop 1 := by
  unfold cutD
  rw [HT.sIx_none, show (some (1 : Int)) = some ((1 : Nat) : Int) from rfl, HT.sIx_nat]
  cases xs with
  | nil => rfl
  | cons a xs =>
    have : min 1 (a :: xs).length = 1 := by simp
    rw [this]; simp
theorem enum_dr (p : List Int) : (enumD (p.map D.int)).map (fun d => match d with | D.tup [D.int i, D.int c] => D.int (i * c) | x => x) = (drFrom 0 p).map D.int := by
  apply List.ext_getElem?
  intro k
  rw [List.getElem?_map, List.getElem?_map, drFrom_at]
  by_cases hk : k < p.length
  · have h1 : (p.map D.int)[k]? = some (.int p[k]) := by rw [List.getElem?_map, List.getElem?_eq_getElem hk]; rfl
    rw [enumD_get h1, List.getElem?_eq_getElem hk]
    simp
  · rw [List.getElem?_eq_none (by rw [enumD_length, List.length_map]; omega), List.getElem?_eq_none (by omega)]; rfl
theorem k_slope (ds : List D) (M : Mem) (R : DK) (h : spSlope ds M R) : r_slope (endsF R) (startD N_slope ds) M := by
  obtain ⟨p, rfl, hp, hb, h⟩ := h
  unfold r_slope
  simp [size_line]
  refine lc_map (fun d => match d with | .tup [.int i, .int c] => .int (i * c) | x => x) (by rw [enumD_length, List.length_map, size_line]; omega) ?_ ?_ ?_
  · intros; trivial
  · intro x q acc RY hx hq hr
    obtain ⟨i, hi⟩ := List.mem_iff_getElem?.mp hx
    obtain ⟨c, hc, rfl⟩ := enum_at hi
    have h1 : i < 1000 := by have := (List.getElem?_eq_some_iff.mp hc).1; omega
    simp [wipeD]
    refine ⟨mul_ok 20 90000 (by simp; omega) (hb c (List.mem_of_getElem? hc)) (by omega) (by omega) (by omega), hr⟩
  · intro q hq
    simp
    intro q2 hq2
    have q3 := (updM_none (M := M) (q := q) hq2).2
    refine ⟨M, (Sub.new hq).put q3, M, Sub.refl M, ?_⟩
    rw [enum_dr, cut_1, ← List.map_drop]
    exact h
end DD
end
section
namespace DD
open PySem PySem.Spec PyProof.Rows L2 PA
theorem k_content (ds : List D) (M : Mem) (R : DK) (h : spCdv ds M R) : r_content spCdv (endsF R) (startD N_content ds) M := by
  obtain ⟨ns, rfl, hl, h⟩ := h
  unfold r_content
  simp [size_line]
  exact ⟨ns, rfl, hl, M, Sub.refl M, h⟩
def DivsOk (p : List Int) : Prop := ∀ c ∈ p, DivOk c ((cont p : Nat) : Int)
def spReduced : DSp := fun ds M R => ∃ p, ds = [T p] ∧ p.length ≤ 1000 ∧ (p ≠ [] → DivsOk p) ∧ R (T (redL p)) M
theorem k_reduced (ds : List D) (M : Mem) (R : DK) (h : spReduced ds M R) : r_reduced spCdv (endsF R) (startD N_reduced ds) M := by
  obtain ⟨p, rfl, hl, hd, h⟩ := h
  unfold r_reduced
  simp [size_line]
  refine ⟨p, rfl, hl, ?_⟩
  unfold redL at h
  by_cases hc : 1 < cont p
  · have hc' : (1 : Int) < ((cont p : Nat) : Int) := by omega
    simp [hc] at h
    simp [hc']
    refine lc_map (fun d => match d with | .int c => .int (c.fdiv ((cont p : Nat) : Int)) | x => x) (by simp [size_line]; omega) ?_ ?_ ?_
    · intros; trivial
    · intro x q acc RY hx hq hr
      obtain ⟨c, hc, rfl⟩ := List.mem_map.mp hx
      simp [wipeD]
      exact ⟨hd (fun z => by subst z; cases hc) c hc, hr⟩
    · intro q hq
      simp
      refine ⟨M, Sub.new hq, M, Sub.refl M, ?_⟩
      have : List.map ((fun d => match d with | D.int c => .int (c.fdiv ((cont p : Nat) : Int)) | x => x) ∘ D.int) p = List.map (D.int ∘ fun c => c.fdiv ((cont p : Nat) : Int)) p := rfl
      rw [this]
      simpa [T] using h
  · have hc' : ¬ (1 : Int) < ((cont p : Nat) : Int) := by omega
    simp [hc] at h
    simp [hc']
    exact ⟨M, Sub.refl M, h⟩
theorem last_at {p : List Int} (h : p ≠ []) : atI (p.map D.int) (-1) = some (.int (p.getLastD 0)) := by
  have h0 := List.length_pos_iff.mpr h
  unfold atI ixN
  rw [if_neg (by omega), if_pos (by rw [List.length_map]; omega)]
  rw [lastD h, List.length_map]
  show (p.map D.int)[(-1 + (p.length : Int)).toNat]? = _
  rw [show (-1 + (p.length : Int)).toNat = p.length - 1 by omega, List.getElem?_map, List.getElem?_eq_getElem (by omega), List.getLast_eq_getElem]
  rfl
def spPrim : DSp := fun ds M R => ∃ p, ds = [T p] ∧ p.length ≤ 1000 ∧ (p ≠ [] → DivsOk p) ∧ (∀ c ∈ primL p, c.natAbs < 2 ^ 90000) ∧ R (T (primL p)) M
theorem k_primitive (ds : List D) (M : Mem) (R : DK) (h : spPrim ds M R) : r_primitive spReduced spScaled (endsF R) (startD N_primitive ds) M := by
  obtain ⟨p, rfl, hl, hd, hb, h⟩ := h
  unfold r_primitive
  simp [size_line]
  refine ⟨p, rfl, hl, hd, ?_⟩
  have l2 : (redL p).length = p.length := by unfold redL; split <;> simp
  by_cases hz : redL p = []
  · have hp : p = [] := List.length_eq_zero_iff.mp (by rw [← l2, hz]; rfl)
    subst hp
    rw [hz]
    rw [prim_nil] at h
    simp [truD]
    exact ⟨M, Sub.refl M, h⟩
  · have tr : truD M (T (redL p)) = some true := by
      cases hq : redL p with
      | nil => exact absurd hq hz
      | cons a q => rfl
    unfold primL at h hb
    simp [tr, last_at hz]
    by_cases hn : (redL p).getLastD 0 < 0
    · simp only [List.getLastD_eq_getLast?] at hn
      simp [hn] at h hb ⊢
      refine ⟨redL p, -1, rfl, by omega, fun c hc => neg1_ok (by simpa using hb c hc), M, Sub.refl M, by simpa using h⟩
    · simp only [List.getLastD_eq_getLast?] at hn
      simp [hn] at h ⊢
      exact ⟨M, Sub.refl M, h⟩
end DD
end
section
namespace DD
open PySem PySem.Spec PyProof.Rows L2 PA
/-- the bits after j rounds -/
def BJ (j : Nat) : Nat := 2000 + 2002 * j
def spDivided : DSp := fun ds M R => ∃ p q, ds = [T p, T q] ∧ isT p ∧ isT q ∧ q ≠ [] ∧ p.length ≤ 20 ∧ q.length ≤ 20 ∧ Bits p 2000 ∧ Bits q 2000 ∧
  ∀ (m : Int) (t r : List Int), m ≠ 0 → isT r → isT t → (∀ x, m * ev p x = ev t x * ev q x + ev r x) → r.length < q.length → Bits r 50000 → R (.tup [.int m, T t, T r]) M
structure DivW (p q : List Int) (M : Mem) (n : Nat) (δ : DSt) (M' : Mem) (m : Int) (t rest : List Int) (a : Addr) : Prop where
  n : n = rest.length
  hδ : ∃ b c d e f, δ = [some (T p), some (T q), some (.int m), some (.ref a), some (T rest), b, c, d, e, f]
  m0 : m ≠ 0
  tr : isT rest
  at_ : M' a = some (.lst (t.map D.int))
  lt : t.length = p.length - q.length + 1 ∨ p.length < q.length
  lr : rest.length ≤ p.length
  eq : ∀ x, m * ev p x = ev t x * ev q x + ev rest x
  sub : Sub M M'
  br : Bits rest (BJ (p.length - rest.length))
  bt : Bits t (BJ (p.length - rest.length))
  bm : m.natAbs < 2 ^ BJ (p.length - rest.length)
  l2 : t.length ≤ 21
theorem k_divided (ds : List D) (M : Mem) (R : DK) (h : spDivided ds M R) : r_divided spCdv spSign spMinus spScaled spRaised spTrimmed (endsF R) (startD N_divided ds) M := by
  obtain ⟨p, q, rfl, tp, tq, q0, hp, hq, bp, bq, h⟩ := h
  have ql := List.length_pos_iff.mpr q0
  unfold r_divided
  simp [size_line]
  intro a1 ha1
  have e : (if (0 : Int) < (p.length : Int) - q.length + 1 then (p.length : Int) - q.length + 1 else 0) = ((p.length + 1 - q.length : Nat) : Int) := by split <;> omega
  rw [e]
  simp
  refine ⟨by omega, by omega, ?_⟩
  intro a2 ha2
  have na := updM_none (M := M) (q := a1) ha2
  refine ⟨fun n δ M' => ∃ m t rest a, DivW p q M n δ M' m t rest a, ⟨p.length, 1, List.replicate (p.length + 1 - q.length) 0, p, a2, ?_⟩, ?_⟩
  · refine ⟨rfl, ⟨_, _, _, _, _, rfl⟩, by decide, tp, by simp, by rw [List.length_replicate]; omega, Nat.le_refl _, fun x => ?_, (Sub.new ha1).put na.2, bp.mono (by unfold BJ; omega), ?_, ?_, by rw [List.length_replicate]; omega⟩
    · rw [ev_zeros fun a ha => (List.mem_replicate.mp ha).2]; simp
    · intro c hc; rw [(List.mem_replicate.mp hc).2]; exact Nat.pow_pos (by decide)
    · exact Nat.lt_of_lt_of_le (by decide : (1 : Int).natAbs < 2 ^ 1) (Nat.pow_le_pow_right (by decide) (by unfold BJ; omega))
  · rintro n δ M' ⟨m, t, rest, a, w⟩
    obtain ⟨b, c, d, e1, f1, rfl⟩ := w.hδ
    simp
    by_cases hc : q.length ≤ rest.length
    · simp [hc]
      have r0 : rest ≠ [] := fun z => by rw [z] at hc; simp at hc; exact q0 hc
      have ll : rest.getLastD 0 ≠ 0 := by rw [lastD r0]; exact w.tr r0
      have lq : q.getLastD 0 ≠ 0 := by rw [lastD q0]; exact tq q0
      obtain ⟨g, hg, g0, gq, f, part, hf, hpart, fn, pn, efp, lf, lp⟩ := round_num ll lq
      simp only [last_at r0, last_at q0]
      have ec : cont [rest.getLastD 0, q.getLastD 0] = g := by rw [hg]; simp [cont, contFrom]
      have dv : ∀ i, DivOk i (g : Int) := fun i => div_ok 2000 (by omega) (by simpa using Nat.lt_of_le_of_lt gq bq.last) (by omega) (by omega)
      have fb : f.natAbs < 2 ^ 2000 := Nat.lt_of_le_of_lt lf bq.last
      have pb : part.natAbs < 2 ^ BJ (p.length - rest.length) := Nat.lt_of_le_of_lt lp w.br.last
      have hj : BJ (p.length - rest.length) ≤ 42040 := by unfold BJ; omega
      have sg : ((q.getLastD 0).sign).natAbs < 2 ^ 2 := by
        have : ((q.getLastD 0).sign).natAbs ≤ 1 := by rw [Int.natAbs_sign]; split <;> omega
        omega
      refine ⟨[rest.getLastD 0, q.getLastD 0], rfl, by simp, ?_⟩
      rw [ec]
      simp only [eq_gAbs, eq_gI]
      rw [← hf]
      refine ⟨dv _, _, rfl, ?_⟩
      simp only [eq_gMulAii]
      refine ⟨mul_ok 42040 2 (Nat.lt_of_lt_of_le w.br.last (Nat.pow_le_pow_right (by decide) hj)) sg (by omega) (by omega) (by omega), ?_⟩
      simp only [eq_gI]
      rw [← hpart]
      refine ⟨dv _, ?_⟩
      rw [w.at_]
      simp
      refine lc_map (fun d => match d with | .int c => .int (c * f) | x => x) (by simp [size_line]; have := w.l2; omega) ?_ ?_ ?_
      · intro p acc hp
        have := ne_none hp w.at_
        simp [this, w.at_]
      · intro x u acc RY hx hu hr
        obtain ⟨c, hc, rfl⟩ := List.mem_map.mp hx
        simp [wipeD]
        exact ⟨mul_ok 42040 2000 (Nat.lt_of_lt_of_le (w.bt c hc) (Nat.pow_le_pow_right (by decide) hj)) fb (by omega) (by omega) (by omega), hr⟩
      · intro u hu
        have et : List.map ((fun d => match d with | D.int c => D.int (c * f) | x => x) ∘ D.int) t = (t.map fun c => c * f).map D.int := by rw [List.map_map]; rfl
        have hs : rest.length - q.length < t.length := by have := w.lt; have := w.lr; omega
        have ei : ((rest.length : Int) - q.length) = ((rest.length - q.length : Nat) : Int) := by omega
        rw [ei]
        generalize hsh : rest.length - q.length = sh at *
        generalize ht2 : (t.map fun c => c * f) = t2 at et
        have l2 : t2.length = t.length := by rw [← ht2, List.length_map]
        have bt2 : Bits t2 (BJ (p.length - rest.length) + 2000) := by rw [← ht2]; exact w.bt.scale fb
        have at1 : atI (t2.map D.int) (sh : Int) = some (.int (t2.getD sh 0)) := atI_nat (by omega) (by
          rw [Int.toNat_natCast, List.getElem?_map, List.getD_eq_getElem?_getD, List.getElem?_eq_getElem (by omega)]; rfl)
        have ix1 : ixN t2.length (sh : Int) = some sh := ixN_nat (by omega) (by omega)
        simp only [List.map_map]
        rw [et]
        simp only [List.getD_eq_getElem?_getD] at at1
        simp [at1, ix1]
        have hlr := w.lr
        have bf : Bits (rest.map fun c => c * f) (BJ (p.length - rest.length) + 2000) := w.br.scale fb
        have bq2 : Bits (q.map fun c => c * part) (2000 + BJ (p.length - rest.length)) := bq.scale pb
        have bz : Bits (List.replicate sh 0 ++ q.map fun c => c * part) (2000 + BJ (p.length - rest.length)) := bq2.zeros
        obtain ⟨r1, r2⟩ := round (f := f) (part := part) w.tr tq q0 hc efp
        rw [hsh] at r1 r2
        refine ⟨rest, f, rfl, by omega, fun c hc => mul_ok 42040 2000 (Nat.lt_of_lt_of_le (w.br c hc) (Nat.pow_le_pow_right (by decide) hj)) fb (by omega) (by omega) (by omega), ?_⟩
        rw [if_neg fn]
        refine ⟨q, part, rfl, by omega, fun c hc => mul_ok 2000 42040 (bq c hc) (Nat.lt_of_lt_of_le pb (Nat.pow_le_pow_right (by decide) hj)) (by omega) (by omega) (by omega), ?_⟩
        rw [if_neg pn]
        refine ⟨q.map fun c => c * part, sh, rfl, by simp; omega, by omega, by omega, ?_⟩
        rw [if_neg (by simpa using q0), Int.toNat_natCast]
        refine ⟨rest.map fun c => c * f, _, rfl, by simp; omega, by simp; omega, bz.mono (by omega), ?_⟩
        have j1 : BJ (p.length - rest.length) + 2002 ≤ BJ (p.length - (trim (addL (rest.map fun c => c * f) (negL (List.replicate sh 0 ++ q.map fun c => c * part)))).length) := by
          unfold BJ; omega
        refine ⟨mul_ok 42040 2000 (Nat.lt_of_lt_of_le w.bm (Nat.pow_le_pow_right (by decide) hj)) fb (by omega) (by omega) (by omega), _, ?_, m * f, t2.set sh (t2.getD sh 0 + part), _, u, rfl, ⟨_, _, _, _, _, rfl⟩, Int.mul_ne_zero w.m0 fn, trim_isT _, ?_, ?_, by omega, fun x => ?_, ?_, ?_, ?_, ?_, ?_⟩
        · rw [w.n]; exact r1
        · simp [List.map_set]
        · have := w.lt; simp [l2]; omega
        · rw [r2, ev_set _ _ _ _ (by omega), ← ht2, ev_scale]
          have := w.eq x
          grind
        · exact (Sub.put (Sub.put w.sub (w.sub.un hu)) (w.sub.un hu))
        · exact ((bf.addL (bz.neg.mono (by omega))).trim).mono (by omega)
        · refine Bits.set (bt2.mono (by omega)) ?_
          exact Nat.lt_of_lt_of_le (add_bits (bt2.getD sh) (Nat.lt_of_lt_of_le pb (Nat.pow_le_pow_right (by decide) (by omega)))) (Nat.pow_le_pow_right (by decide) (by omega))
        · exact Nat.lt_of_lt_of_le (mul_bits w.bm fb) (Nat.pow_le_pow_right (by decide) (by omega))
        · have := w.l2; simp; omega
    · simp [hc]
      refine ⟨a, t, M, rfl, w.at_, by have := w.l2; omega, w.sub, M, Sub.refl M, ?_⟩
      refine h m (trim t) rest w.m0 w.tr (trim_isT t) (fun x => by rw [ev_trim]; exact w.eq x) (by omega) (w.br.mono (by unfold BJ; omega))
end DD
end
section
namespace DD
open PySem PySem.Spec PyProof.Rows L2 PA
def spExact : DSp := fun ds M R => ∃ p q r, ds = [T p, T q] ∧ isT p ∧ isT q ∧ q ≠ [] ∧ isT r ∧ p.length ≤ 100 ∧ q.length ≤ 100 ∧ (∀ x : Int, 0 < x → ev p x = ev q x * ev r x) ∧ Bits q 2000 ∧ Bits r 2000 ∧ R (T r) M
/-- one round's inner loop -/
structure ExW (p q r : List Int) (M M' : Mem) (a b : Addr) (k : Nat) (rest : List Int) : Prop where
  at1 : M' b = some (.lst (rest.map D.int))
  at2 : M' a = some (.lst ((List.replicate k 0 ++ r.drop k).map D.int))
  ab : a ≠ b
  ma : M a = none
  mb : M b = none
  sub : Sub M M'
  len : rest.length = p.length
theorem pyds_zeros : ∀ n : Nat, pyds (List.replicate n (D.int 0)) = some (List.replicate n (.int 0))
  | 0 => rfl
  | n + 1 => by
    have ih := pyds_zeros n
    show (match pyd (D.int 0), pyds (List.replicate n (D.int 0)) with
      | some x, some xs => some (x :: xs)
      | _, _ => none) = _
    rw [ih]
    rfl
theorem plain_zeros : ∀ n : Nat, PyData.plainAll (List.replicate n (PyData.int 0)) = true
  | 0 => by decide
  | n + 1 => by
    rw [List.replicate_succ, PyData.plainAll, Bool.and_eq_true]
    exact ⟨by decide, plain_zeros n⟩
theorem set_zero {r : List Int} {k : Nat} (h : k < r.length) : (List.replicate (k + 1) 0 ++ r.drop (k + 1)).set k (r.getD k 0) = List.replicate k 0 ++ r.drop k := by
  rw [List.replicate_succ', List.append_assoc, List.set_append_right _ _ (by simp)]
  rw [List.drop_eq_getElem_cons h]
  simp [List.getD_eq_getElem?_getD, List.getElem?_eq_getElem h]
theorem at_zero {r : List Int} {k : Nat} (h : k < r.length) : atI ((List.replicate k 0 ++ r.drop k).map D.int) (k : Int) = some (.int (r.getD k 0)) := by
  refine atI_nat (by omega) ?_
  rw [Int.toNat_natCast, List.getElem?_map, List.getElem?_append_right (by simp)]
  simp [List.getD_eq_getElem?_getD, List.getElem?_eq_getElem h]
theorem k_exact_over (ds : List D) (M : Mem) (R : DK) (h : spExact ds M R) : r_exact_over spTrimmed (endsF R) (startD N_exact_over ds) M := by
  obtain ⟨p, q, r, rfl, tp, tq, q0, tr, hp, hq, epq, bq, br, h⟩ := h
  have ql := List.length_pos_iff.mpr q0
  have hlen := quot_len tp tq q0 tr epq
  have hrl : r.length = p.length + 1 - q.length := by
    rcases hlen with ⟨a, b⟩ | ⟨_, _, c⟩
    · subst a b; simp; omega
    · omega
  have hpe : ∀ k, k < r.length → p.length + 1 = q.length + r.length := fun k hk => by
    rcases hlen with ⟨a, b⟩ | ⟨_, _, c⟩
    · subst b; simp at hk
    · exact c
  unfold r_exact_over
  simp [size_line]
  intro b hb c hc
  have e : (if (0 : Int) < (p.length : Int) - q.length + 1 then (p.length : Int) - q.length + 1 else 0) = ((r.length : Nat) : Int) := by split <;> omega
  rw [e]
  simp
  refine ⟨by omega, by omega, ?_⟩
  intro a ha
  have nc := updM_none (M := M) (q := b) hc
  have na := updM_none (q := c) (show updM (updM M b _) c _ a = none from ha)
  have na2 := updM_none na.2
  have er : ((p.length : Int) - q.length + 1).toNat = r.length := by omega
  rw [er]
  refine ⟨⟨by omega, by omega⟩, ?_⟩
  refine for_in (fun i δ M' => i ≤ r.length ∧ ∃ rest x y z u, δ = [some (T p), some (T q), some (.ref b), some (.ref a), x, y, z, u] ∧ ExW p q r M M' a b (r.length - i) rest ∧ ∀ x : Int, 0 < x → ev rest x = ev q x * ev (r.take (r.length - i)) x) ?_ ?_ ?_ ?_
  · refine ⟨by omega, p, _, _, _, _, rfl, ⟨?_, ?_, na2.1, na2.2, hb, ?_, rfl⟩, fun x hx => by rw [Nat.sub_zero, List.take_length]; exact epq x hx⟩
    · simp [na2.1.symm, nc.1.symm]
    · simp
    · exact ((Sub.new hb).put nc.2).put na2.2
  · intros; trivial
  · rintro i d δ M' hd ⟨hi, rest, x1, y1, z1, u1, rfl, w, ew⟩
    obtain ⟨hi2, rfl⟩ : i < r.length ∧ d = .int ((p.length : Int) - q.length - (i : Int)) := by
      have h1 : i < r.length := by have := (List.getElem?_eq_some_iff.mp hd).1; simpa using this
      rw [List.getElem?_map, List.getElem?_range h1] at hd
      exact ⟨h1, (Option.some.inj hd).symm⟩
    have hpq := hpe i hi2
    generalize hk : r.length - (i + 1) = k at *
    have hk1 : r.length - i = k + 1 := by omega
    rw [hk1] at w ew
    have es : (p.length : Int) - q.length - (i : Int) = (k : Int) := by omega
    rw [es]
    have top := top_of q0 (by omega : k < r.length) (by rw [w.len]; omega) ew
    have at1 : atI (rest.map D.int) ((k : Int) + q.length - 1) = some (.int (q.getLastD 0 * r.getD k 0)) := atI_nat (by omega) (by
      rw [show ((k : Int) + q.length - 1).toNat = k + q.length - 1 by omega, List.getElem?_map, ← top, List.getD_eq_getElem?_getD, List.getElem?_eq_getElem (by rw [w.len]; omega)]; rfl)
    have lq : q.getLastD 0 ≠ 0 := by rw [lastD q0]; exact tq q0
    have dv : DivOk (q.getLastD 0 * r.getD k 0) (q.getLastD 0) := div_ok 2000 lq bq.last (by omega) (by omega)
    have md : (q.getLastD 0 * r.getD k 0).fmod (q.getLastD 0) = 0 := Int.mul_fmod_right _ _
    have dd : (q.getLastD 0 * r.getD k 0).fdiv (q.getLastD 0) = r.getD k 0 := Int.mul_fdiv_cancel_left _ lq
    simp only [eq_gNm, eq_sSeq]
    simp
    rw [w.at1]
    simp only [at1, last_at q0]
    have hC := List.getD_eq_getElem?_getD (l := r) (i := k) (a := 0)
    have bC : (r.getD k 0).natAbs < 2 ^ 2000 := br.getD k
    have z1' := set_zero (by omega : k < r.length)
    have z2' := at_zero (by omega : k < r.length)
    generalize q.getLastD 0 = L at *
    generalize r.getD k 0 = C at *
    simp [lq, md, dd]
    refine ⟨dv, ?_⟩
    have w2 := w.at2
    generalize hF : List.replicate (k + 1) 0 ++ r.drop (k + 1) = F at *
    rw [w2]
    have ix1 : ixN F.length (k : Int) = some k := ixN_nat (by omega) (by rw [← hF]; simp; omega)
    simp [ix1]
    rw [← List.map_set, z1']
    refine for_in (fun j δ M' => ∃ rest x y, δ = [some (T p), some (T q), some (.ref b), some (.ref a), some (.int (k : Nat)), some (.int (L * C)), x, y] ∧ ExW p q r M M' a b k rest ∧ ∀ x : Int, 0 < x → ev rest x = ev q x * ev (r.take (k + 1)) x - C * x ^ k * ev (q.take j) x) ?_ ?_ ?_ ?_
    · refine ⟨rest, _, _, rfl, ⟨?_, updM_same, w.ab, w.ma, w.mb, w.sub.put w.ma, w.len⟩, fun x hx => by rw [ew x hx]; simp [ev]⟩
      rw [updM_ne w.ab.symm]; exact w.at1
    · intros; trivial
    · rintro j d δ M2 hd ⟨rest2, x2, y2, rfl, v, ev2⟩
      obtain ⟨cc, hcc, rfl⟩ := enum_at hd
      have hj : j < q.length := (List.getElem?_eq_some_iff.mp hcc).1
      have hkj : k + j < rest2.length := by rw [v.len]; omega
      have at3 : atI (rest2.map D.int) ((k : Int) + j) = some (.int (rest2.getD (k + j) 0)) := atI_nat (by omega) (by
        rw [show ((k : Int) + j).toNat = k + j by omega, List.getElem?_map, List.getD_eq_getElem?_getD, List.getElem?_eq_getElem hkj]; rfl)
      have ix3 : ixN rest2.length ((k : Int) + j) = some (k + j) := by rw [ixN_nat (by omega) (by omega)]; congr 1
      have hev := ev_set rest2 (k + j) (-(C * cc))
      have hab := v.ab
      have v1 := v.at1
      have v2 := v.at2
      generalize rest2.getD (k + j) 0 = old at *
      generalize hF2 : (List.replicate k 0 ++ r.drop k).map D.int = F2 at *
      simp
      rw [v1]
      simp [at3]
      rw [v2]
      simp [z2', ix3, v1]
      have hcq : cc.natAbs < 2 ^ 2000 := bq cc (List.mem_of_getElem? hcc)
      refine ⟨mul_ok 2000 2000 bC hcq (by omega) (by omega) (by omega), rest2.set (k + j) (old + -(C * cc)), ⟨?_, ?_, v.ab, v.ma, v.mb, v.sub.put v.mb, by simpa using v.len⟩, fun x hx => ?_⟩
      · simp [List.map_set, Int.sub_eq_add_neg]
      · rw [updM_ne hab, hF2]; exact v2
      · rw [hev x hkj, ev2 x hx, take_ev q j, List.getD_eq_getElem?_getD, hcc]
        have : x ^ (k + j) = x ^ k * x ^ j := Int.pow_add x k j
        rw [this]
        simp only [Option.getD_some]
        grind
    · rintro δ M2 ⟨rest2, x2, y2, rfl, v, ev2⟩
      rw [enumD_length, List.length_map, List.take_length] at ev2
      refine ⟨by omega, ⟨_, _, _, _, rfl⟩, rest2, v, fun x hx => ?_⟩
      rw [ev2 x hx, take_ev r k, List.getD_eq_getElem?_getD, ← hC]
      grind
  · rintro δ M' ⟨hi, rest, x1, y1, z1, u1, rfl, w, ew⟩
    have lr : (List.map (fun n : Nat => D.int ((p.length : Int) - q.length - (n : Int))) (List.range r.length)).length = r.length := by simp
    rw [lr, Nat.sub_self] at w ew
    have ez : rest = List.replicate p.length 0 := ev_inj_len (by rw [w.len, List.length_replicate]) fun x hx => by
      rw [ew x hx, ev_zeros (p := List.replicate _ _) fun a ha => (List.mem_replicate.mp ha).2]; simp [ev]
    have w1 := w.at1
    rw [ez, List.map_replicate] at w1
    have w2 := w.at2
    simp
    rw [w1]
    simp [pyds_zeros]
    refine ⟨?_, fun _ => ?_, ?_⟩
    · exact plain_zeros _
    · trivial
    · rw [if_neg (by rintro ⟨x, hx, h2⟩; rw [(List.mem_replicate.mp hx).2] at h2; cases h2)]
      refine ⟨a, r, M, rfl, by simpa using w2, by omega, w.sub, M, Sub.refl M, ?_⟩
      rw [trim_of tr]; exact h
end DD
end
section
namespace DD
open PySem PySem.Spec PyProof.Rows L2 PA
theorem divs_ok {p : List Int} (tp : isT p) (p0 : p ≠ []) (hb : Bits (primL p) 2000) : DivsOk p := by
  obtain ⟨_, c, hc, hcc, e⟩ := prim_ok tp p0
  have hpos := cont_pos tp p0
  intro x hx
  rw [e] at hx
  obtain ⟨a, ha, rfl⟩ := List.mem_map.mp hx
  refine ⟨by omega, .inr ?_⟩
  rw [Int.natAbs_natCast]
  by_cases z : (a * c).natAbs = 0
  · rw [z, Nat.log2_zero]; omega
  · have h1 := hb a ha
    have h2 : cont p < 2 ^ ((cont p).log2 + 1) := Nat.lt_log2_self
    have h3 : (a * c).natAbs < 2 ^ (2000 + ((cont p).log2 + 1)) := mul_bits h1 (by rw [hcc]; exact h2)
    have := (Nat.log2_lt z).mpr h3
    omega
theorem euclid_num {a b c : Nat} (h : a + b + 2 - 2 * c ≤ 26) : 4 * ((a + b + 2 - 2 * c) * ((4 * (a + b + 2 - 2 * c) * 2 ^ 60) ^ (a + b + 2 - 2 * c) * 2 ^ 60)) < 2 ^ 2000 := by
  generalize a + b + 2 - 2 * c = N at *
  have h1 : (4 * N * 2 ^ 60) ^ N ≤ (4 * 26 * 2 ^ 60) ^ 26 := Nat.le_trans (Nat.pow_le_pow_left (Nat.mul_le_mul_right _ (by omega)) N) (Nat.pow_le_pow_right (by decide) h)
  have h2 : 4 * (N * ((4 * N * 2 ^ 60) ^ N * 2 ^ 60)) ≤ 4 * (26 * ((4 * 26 * 2 ^ 60) ^ 26 * 2 ^ 60)) := Nat.mul_le_mul_left _ (Nat.mul_le_mul h (Nat.mul_le_mul_right _ h1))
  exact Nat.lt_of_le_of_lt h2 (by decide +kernel)
def spCommon : DSp := fun ds M R => ∃ p q g, ds = [T p, T q] ∧ isT p ∧ isT q ∧ (p ≠ [] ∨ q ≠ []) ∧ p.length ≤ 13 ∧ q.length ≤ 13 ∧ bd p (2 ^ 60) ∧ bd q (2 ^ 60) ∧ Prm g ∧ GcdOf (ev g) (ev p) (ev q) ∧ R (T g) M
structure ComW (P Q s r : List Int) : Prop where
  eu : Nonempty (Eu P Q s r)
  ps : Prm s
  tr : isT r
  pr : r ≠ [] → Prm r
  l : r.length ≤ s.length
  bs : Bits s 2000
  br : Bits r 2000
  ls : s.length ≤ P.length
  lr : r.length ≤ Q.length
theorem com_loop {p q P Q g : List Int} {M : Mem} {R : DK} (tQ : isT Q) (hl : Q.length ≤ P.length) (hP : P.length ≤ 13) (pP : Prm P) (pQ : Q ≠ [] → Prm Q) (bP : bd P (2 ^ 60)) (bQ : bd Q (2 ^ 60)) (hg : Prm g) (hgcd : GcdOf (ev g) (ev P) (ev Q)) (h : R (T g) M) :
    sWhile (dTru (dVar 3)) (sPar 2 3 (aCons (dVar 3) (aCons (dCall spPrim (aCons (dBin gIx (dCall spDivided (aCons (dVar 2) (aCons (dVar 3) (aNil)))) (dC (.int 2))) (aNil))) (aNil))))
      { endsF R with nx := sRet (dIf (dTest (dBin gGt (dCB gLen (aCons (dVar 2) (aNil))) (dC (.int 1)))) (dVar 2) (dTup (aCons (dC (.int 1)) (aNil)))) (endsF R) } [some (T p), some (T q), some (T P), some (T Q)] M := by
  have b60 : (2 : Nat) ^ 60 < 2 ^ 2000 := by decide +kernel
  have up : ∀ {l : List Int}, Bits l 2000 → ∀ c ∈ l, c.natAbs < 2 ^ 90000 := fun h => h.mono (by omega)
  rw [eq_sWhile]
  refine ⟨fun n δ M' => M' = M ∧ ∃ s r, n = r.length ∧ δ = [some (T p), some (T q), some (T s), some (T r)] ∧ ComW P Q s r, ⟨Q.length, rfl, P, Q, rfl, rfl, ⟨⟨Eu.start P Q⟩, pP, tQ, pQ, hl, .of_bd bP b60, .of_bd bQ b60, Nat.le_refl _, Nat.le_refl _⟩⟩, ?_⟩
  rintro n δ M' ⟨rfl, s, r, rfl, rfl, w⟩
  by_cases r0 : r = []
  · subst r0
    obtain ⟨eu⟩ := w.eu
    have e : s = g := gcd_uniq w.ps hg eu.done hgcd
    subst e
    simp [truD, size_line]
    by_cases hs : 1 < s.length
    · have hs' : (1 : Int) < (s.length : Int) := by omega
      simp [hs']
      exact ⟨M', Sub.refl M', h⟩
    · have sl := List.length_pos_iff.mpr hg.ne
      obtain ⟨c, hc⟩ := List.length_eq_one_iff.mp (by omega : s.length = 1)
      have c1 : c = 1 := by
        have h1 := hg.one
        have h2 := hg.pos
        subst hc
        simp [cont, contFrom] at h1 h2
        omega
      have hs' : ¬ (1 : Int) < (s.length : Int) := by omega
      simp [hs']
      refine ⟨M', Sub.refl M', ?_⟩
      rw [hc, c1] at h
      exact h
  · have tr : truD M' (T r) = some true := by
      cases hq : r with
      | nil => exact absurd hq r0
      | cons a q => rfl
    obtain ⟨eu⟩ := w.eu
    have s0 := w.ps.ne
    have hls := w.ls
    have hlr := w.lr
    have hlsr := w.l
    simp [tr]
    refine ⟨s, r, rfl, w.ps.t, w.tr, r0, by omega, by omega, w.bs, w.br, fun m t rest m0 trest tt em lrest brest => ?_⟩
    simp only [eq_gIxt]
    have at2 : atI [D.int m, T t, T rest] 2 = some (T rest) := rfl
    rw [at2]
    simp only
    have hE : Nonempty (Eu P Q r (primL rest)) ∧ Bits (primL rest) 2000 ∧ (primL rest ≠ [] → Prm (primL rest)) := by
      by_cases z : rest = []
      · subst z
        rw [prim_nil]
        refine ⟨eu.step (m := m) (t := t) (c := 1) tt m0 (by decide) w.tr r0 w.ps.t s0 w.l (by simpa using lrest) (fun x => ?_), fun c hc => (by cases hc), fun h => absurd rfl h⟩
        rw [em]; simp [ev]
      · obtain ⟨pr, c, hc, _, er⟩ := prim_ok trest z
        have evr : ∀ x, ev rest x = c * ev (primL rest) x := fun x => by
          have := congrArg (fun l => ev l x) er
          simpa only [ev_scale] using this
        have lp := prim_len trest
        have n := eu.step (m := m) (t := t) (c := c) (r' := primL rest) tt m0 hc w.tr r0 w.ps.t s0 w.l (by omega) (fun x => by rw [em, evr])
        obtain ⟨eu2⟩ := id n
        have rl := List.length_pos_iff.mpr r0
        exact ⟨n, .of_bd (eu2.small pr pP.t bP bQ (by decide) r0 (by omega) (by omega) (by omega)) (euclid_num (by omega)), fun _ => pr⟩
    have lp := prim_len trest
    refine ⟨rest, rfl, by omega, fun z => divs_ok trest z hE.2.1, up hE.2.1, (primL rest).length, by omega, rfl, r, primL rest, rfl, ⟨rfl, rfl⟩, ⟨hE.1, w.pr r0, prim_isT trest, hE.2.2, by omega, w.br, hE.2.1, by omega, by omega⟩⟩
theorem k_common (ds : List D) (M : Mem) (R : DK) (h : spCommon ds M R) : r_common spPrim spDivided (endsF R) (startD N_common ds) M := by
  obtain ⟨p, q, g, rfl, tp, tq, pq, hp, hq, bp, bq, hg, hgcd, h⟩ := h
  have b60 : (2 : Nat) ^ 60 < 2 ^ 2000 := by decide +kernel
  have bP := Bits.of_bd (bd_prim tp bp) b60
  have bQ := Bits.of_bd (bd_prim tq bq) b60
  have lP := prim_len tp
  have lQ := prim_len tq
  have up : ∀ {l : List Int}, Bits l 2000 → ∀ c ∈ l, c.natAbs < 2 ^ 90000 := fun h => h.mono (by omega)
  unfold r_common
  simp [size_line]
  refine ⟨p, rfl, by omega, fun p0 => divs_ok tp p0 bP, up bP, q, rfl, by omega, fun q0 => divs_ok tq q0 bQ, up bQ, ?_⟩
  obtain ⟨cp, cp0, ecp⟩ := ev_prim tp
  obtain ⟨cq, cq0, ecq⟩ := ev_prim tq
  have gs : GcdOf (ev g) (ev (primL p)) (ev (primL q)) := GcdOf.scaled cp0 cq0 (by decide : (1 : Int) ≠ 0) (by decide : (1 : Int) ≠ 0) hgcd (fun x => by rw [ecp x]; omega) (fun x => by rw [ecq x]; omega)
  simp
  by_cases hc : (primL p).length < (primL q).length
  · have q0 : q ≠ [] := fun z => by rw [z, prim_nil] at hc; simp at hc
    have t := com_loop (p := p) (q := q) (M := M) (R := R) (P := primL q) (Q := primL p) (prim_isT tp) (by omega) (by omega) ((prim_ok tq q0).1) (fun hz => (prim_ok tp (fun z => hz (by rw [z, prim_nil]))).1) (bd_prim tq bq) (bd_prim tp bp) hg gs.symm h
    simp [size_line] at t
    simp [hc]
    exact t
  · have p0 : p ≠ [] := fun z => by
      rcases pq with h | h
      · exact h z
      · rw [lP, lQ, z] at hc; simp at hc; exact h hc
    have t := com_loop (p := p) (q := q) (M := M) (R := R) (P := primL p) (Q := primL q) (prim_isT tq) (by omega) (by omega) ((prim_ok tp p0).1) (fun hz => (prim_ok tq (fun z => hz (by rw [z, prim_nil]))).1) (bd_prim tp bp) (bd_prim tq bq) hg gs h
    simp [size_line] at t
    simp [hc]
    exact t
end DD
end
section
namespace DD
open PySem PySem.Spec PyProof.Rows L2 PA
theorem bd_dr {p : List Int} {B : Nat} (h : bd p B) : bd (dr p) (p.length * B) := fun c hc => by
  have hc2 : c ∈ drFrom 0 p := List.mem_of_mem_drop hc
  obtain ⟨k, hk⟩ := List.mem_iff_getElem?.mp hc2
  rw [drFrom_at] at hk
  cases e : p[k]? with
  | none => rw [e] at hk; cases hk
  | some d =>
    rw [e] at hk
    have h1 : k < p.length := (List.getElem?_eq_some_iff.mp e).1
    simp at hk
    subst hk
    rw [Int.natAbs_mul, Int.natAbs_natCast]
    exact Nat.mul_le_mul (by omega) (h d (List.mem_of_getElem? e))
def partF (e : List Int → Nat) (U : List (List Int)) (i : Nat) : Option D := if (U.filter fun f => decide (e f = i + 1)) = [] then none else some (.tup [T (PL e (i + 1) U), .int ((i + 1 : Nat) : Int)])
def partsN (e : List Int → Nat) (U : List (List Int)) (n : Nat) : List D := (List.range n).filterMap (partF e U)
theorem parts_succ (e : List Int → Nat) (U : List (List Int)) (n : Nat) : partsN e U (n + 1) = partsN e U n ++ (partF e U n).toList := by
  unfold partsN
  rw [List.range_succ, List.filterMap_append]
  cases h : partF e U n <;> simp [h]
theorem parts_len (e : List Int → Nat) (U : List (List Int)) (n : Nat) : (partsN e U n).length ≤ n := by
  have := List.length_filterMap_le (partF e U) (List.range n)
  simpa [partsN] using this
theorem parts_stop {e : List Int → Nat} {U : List (List Int)} {k : Nat} (h : ∀ i, k ≤ i → partF e U i = none) : ∀ j, partsN e U (k + j) = partsN e U k
  | 0 => rfl
  | j + 1 => by
    rw [← Nat.add_assoc, parts_succ, h (k + j) (by omega), parts_stop h j]; simp
theorem e_le_wt (e : List Int → Nat) : ∀ {U : List (List Int)} {f : List Int}, f ∈ U → 2 ≤ f.length → e f ≤ wt e U
  | g :: U, f, hf, hl => by
    show _ ≤ (g.length - 1) * e g + wt e U
    rcases List.mem_cons.mp hf with rfl | hf
    · have : 1 * e f ≤ (f.length - 1) * e f := Nat.mul_le_mul_right _ (by omega)
      omega
    · have := e_le_wt e hf hl
      omega
/-- factors and powers as the law draws them -/
structure Lot (e : List Int → Nat) (U : List (List Int)) : Prop where
  ok : UOk U
  sm : ∀ f ∈ U, Sm f
  wt : wt e U ≤ 12
def spSqf : DSp := fun ds M R => ∃ p c e U, ds = [T p] ∧ isT p ∧ Lot e U ∧ c ≠ 0 ∧ (∀ x, ev p x = c * prodU e U x) ∧ bd p (2 ^ 45) ∧ R (.tup (partsN e U 12)) M
section
variable {e : List Int → Nat} {U : List (List Int)}
theorem Lot.prm (h : Lot e U) : ∀ f ∈ U, Prm f := fun f hf => (h.ok.fac f hf).prm
theorem Lot.prm2 (h : Lot e U) : ∀ f ∈ U, Prm f ∧ 2 ≤ f.length := fun f hf => ⟨(h.ok.fac f hf).prm, (h.ok.fac f hf).len⟩
theorem Lot.lenA (h : Lot e U) {m : Nat} (hm : 1 ≤ m) : (AL e m U).length ≤ 13 := by
  have := prodL_len (l := U.filter fun f => decide (m ≤ e f)) fun f hf => h.prm2 f (List.mem_filter.mp hf).1
  have := sum_AL e hm U
  have := h.wt
  unfold AL; omega
theorem Lot.lenP (h : Lot e U) {m : Nat} (hm : 1 ≤ m) : (PL e m U).length ≤ 13 := by
  have := prodL_len (l := U.filter fun f => decide (e f = m)) fun f hf => h.prm2 f (List.mem_filter.mp hf).1
  have := sum_PL e hm U
  have := h.wt
  unfold PL; omega
theorem Lot.lenE (h : Lot e U) {m : Nat} (hm : 1 ≤ m) : (trim (EL e m U)).length ≤ 12 := by
  have := trim_len (EL e m U)
  have := EL_len e m h.prm2
  have := sum_AL e hm U
  have := h.wt
  omega
theorem Lot.lenG (h : Lot e U) : (GL e U).length ≤ 13 := by
  have := prodL_len (l := U.flatMap fun f => List.replicate (e f - 1) f) fun f hf => by
    obtain ⟨g, hg, hf⟩ := List.mem_flatMap.mp hf
    rw [(List.mem_replicate.mp hf).2]; exact h.prm2 g hg
  have := sum_GL e U
  have := h.wt
  unfold GL; omega
theorem pow48 {n w : Nat} (h : n ≤ 2 ^ (4 * w)) (hw : w ≤ 12) : n ≤ 2 ^ 48 := Nat.le_trans h (Nat.pow_le_pow_right (by decide) (by omega))
theorem Lot.bdA (h : Lot e U) {m : Nat} (hm : 1 ≤ m) : bd (AL e m U) (2 ^ 48) := (bd_n1 _).mono (pow48 (n1_AL e hm h.sm) h.wt)
theorem Lot.bdE (h : Lot e U) {m : Nat} (hm : 1 ≤ m) : bd (trim (EL e m U)) (2 ^ 53) := bd_trim ((bd_n1 _).mono (by
  refine Nat.le_trans (n1_EL e hm h.sm) (Nat.le_trans (Nat.mul_le_mul (pow48 (Nat.le_refl _) h.wt) (Nat.mul_le_mul_left 2 h.wt)) (by decide))))
theorem Lot.bdP (h : Lot e U) {m : Nat} (hm : 1 ≤ m) : bd (PL e m U) (2 ^ 48) := (bd_n1 _).mono (pow48 (Nat.le_trans (n1_prodL fun f hf => h.sm f (List.mem_filter.mp hf).1) (Nat.pow_le_pow_right (by decide) (Nat.mul_le_mul_left 4 (sum_PL e hm U)))) h.wt)
theorem Lot.bdG (h : Lot e U) : bd (GL e U) (2 ^ 48) := (bd_n1 _).mono (pow48 (Nat.le_trans (n1_prodL fun f hf => by
    obtain ⟨g, hg, hf⟩ := List.mem_flatMap.mp hf
    rw [(List.mem_replicate.mp hf).2]; exact h.sm g hg) (Nat.pow_le_pow_right (by decide) (Nat.mul_le_mul_left 4 (sum_GL e U)))) h.wt)
theorem bits_of {p : List Int} {k : Nat} (h : bd p (2 ^ k)) (hk : k < 2000) : Bits p 2000 := .of_bd h (Nat.pow_lt_pow_right (by decide) hk)
end
theorem _root_.PA.GcdOf.congrG {g g' p q : F} (h : GcdOf g p q) (e : ∀ x, g' x = g x) : GcdOf g' p q :=
  ⟨by obtain ⟨c, hc, u, hu, z⟩ := h.dl; exact ⟨c, hc, u, hu, fun x => by rw [z, e]⟩, by obtain ⟨c, hc, u, hu, z⟩ := h.dr; exact ⟨c, hc, u, hu, fun x => by rw [z, e]⟩,
    by obtain ⟨c, hc, u, v, hu, hv, z⟩ := h.bz; exact ⟨c, hc, u, v, hu, hv, fun x => by rw [e, z]⟩⟩
theorem Lot.gcd {e : List Int → Nat} {U : List (List Int)} (h : Lot e U) (m : Nat) : GcdOf (ev (PL e m U)) (ev (AL e m U)) (ev (gapL e m U)) :=
  ((gcd_step e m h.ok).congr (fun x => ev_AL e m U x) fun x => ev_gapL e m U x).congrG fun x => ev_PL e m U x
theorem Lot.bdGap {e : List Int → Nat} {U : List (List Int)} (h : Lot e U) {m : Nat} (hm : 1 ≤ m) : bd (gapL e m U) (2 ^ 60) := by
  have h1 : bd (dr (AL e m U)) (13 * 2 ^ 48) := (bd_dr (h.bdA hm)).mono (Nat.mul_le_mul_right _ (h.lenA hm))
  have h2 : bd (negL (dr (AL e m U))) (13 * 2 ^ 48 * 1) := bd_scale h1 (by decide)
  exact (bd_trim (bd_addL (h.bdE hm) h2)).mono (by decide)
theorem Lot.lenGap {e : List Int → Nat} {U : List (List Int)} (h : Lot e U) {m : Nat} (hm : 1 ≤ m) : (gapL e m U).length ≤ 13 := by
  have h1 := h.lenE hm
  have h2 := h.lenA hm
  have h3 := dr_len (AL e m U)
  have h4 := trim_len (addL (trim (EL e m U)) (negL (dr (AL e m U))))
  rw [addL_len] at h4
  have : (negL (dr (AL e m U))).length = (dr (AL e m U)).length := by simp [negL]
  unfold gapL; omega
theorem k_square_free (ds : List D) (M : Mem) (R : DK) (h : spSqf ds M R) : r_square_free spPrim spCommon spSlope spExact spMinus (endsF R) (startD N_square_free ds) M := by
  obtain ⟨p, c, e, U, rfl, tp, L, hc, ep, bp, h⟩ := h
  have prmQ := prm_QL e L.prm
  have one : primL p = QL e U := by
    by_cases p0 : p = []
    · exfalso
      have : QL e U = [] := nil_of prmQ.t fun x hx => by
        have := ep x
        rw [p0] at this
        simp only [ev] at this
        rw [ev_QL]
        rcases Int.mul_eq_zero.mp this.symm with z | z
        · exact absurd z hc
        · exact z
      exact prmQ.ne this
    · exact prim_eq tp p0 prmQ (by decide : (1 : Int) ≠ 0) hc fun x hx => by rw [ep, ev_QL]; omega
  have lone : (QL e U).length ≤ 13 := by
    have := prodL_len (l := U.flatMap fun f => List.replicate (e f) f) fun f hf => by
      obtain ⟨g, hg, hf⟩ := List.mem_flatMap.mp hf
      rw [(List.mem_replicate.mp hf).2]; exact L.prm2 g hg
    have := sum_QL e U
    have := L.wt
    unfold QL; omega
  have lp := prim_len tp
  rw [one] at lp
  have b1 : bd (QL e U) (2 ^ 45) := by rw [← one]; exact bd_prim tp bp
  have up : ∀ {l : List Int}, Bits l 2000 → Bits l 90000 := fun h => h.mono (by omega)
  have bit1 := bits_of b1 (by decide)
  have b2 : bd (dr (QL e U)) (2 ^ 60) := (bd_dr b1).mono (Nat.le_trans (Nat.mul_le_mul_right _ lone) (by decide))
  have td : isT (dr (QL e U)) := dr_isT prmQ.t
  have ld := dr_len (QL e U)
  unfold r_square_free
  simp [size_line]
  refine ⟨p, rfl, by omega, fun p0 => divs_ok tp p0 (by rw [one]; exact bit1), by rw [one]; exact up bit1, ?_⟩
  rw [one]
  refine ⟨QL e U, rfl, by omega, up bit1, QL e U, dr (QL e U), GL e U, rfl, prmQ.t, td, .inl prmQ.ne, lone, by omega, b1.mono (by decide), b2, prm_GL e L.prm, ?_, ?_⟩
  · exact ((gcd_first e L.ok).congr (fun x => ev_QL e U x) fun x => drQ e U x) |> fun g => ⟨by obtain ⟨c, hc, u, hu, z⟩ := g.dl; exact ⟨c, hc, u, hu, fun x => by rw [z, ev_GL]⟩, by obtain ⟨c, hc, u, hu, z⟩ := g.dr; exact ⟨c, hc, u, hu, fun x => by rw [z, ev_GL]⟩, by obtain ⟨c, hc, u, v, hu, hv, z⟩ := g.bz; exact ⟨c, hc, u, v, hu, hv, fun x => by rw [ev_GL, z]⟩⟩
  have pG := prm_GL e L.prm
  refine ⟨QL e U, GL e U, AL e 1 U, rfl, prmQ.t, pG.t, pG.ne, (prm_AL e L.prm).t, by omega, by have := L.lenG; omega, fun x _ => by rw [ev_QL, ev_GL, ev_AL]; exact prod_GA e U x, bits_of L.bdG (by decide), bits_of (L.bdA (by decide)) (by decide), ?_⟩
  refine ⟨QL e U, rfl, by omega, up bit1, ?_⟩
  refine ⟨dr (QL e U), GL e U, trim (EL e 1 U), rfl, td, pG.t, pG.ne, trim_isT _, by omega, by have := L.lenG; omega, fun x _ => by rw [drQ, ev_GL, ev_trim, ev_EL], bits_of L.bdG (by decide), bits_of (L.bdE (by decide)) (by decide), ?_⟩
  simp
  intro a ha
  refine ⟨fun n δ M' => ∃ (m : Nat) (x y : Option D), n = 13 - m ∧ 1 ≤ m ∧ m ≤ 13 ∧ δ = [some (T p), some (T (QL e U)), some (T (GL e U)), some (T (AL e m U)), some (T (trim (EL e m U))), some (.ref a), some (.int (m : Nat)), x, y] ∧ M' a = some (.lst (partsN e U (m - 1))) ∧ Sub M M', ⟨12, 1, _, _, rfl, by decide, by decide, rfl, by simp [partsN], Sub.new ha⟩, ?_⟩
  rintro n δ M' ⟨m, x, y, rfl, m1, m13, rfl, hM, hS⟩
  simp
  obtain ⟨k, rfl⟩ : ∃ k, m = k + 1 := ⟨m - 1, by omega⟩
  rw [Nat.add_sub_cancel] at hM
  have pA := prm_AL e (m := k + 1) L.prm
  have pP := prm_PL e (m := k + 1) L.prm
  by_cases hl : 1 < (AL e (k + 1) U).length
  · have hl' : (1 : Int) < ((AL e (k + 1) U).length : Int) := by omega
    have m12 : k + 1 ≤ 12 := by
      have h1 : (U.filter fun f => decide (k + 1 ≤ e f)) ≠ [] := fun z => by
        unfold AL at hl
        rw [z] at hl
        simp [prodL] at hl
      obtain ⟨f, hf⟩ := List.exists_mem_of_ne_nil _ h1
      obtain ⟨h2, h3⟩ := List.mem_filter.mp hf
      have := e_le_wt e h2 (L.prm2 f h2).2
      have := L.wt
      have : k + 1 ≤ e f := by simpa using h3
      omega
    have lA := L.lenA (m := k + 1) m1
    have lE := L.lenE (m := k + 1) m1
    have lP := L.lenP (m := k + 1) m1
    have bA := L.bdA (m := k + 1) m1
    have lG := L.lenGap (m := k + 1) m1
    have ldA := dr_len (AL e (k + 1) U)
    have bdA' : Bits (dr (AL e (k + 1) U)) 90000 := Bits.of_bd ((bd_dr bA).mono (Nat.mul_le_mul_right _ lA)) (Nat.lt_of_lt_of_le (by decide : 13 * 2 ^ 48 < 2 ^ 60) (Nat.pow_le_pow_right (by decide) (by omega)))
    rw [if_pos hl']
    refine ⟨AL e (k + 1) U, rfl, by omega, up (bits_of bA (by decide)), ?_⟩
    refine ⟨trim (EL e (k + 1) U), dr (AL e (k + 1) U), rfl, by omega, by omega, bdA', ?_⟩
    show spCommon [T (AL e (k + 1) U), T (gapL e (k + 1) U)] M' _
    refine ⟨AL e (k + 1) U, gapL e (k + 1) U, PL e (k + 1) U, rfl, pA.t, trim_isT _, .inl pA.ne, lA, lG, bA.mono (by decide), L.bdGap m1, pP, L.gcd (k + 1), ?_⟩
    have lone' := prodL_one (l := U.filter fun f => decide (e f = k + 1)) fun f hf => L.prm2 f (List.mem_filter.mp hf).1
    have plen := List.length_pos_iff.mpr pP.ne
    have ex1 : ∀ (M2 : Mem) (RR : DK), RR (T (AL e (k + 2) U)) M2 → spExact [T (AL e (k + 1) U), T (PL e (k + 1) U)] M2 RR := fun M2 RR hr =>
      ⟨AL e (k + 1) U, PL e (k + 1) U, AL e (k + 2) U, rfl, pA.t, pP.t, pP.ne, (prm_AL e L.prm).t, by omega, by omega, fun x _ => by rw [ev_AL, ev_PL, ev_AL]; exact A_step e (k + 1) U x, bits_of (L.bdP m1) (by decide), bits_of (L.bdA (by omega)) (by decide), hr⟩
    have ex2 : ∀ (M2 : Mem) (RR : DK), RR (T (trim (EL e (k + 2) U))) M2 → spExact [T (gapL e (k + 1) U), T (PL e (k + 1) U)] M2 RR := fun M2 RR hr =>
      ⟨gapL e (k + 1) U, PL e (k + 1) U, trim (EL e (k + 2) U), rfl, trim_isT _, pP.t, pP.ne, trim_isT _, by omega, by omega, fun x _ => by rw [ev_gapL, ev_PL, ev_trim, ev_EL]; exact gap_eq e (k + 1) U x, bits_of (L.bdP m1) (by decide), bits_of (L.bdE (by omega)) (by decide), hr⟩
    have pl := parts_len e U k
    have psucc := parts_succ e U k
    simp
    by_cases hp : (U.filter fun f => decide (e f = k + 1)) = []
    · have hp1 : ¬ (1 : Int) < ((PL e (k + 1) U).length : Int) := by
        have : (PL e (k + 1) U).length = 1 := lone'.mpr hp
        omega
      rw [if_neg hp1]
      refine ex1 _ _ (ex2 _ _ ?_)
      have pf : partF e U k = none := by unfold partF; rw [if_pos hp]
      rw [pf] at psucc
      refine ⟨_, ?_, k + 2, rfl, by omega, by omega, ⟨rfl, rfl, by omega⟩, ?_, hS⟩
      · omega
      · simpa [psucc] using hM
    · have hp1 : (1 : Int) < ((PL e (k + 1) U).length : Int) := by
        have : (PL e (k + 1) U).length ≠ 1 := fun z => hp (lone'.mp z)
        omega
      rw [if_pos hp1, hM]
      simp
      refine ⟨by omega, ?_⟩
      refine ex1 _ _ (ex2 _ _ ?_)
      have pf : partF e U k = some (.tup [T (PL e (k + 1) U), .int ((k + 1 : Nat) : Int)]) := by unfold partF; rw [if_neg hp]
      rw [pf] at psucc
      refine ⟨_, ?_, k + 2, rfl, by omega, by omega, ⟨rfl, rfl, by omega⟩, ?_, hS.put ha⟩
      · omega
      · simp [psucc]
  · have hl' : ¬ (1 : Int) < ((AL e (k + 1) U).length : Int) := by omega
    rw [if_neg hl']
    have h1 : (U.filter fun f => decide (k + 1 ≤ e f)) = [] := by
      refine (prodL_one fun f hf => L.prm2 f (List.mem_filter.mp hf).1).mp ?_
      have := List.length_pos_iff.mpr pA.ne
      unfold AL at this hl
      omega
    have stop : ∀ i, k ≤ i → partF e U i = none := fun i hi => by
      unfold partF
      rw [if_pos]
      rw [List.filter_eq_nil_iff] at h1 ⊢
      intro f hf
      have := h1 f hf
      simp at this ⊢
      omega
    have ps := parts_stop stop (12 - k)
    rw [Nat.add_sub_cancel' (by omega)] at ps
    rw [hM]
    simp
    refine ⟨M, hS, M, Sub.refl M, ?_⟩
    rw [← ps]; exact h
end DD
end
section
namespace DD
open PySem PySem.Spec PyProof.Rows L2 PA
theorem frD_pos {a b : Int} (h : 0 < b) : frD a b = .tup [.int (lowN a b), .int (lowD a b)] := by
  unfold frD lowN lowD
  rw [if_neg (by omega)]
/-! ### the law's own gcd and fractions -/
def spGcd : DSp := fun ds M R => ∃ a b : Int, ds = [.int a, .int b] ∧ a.natAbs < 2 ^ 2900 ∧ b.natAbs < 2 ^ 2900 ∧ R (.int (Nat.gcd a.natAbs b.natAbs : Nat)) M
theorem k_l_gcd (ds : List D) (M : Mem) (R : DK) (h : spGcd ds M R) : r_l_gcd (endsF R) (startD N_l_gcd ds) M := by
  obtain ⟨a, b, rfl, ha, hb, h⟩ := h
  unfold r_l_gcd
  have e1 : (if a < 0 then -a else a) = ((a.natAbs : Nat) : Int) := by split <;> omega
  have e2 : (if b < 0 then -b else b) = ((b.natAbs : Nat) : Int) := by split <;> omega
  simp [size_line]
  rw [e1, e2]
  refine for_in (fun i δ M' => M' = M ∧ ∃ (u v : Nat) (x : Option D), δ = [some (.int u), some (.int v), x] ∧ Nat.gcd u v = Nat.gcd a.natAbs b.natAbs ∧ ((i = 0 ∧ u * v < 2 ^ 5800) ∨ (0 < i ∧ v ≤ u ∧ u * v * 2 ^ (i - 1) < 2 ^ 5800))) ?_ ?_ ?_ ?_
  · refine ⟨rfl, a.natAbs, b.natAbs, _, rfl, rfl, .inl ⟨rfl, ?_⟩⟩
    have : a.natAbs * b.natAbs ≤ a.natAbs * 2 ^ 2900 := Nat.mul_le_mul_left _ (Nat.le_of_lt hb)
    have h2 : a.natAbs * 2 ^ 2900 < 2 ^ 2900 * 2 ^ 2900 := Nat.mul_lt_mul_of_pos_right ha (Nat.pow_pos (by decide))
    rw [← Nat.pow_add] at h2
    exact Nat.lt_of_le_of_lt this h2
  · intros; trivial
  · rintro i d δ M' hd ⟨rfl, u, v, x, rfl, hg, hi⟩
    simp
    by_cases v0 : v = 0
    · subst v0
      refine ⟨M', Sub.refl M', ?_⟩
      rw [Nat.gcd_zero_right] at hg
      rw [hg]; exact h
    · simp [v0]
      have em : ((u : Int).fmod v) = ((u % v : Nat) : Int) := by rw [Int.fmod_eq_emod_of_nonneg _ (by omega)]; rfl
      rw [em]
      have hlt := Nat.mod_lt u (by omega : 0 < v)
      refine ⟨v, u % v, ⟨rfl, rfl⟩, ?_, ?_⟩
      · rw [← hg, Nat.gcd_comm u v, Nat.gcd_rec v u, Nat.gcd_comm]
      · refine ⟨by omega, ?_⟩
        rcases hi with ⟨rfl, hp⟩ | ⟨i0, hvu, hp⟩
        · rw [Nat.pow_zero, Nat.mul_one]
          have : v * (u % v) ≤ v * u := Nat.mul_le_mul_left _ (Nat.mod_le u v)
          rw [Nat.mul_comm v u] at this
          exact Nat.lt_of_le_of_lt this hp
        · have h2 : 2 * (u % v) ≤ u := by
            have e := Nat.div_add_mod u v
            have q1 : 1 ≤ u / v := Nat.div_pos hvu (by omega)
            have : v * 1 ≤ v * (u / v) := Nat.mul_le_mul_left _ q1
            omega
          have e : (2 : Nat) ^ (i + 1 - 1) = 2 * 2 ^ (i - 1) := by
            rw [show i + 1 - 1 = (i - 1) + 1 by omega, Nat.pow_succ, Nat.mul_comm]
          simp only [Nat.add_sub_cancel] at e ⊢
          rw [e]
          have h3 : v * (u % v) * (2 * 2 ^ (i - 1)) = (v * (2 * (u % v))) * 2 ^ (i - 1) := by
            rw [← Nat.mul_assoc, Nat.mul_assoc v, Nat.mul_comm (u % v) 2]
          rw [h3]
          refine Nat.lt_of_le_of_lt (Nat.mul_le_mul_right _ ?_) hp
          rw [Nat.mul_comm u v]
          exact Nat.mul_le_mul_left _ h2
  · rintro δ M' ⟨rfl, u, v, x, rfl, hg, hi⟩
    rw [rangeD_length] at hi
    simp
    have v0 : v = 0 := by
      rcases hi with ⟨z, _⟩ | ⟨_, hvu, hp⟩
      · simp at z
      · rcases Nat.eq_zero_or_pos v with z | z
        · exact z
        · exfalso
          have h1 : 1 * 1 ≤ u * v := Nat.mul_le_mul (by omega) z
          have h2 : 1 * 2 ^ (6000 - 1) ≤ u * v * 2 ^ (6000 - 1) := Nat.mul_le_mul_right _ (by omega)
          have h3 : (2 : Nat) ^ 5800 ≤ 2 ^ (6000 - 1) := Nat.pow_le_pow_right (by decide) (by decide)
          omega
    subst v0
    refine ⟨M', Sub.refl M', ?_⟩
    rw [Nat.gcd_zero_right] at hg
    rw [hg]; exact h
def spLfr : DSp := fun ds M R => ∃ a b : Int, ds = [.int a, .int b] ∧ 0 < b ∧ a.natAbs < 2 ^ 2900 ∧ b.natAbs < 2 ^ 2900 ∧ R (frD a b) M
theorem k_l_fr (ds : List D) (M : Mem) (R : DK) (h : spLfr ds M R) : r_l_fr spGcd (endsF R) (startD N_l_fr ds) M := by
  obtain ⟨a, b, rfl, b0, ha, hb, h⟩ := h
  have g0 : 0 < Nat.gcd a.natAbs b.natAbs := Nat.gcd_pos_of_pos_right _ (by omega)
  have gl : Nat.gcd a.natAbs b.natAbs ≤ b.natAbs := Nat.le_of_dvd (by omega) (Nat.gcd_dvd_right _ _)
  unfold r_l_fr
  rw [frD_pos b0] at h
  unfold lowN lowD at h
  simp [size_line]
  refine ⟨a, b, rfl, ha, hb, ?_⟩
  have d1 : ∀ i, DivOk i ((Nat.gcd a.natAbs b.natAbs : Nat) : Int) := fun i => div_ok 2900 (by omega) (by simpa using Nat.lt_of_le_of_lt gl hb) (by omega) (by omega)
  have b0' : ¬ b < 0 := by omega
  generalize Nat.gcd a.natAbs b.natAbs = g at *
  have gn : ¬ g = 0 := by omega
  simp [b0', gn, size_line, d1]
  exact ⟨M, Sub.refl M, h⟩
def spLmul : DSp := fun ds M R => ∃ a b c d : Int, ds = [.tup [.int a, .int b], .tup [.int c, .int d]] ∧ 0 < b ∧ 0 < d ∧ a.natAbs < 2 ^ 1400 ∧ b.natAbs < 2 ^ 1400 ∧ c.natAbs < 2 ^ 1400 ∧ d.natAbs < 2 ^ 1400 ∧ R (frD (a * c) (b * d)) M
theorem k_l_mul (ds : List D) (M : Mem) (R : DK) (h : spLmul ds M R) : r_l_mul spLfr (endsF R) (startD N_l_mul ds) M := by
  obtain ⟨a, b, c, d, rfl, hb, hd, ba, bb, bc, bd, h⟩ := h
  unfold r_l_mul
  have mo : ∀ {x y : Int}, x.natAbs < 2 ^ 1400 → y.natAbs < 2 ^ 1400 → MulOk x y := fun h1 h2 => mul_ok 1400 1400 h1 h2 (by omega) (by omega) (by omega)
  have up : ∀ {x : Int}, x.natAbs < 2 ^ (1400 + 1400) → x.natAbs < 2 ^ 2900 := fun h => Nat.lt_of_lt_of_le h (Nat.pow_le_pow_right (by decide) (by decide))
  have i0 : ∀ x y : D, atI [x, y] 0 = some x := fun _ _ => rfl
  have i1 : ∀ x y : D, atI [x, y] 1 = some y := fun _ _ => rfl
  simp [size_line, i0, i1]
  exact ⟨mo ba bc, mo bb bd, a * c, b * d, rfl, Int.mul_pos hb hd, up (mul_bits ba bc), up (mul_bits bb bd), M, Sub.refl M, h⟩
def spLadd : DSp := fun ds M R => ∃ a b c d : Int, ds = [.tup [.int a, .int b], .tup [.int c, .int d]] ∧ 0 < b ∧ 0 < d ∧ a.natAbs < 2 ^ 1400 ∧ b.natAbs < 2 ^ 1400 ∧ c.natAbs < 2 ^ 1400 ∧ d.natAbs < 2 ^ 1400 ∧ R (frD (a * d + c * b) (b * d)) M
theorem k_l_add (ds : List D) (M : Mem) (R : DK) (h : spLadd ds M R) : r_l_add spLfr (endsF R) (startD N_l_add ds) M := by
  obtain ⟨a, b, c, d, rfl, hb, hd, ba, bb, bc, bd, h⟩ := h
  unfold r_l_add
  have mo : ∀ {x y : Int}, x.natAbs < 2 ^ 1400 → y.natAbs < 2 ^ 1400 → MulOk x y := fun h1 h2 => mul_ok 1400 1400 h1 h2 (by omega) (by omega) (by omega)
  have up : ∀ {x : Int} {k : Nat}, k ≤ 2900 → x.natAbs < 2 ^ k → x.natAbs < 2 ^ 2900 := fun hk h => Nat.lt_of_lt_of_le h (Nat.pow_le_pow_right (by decide) hk)
  have i0 : ∀ x y : D, atI [x, y] 0 = some x := fun _ _ => rfl
  have i1 : ∀ x y : D, atI [x, y] 1 = some y := fun _ _ => rfl
  simp [size_line, i0, i1]
  exact ⟨mo ba bd, mo bc bb, mo bb bd, a * d + c * b, b * d, rfl, Int.mul_pos hb hd, up (by decide) (add_bits (mul_bits ba bd) (mul_bits bc bb)), up (by decide) (mul_bits bb bd), M, Sub.refl M, h⟩
end DD
end
section
namespace DD
open PySem PySem.Spec PyProof.Rows L2 PA
def fr (a b : Int) : D := .tup [.int a, .int b]
def spScv : DSp := fun ds M R => ∃ p a b, ds = [T p, fr a b] ∧ 0 < b ∧ p.length ≤ 13 ∧ Bits p 60 ∧ a.natAbs < 2 ^ 40 ∧ b.natAbs < 2 ^ 40 ∧ R (fr (hA a b p) (b ^ (p.length - 1))) M
theorem hA_cons (a b c : Int) (p : List Int) : hA a b (c :: p) = hA a b p * a + c * b ^ p.length := rfl
theorem drop_step {p : List Int} {i : Nat} {c : Int} (h : p.reverse[i]? = some c) : i < p.length ∧ p.drop (p.length - (i + 1)) = c :: p.drop (p.length - i) := by
  have hi : i < p.length := by have := (List.getElem?_eq_some_iff.mp h).1; simpa using this
  refine ⟨hi, ?_⟩
  rw [List.getElem?_reverse hi, List.getElem?_eq_getElem (by omega)] at h
  have e := List.drop_eq_getElem_cons (l := p) (i := p.length - (i + 1)) (by omega)
  rw [e]
  congr 1
  · have := Option.some.inj h
    rw [← this]
    congr 1
    omega
  · congr 1; omega
theorem k_scaled_value (ds : List D) (M : Mem) (R : DK) (h : spScv ds M R) : r_scaled_value (endsF R) (startD N_scaled_value ds) M := by
  obtain ⟨p, a, b, rfl, b0, hp, bp, ba, bb, h⟩ := h
  have i0 : ∀ x y : D, atI [x, y] 0 = some x := fun _ _ => rfl
  have i1 : ∀ x y : D, atI [x, y] 1 = some y := fun _ _ => rfl
  unfold r_scaled_value
  simp [size_line]
  refine for_in (fun i δ M' => M' = M ∧ ∃ x, δ = [some (T p), some (fr a b), some (.int (hA a b (p.drop (p.length - i)))), some (.int (b ^ i)), x]) ?_ ?_ ?_ ?_
  · refine ⟨rfl, none, ?_⟩
    rw [Nat.sub_zero, List.drop_length, Int.pow_zero]; rfl
  · intros; trivial
  · rintro i d δ M' hd ⟨rfl, x, rfl⟩
    rw [← List.map_reverse, List.getElem?_map] at hd
    cases hc : p.reverse[i]? with
    | none => rw [hc] at hd; cases hd
    | some c =>
      rw [hc] at hd
      cases hd
      obtain ⟨hi, e⟩ := drop_step hc
      have hcp : c ∈ p := List.mem_reverse.mp (List.mem_of_getElem? hc)
      have bd := hA_bits ba bb (p := p.drop (p.length - i)) fun d hd => bp d (List.mem_of_mem_drop hd)
      have ld : (p.drop (p.length - i)).length = i := by rw [List.length_drop]; omega
      rw [ld] at bd
      have bpow := pow_bits bb i
      rw [e]
      unfold fr
      simp [i0, i1]
      refine ⟨mul_ok 3000 40 (Nat.lt_of_lt_of_le bd (Nat.pow_le_pow_right (by decide) (by omega))) ba (by omega) (by omega) (by omega),
        mul_ok 60 3000 (bp c hcp) (Nat.lt_of_lt_of_le bpow (Nat.pow_le_pow_right (by decide) (by omega))) (by omega) (by omega) (by omega),
        mul_ok 3000 40 (Nat.lt_of_lt_of_le bpow (Nat.pow_le_pow_right (by decide) (by omega))) bb (by omega) (by omega) (by omega), ?_⟩
      rw [hA_cons, ld, Int.pow_succ]
      exact ⟨rfl, rfl⟩
  · rintro δ M' ⟨rfl, x, rfl⟩
    rw [List.length_reverse, List.length_map, Nat.sub_self, List.drop_zero]
    unfold fr at h ⊢
    simp [i0, i1]
    cases p with
    | nil =>
      simp [truD, size_line] at h ⊢
      exact ⟨M', Sub.refl M', h⟩
    | cons c p =>
      have d : (b ^ (p.length + 1)).fdiv b = b ^ p.length := by rw [Int.pow_succ]; exact Int.mul_fdiv_cancel _ (by omega)
      simp [truD, size_line, d] at h ⊢
      exact ⟨div_ok 40 (by omega) bb (by omega) (by omega), M', Sub.refl M', h⟩
def spVal : DSp := fun ds M R => ∃ p a b, ds = [T p, fr a b] ∧ 0 < b ∧ p.length ≤ 13 ∧ Bits p 60 ∧ a.natAbs < 2 ^ 40 ∧ b.natAbs < 2 ^ 40 ∧ R (frD (hA a b p) (b ^ (p.length - 1))) M
theorem k_value_at (ds : List D) (M : Mem) (R : DK) (h : spVal ds M R) : r_value_at spScv spFrac (endsF R) (startD N_value_at ds) M := by
  obtain ⟨p, a, b, rfl, b0, hp, bp, ba, bb, h⟩ := h
  unfold r_value_at
  simp [size_line]
  refine ⟨p, a, b, rfl, b0, hp, bp, ba, bb, ?_⟩
  unfold fr
  simp
  have := pow_bits bb (p.length - 1)
  refine ⟨hA a b p, b ^ (p.length - 1), rfl, ?_, Nat.lt_of_lt_of_le this (Nat.pow_le_pow_right (by decide) (by omega)), M, Sub.refl M, h⟩
  have q : 0 < b ^ (p.length - 1) := Int.pow_pos b0
  omega
def spLat : DSp := spVal
theorem k_l_poly_at (ds : List D) (M : Mem) (R : DK) (h : spLat ds M R) : r_l_poly_at spLadd spLmul (endsF R) (startD N_l_poly_at ds) M := by
  obtain ⟨p, a, b, rfl, b0, hp, bp, ba, bb, h⟩ := h
  unfold r_l_poly_at
  simp [size_line]
  refine for_in (fun i δ M' => M' = M ∧ ∃ x, δ = [some (T p), some (fr a b), some (frD (hA a b (p.drop (p.length - i))) (b ^ (i - 1))), x]) ?_ ?_ ?_ ?_
  · refine ⟨rfl, none, ?_⟩
    rw [Nat.sub_zero, List.drop_length]
    have : frD (hA a b []) (b ^ (0 - 1)) = .tup [.int 0, .int 1] := by
      rw [Nat.zero_sub, Int.pow_zero]
      show frD 0 1 = _
      rfl
    rw [this]
  · intros; trivial
  · rintro i d δ M' hd ⟨rfl, x, rfl⟩
    rw [← List.map_reverse, List.getElem?_map] at hd
    cases hc : p.reverse[i]? with
    | none => rw [hc] at hd; cases hd
    | some c =>
      rw [hc] at hd
      cases hd
      obtain ⟨hi, e⟩ := drop_step hc
      have hcp : c ∈ p := List.mem_reverse.mp (List.mem_of_getElem? hc)
      have bd := hA_bits ba bb (p := p.drop (p.length - i)) fun d hd => bp d (List.mem_of_mem_drop hd)
      have ld : (p.drop (p.length - i)).length = i := by rw [List.length_drop]; omega
      rw [ld] at bd
      have hz : i = 0 → hA a b (p.drop (p.length - i)) = 0 := fun z => by
        have : p.drop (p.length - i) = [] := List.length_eq_zero_iff.mp (by omega)
        rw [this]; rfl
      rw [e]
      have hcons : hA a b (c :: p.drop (p.length - i)) = hA a b (p.drop (p.length - i)) * a + c * b ^ i := by
        show _ * _ + _ * _ ^ (p.drop (p.length - i)).length = _
        rw [ld]
      rw [hcons]
      generalize hA a b (p.drop (p.length - i)) = n at *
      have bpow := pow_bits bb (i - 1)
      have dpos : 0 < b ^ (i - 1) := Int.pow_pos b0
      have ipos : 0 < b ^ i := Int.pow_pos b0
      generalize hd : b ^ (i - 1) = dd at *
      have hdi : i ≠ 0 → b ^ i = dd * b := fun z => by rw [← hd, ← Int.pow_succ]; congr 1; omega
      obtain ⟨l1, l2, l3, l4⟩ := low_ok (n := n) dpos
      rw [frD_pos dpos]
      have up : ∀ {x : Int} {k : Nat}, k ≤ 1400 → x.natAbs < 2 ^ k → x.natAbs < 2 ^ 1400 := fun hk h => Nat.lt_of_lt_of_le h (Nat.pow_le_pow_right (by decide) hk)
      unfold fr
      simp [size_line]
      have m1 := Nat.lt_of_le_of_lt l3 bd
      have m2 := Nat.lt_of_le_of_lt l4 bpow
      refine ⟨lowN n dd, lowD n dd, a, b, rfl, l1, b0, up (by omega) m1, up (by omega) m2, up (by omega) ba, up (by omega) bb, ?_⟩
      have p1 : 0 < lowD n dd * b := Int.mul_pos l1 b0
      obtain ⟨k1, k2, k3, k4⟩ := low_ok (n := lowN n dd * a) p1
      rw [frD_pos p1]
      have q1 := Nat.lt_of_le_of_lt k3 (mul_bits m1 ba)
      have q2 := Nat.lt_of_le_of_lt k4 (mul_bits m2 bb)
      refine ⟨_, _, c, 1, rfl, k1, by decide, up (by omega) q1, up (by omega) q2, up (by omega) (bp c hcp), up (by decide : 1 ≤ 1400) (by decide), ?_⟩
      generalize hN : lowN (lowN n dd * a) (lowD n dd * b) = N at *
      generalize hD : lowD (lowN n dd * a) (lowD n dd * b) = DD at *
      have p2 : 0 < DD * 1 := by omega
      rw [frD_pos p2, frD_pos ipos]
      have key : (N * 1 + c * DD) * b ^ i = (n * a + c * b ^ i) * (DD * 1) := by
        have kk : N * b ^ i = n * a * DD := by
          by_cases i0 : i = 0
          · have n0 := hz i0
            subst i0
            rw [n0] at l2 k2 ⊢
            have ln : lowN 0 dd = 0 := by
              rcases Int.mul_eq_zero.mp (l2.trans (Int.zero_mul _)) with z | z
              · exact z
              · omega
            rw [ln] at k2
            have : N * (lowD 0 dd * b) = 0 := by rw [k2]; simp
            rcases Int.mul_eq_zero.mp this with z | z
            · rw [z]; simp
            · rw [n0] at p1; omega
          · rw [hdi i0]
            refine Int.eq_of_mul_eq_mul_left (by omega : lowD n dd ≠ 0) ?_
            grind
        grind
      obtain ⟨f1, f2⟩ := low_eq p2 ipos key
      rw [f1, f2]
      exact ⟨rfl, rfl⟩
  · rintro δ M' ⟨rfl, x, rfl⟩
    rw [List.length_reverse, List.length_map, Nat.sub_self, List.drop_zero]
    simp
    exact ⟨M', Sub.refl M', h⟩
end DD
end
section
namespace DD
open PySem PySem.Spec PyProof.Rows L2 PA
def spLpm : DSp := fun ds M R => ∃ p q, ds = [T p, T q] ∧ isT p ∧ isT q ∧ p.length ≤ 100 ∧ q.length ≤ 100 ∧ Bits p 1000 ∧ Bits q 1000 ∧ R (T (pm p q)) M
theorem at_T {p : List Int} {i : Nat} (h : i < p.length) : atI (p.map D.int) (i : Int) = some (.int (p.getD i 0)) := atI_nat (by omega) (by
  rw [Int.toNat_natCast, List.getElem?_map, List.getD_eq_getElem?_getD, List.getElem?_eq_getElem h]; rfl)
theorem zerosD (n : Nat) : (rangeD 0 n).map (fun _ => D.int 0) = (List.replicate n (0 : Int)).map D.int := by
  apply List.ext_getElem?
  intro k
  simp [rangeD, List.getElem?_range, List.getElem?_replicate]
  by_cases h : k < n <;> simp [h]
theorem k_l_poly_mul (ds : List D) (M : Mem) (R : DK) (h : spLpm ds M R) : r_l_poly_mul (endsF R) (startD N_l_poly_mul ds) M := by
  obtain ⟨p, q, rfl, tp, tq, hp, hq, bp, bq, h⟩ := h
  unfold r_l_poly_mul
  by_cases p0 : p = []
  · subst p0
    rw [pm_nil_left] at h
    simp [size_line]
    exact ⟨M, Sub.refl M, h⟩
  by_cases q0 : q = []
  · subst q0
    rw [pm_nil_right] at h
    simp [size_line]
    exact ⟨M, Sub.refl M, h⟩
  have pl := List.length_pos_iff.mpr p0
  have ql := List.length_pos_iff.mpr q0
  simp [size_line, p0, q0]
  refine ⟨⟨by omega, by omega⟩, ?_⟩
  refine lc_map (fun _ => .int 0) (by rw [rangeD_length, size_line]; omega) ?_ ?_ ?_
  · intros; trivial
  · intro x u acc RY hx hu hr
    simp [wipeD]
    exact hr
  · intro a ha
    rw [zerosD]
    have en : ((p.length : Int) + q.length).toNat - 1 = p.length + q.length - 1 := by omega
    rw [en]
    refine ⟨by omega, ?_⟩
    refine for_in (fun i δ M' => ∃ out x y, δ = [some (T p), some (T q), some (.ref a), none, x, y] ∧ M' = updM M a (.lst (out.map D.int)) ∧ out.length + 1 = p.length + q.length ∧ ∀ x : Int, ev out x = ev (p.take i) x * ev q x) ?_ ?_ ?_ ?_
    · refine ⟨_, none, none, rfl, rfl, by rw [List.length_replicate]; omega, fun x => ?_⟩
      rw [ev_zeros fun a ha => (List.mem_replicate.mp ha).2]; simp [ev]
    · intros; trivial
    · rintro i d δ M' hd ⟨out, x, y, rfl, rfl, lo, eo⟩
      obtain ⟨hi, rfl⟩ := range_at hd
      have ei : (0 : Int) + (i : Int) = i := by omega
      rw [ei]
      simp
      refine ⟨by omega, ?_⟩
      refine for_in (fun j δ M' => ∃ out y, δ = [some (T p), some (T q), some (.ref a), none, some (.int (i : Nat)), y] ∧ M' = updM M a (.lst (out.map D.int)) ∧ out.length + 1 = p.length + q.length ∧ ∀ x : Int, ev out x = ev (p.take i) x * ev q x + p.getD i 0 * x ^ i * ev (q.take j) x) ?_ ?_ ?_ ?_
      · exact ⟨out, _, rfl, rfl, lo, fun x => by rw [eo]; simp [ev]⟩
      · intros; trivial
      · rintro j d δ M2 hd ⟨o2, y, rfl, rfl, l2, e2⟩
        obtain ⟨hj, rfl⟩ := range_at hd
        have ej : (0 : Int) + (j : Int) = j := by omega
        rw [ej]
        have hij : i + j < o2.length := by omega
        have at1 := at_T (p := o2) (i := i + j) hij
        have at2 := at_T hi
        have at3 := at_T hj
        have ix : ixN o2.length ((i : Int) + j) = some (i + j) := by rw [ixN_nat (by omega) (by omega)]; congr 1
        have cst : ((i + j : Nat) : Int) = (i : Int) + j := by omega
        rw [cst] at at1
        have hev := ev_set o2 (i + j) (p.getD i 0 * q.getD j 0)
        have b1 := bp.getD i
        have b2 := bq.getD j
        have tk := take_ev q j
        generalize p.getD i 0 = pi at *
        generalize q.getD j 0 = qj at *
        generalize o2.getD (i + j) 0 = oo at *
        simp [at1, at2, at3, ix]
        refine ⟨mul_ok 1000 1000 b1 b2 (by omega) (by omega) (by omega), o2.set (i + j) (oo + pi * qj), ?_, by simpa using l2, fun x => ?_⟩
        · rw [updM_upd, List.map_set]
        · rw [hev x hij, e2, tk]
          have : x ^ (i + j) = x ^ i * x ^ j := Int.pow_add x i j
          rw [this]
          grind
      · rintro δ M2 ⟨o2, y, rfl, rfl, l2, e2⟩
        rw [rangeD_length, List.take_length] at e2
        refine ⟨⟨_, _, rfl⟩, o2, rfl, l2, fun x => ?_⟩
        rw [e2, take_ev p i]; grind
    · rintro δ M' ⟨out, x, y, rfl, rfl, lo, eo⟩
      rw [rangeD_length, List.take_length] at eo
      simp
      refine ⟨M, Sub.new ha, M, Sub.refl M, ?_⟩
      have e1 : out = mulL p q := ev_inj_len (by have := mulL_len p0 q0; omega) fun x _ => by rw [eo, ev_mulL]
      rw [pm_eq tp tq p0 q0, ← e1] at h
      exact h
end DD
end
section
namespace DD
open PySem PySem.Spec PyProof.Rows L2 PA
theorem k_l_trim (ds : List D) (M : Mem) (R : DK) (h : spTrimmed ds M R) : r_l_trim (endsF R) (startD N_l_trim ds) M := by
  obtain ⟨a, ns, M0, rfl, ha, hl, hM, h⟩ := h
  unfold r_l_trim
  simp [size_line, ha]
  intro b hb
  have hba : b ≠ a := fun e => by rw [e, ha] at hb; cases hb
  refine ⟨by omega, ?_⟩
  have fin : ∀ k, k ≤ ns.length → (∀ j, k ≤ j → ns.getD j 0 = 0) → (k = 0 ∨ ns.getD (k - 1) 0 ≠ 0) → ns.take k = trim ns := fun k h0 h1 h2 => trim_take h0 h1 h2
  have hN : Sub M0 (updM M b (.lst (ns.map D.int))) := hM.put (hM.un hb)
  refine for_in (fun i δ M' => i ≤ ns.length ∧ ∃ x, δ = [some (.ref a), some (.ref b), x] ∧ M' = updM M b (.lst ((ns.take (ns.length - i)).map D.int)) ∧ ∀ j, ns.length - i ≤ j → ns.getD j 0 = 0) ?_ ?_ ?_ ?_
  · exact ⟨Nat.zero_le _, _, rfl, by rw [Nat.sub_zero, List.take_length], fun j hj => by simp [List.getD_eq_getElem?_getD, List.getElem?_eq_none (by omega : ns.length ≤ j)]⟩
  · intros; trivial
  · rintro i d δ M' hd ⟨hi, x, rfl, rfl, hz⟩
    obtain ⟨hi2, rfl⟩ := range_at hd
    have lt : (ns.take (ns.length - i)).length = ns.length - i := by rw [List.length_take]; omega
    have n0 : ns.take (ns.length - i) ≠ [] := fun z => by rw [z] at lt; simp at lt; omega
    have la := last_at n0
    have lD : (ns.take (ns.length - i)).getLastD 0 = ns.getD (ns.length - i - 1) 0 := by
      rw [lastD n0, List.getLast_eq_getElem, List.getElem_take, List.getD_eq_getElem?_getD, List.getElem?_eq_getElem (by omega)]
      simp only [lt, Option.getD_some]
    rw [lD, List.map_take] at la
    by_cases hc : ns.getD (ns.length - i - 1) 0 = 0
    · rw [hc] at la
      have pe : ∃ y, (List.take (ns.length - i) (ns.map D.int))[ns.length - i - 1]? = some y := ⟨_, List.getElem?_eq_getElem (by rw [List.length_take, List.length_map]; omega)⟩
      obtain ⟨y, hy⟩ := pe
      simp [la]
      rw [hy]
      refine ⟨by omega, ?_, fun j hj => ?_⟩
      · rw [updM_upd]
        congr 1
        rw [List.dropLast_eq_take, List.take_take, List.length_take, List.length_map]
        congr 2
        omega
      · have hq : ns.getD j 0 = 0 := by
          by_cases e : j = ns.length - i - 1
          · rw [e]; exact hc
          · exact hz j (by omega)
        simpa [List.getD_eq_getElem?_getD] using hq
    · have f := fin (ns.length - i) (by omega) hz (.inr hc)
      generalize ns.getD (ns.length - i - 1) 0 = u at *
      simp [la, hc]
      refine ⟨M0, hM.put (hM.un hb), M0, Sub.refl M0, ?_⟩
      rw [← List.map_take, f]; exact h
  · rintro δ M' ⟨hi, x, rfl, rfl, hz⟩
    rw [rangeD_length, Nat.sub_self] at hz ⊢
    have f := fin 0 (by omega) hz (.inl rfl)
    simp
    refine ⟨M0, hM.put (hM.un hb), M0, Sub.refl M0, ?_⟩
    rw [List.take_zero] at f
    rw [← f] at h; exact h

def spLcont : DSp := fun ds M R => ∃ p, ds = [T p] ∧ p.length ≤ 1000 ∧ Bits p 2900 ∧ R (.int (cont p)) M
theorem k_l_content (ds : List D) (M : Mem) (R : DK) (h : spLcont ds M R) : r_l_content spGcd (endsF R) (startD N_l_content ds) M := by
  obtain ⟨ns, rfl, hl, hb, h⟩ := h
  unfold r_l_content
  simp [size_line]
  refine for_in (fun i δ M' => M' = M ∧ cont (ns.take i) < 2 ^ 2900 ∧ ∃ x, δ = [some (T ns), some (.int (cont (ns.take i))), x]) ?_ ?_ ?_ ?_
  · exact ⟨rfl, Nat.pow_pos (by decide), _, rfl⟩
  · simp
  · rintro i x δ M' hx ⟨rfl, hc, y, rfl⟩
    simp at hx
    obtain ⟨c, hy, rfl⟩ := hx
    have e := cont_take ns i c hy
    have bc := hb c (List.mem_of_getElem? hy)
    rw [e]
    simp
    refine ⟨_, _, rfl, by simpa using hc, bc, ?_⟩
    rw [Int.natAbs_natCast]
    refine ⟨rfl, ?_, rfl⟩
    by_cases z : c.natAbs = 0
    · rw [z, Nat.gcd_zero_right]; exact hc
    · exact Nat.lt_of_le_of_lt (Nat.le_of_dvd (by omega) (Nat.gcd_dvd_right _ _)) bc
  · rintro δ M' ⟨rfl, hc, y, rfl⟩
    simp
    exact ⟨M', Sub.refl M', h⟩
def spLprim : DSp := fun ds M R => ∃ p, ds = [T p] ∧ isT p ∧ p.length ≤ 1000 ∧ Bits p 2900 ∧ R (T (primL p)) M
theorem k_l_primitive (ds : List D) (M : Mem) (R : DK) (h : spLprim ds M R) : r_l_primitive spLcont (endsF R) (startD N_l_primitive ds) M := by
  obtain ⟨p, rfl, tp, hl, hb, h⟩ := h
  unfold r_l_primitive
  by_cases p0 : p = []
  · subst p0
    rw [prim_nil] at h
    simp [size_line]
    exact ⟨M, Sub.refl M, h⟩
  obtain ⟨pr, c, hc, hcc, e⟩ := prim_ok tp p0
  have la := last_at p0
  have ll : p.getLastD 0 = (primL p).getLast pr.ne * c := by
    rw [lastD p0]
    have h2 : (primL p).map (fun a => a * c) ≠ [] := by rw [← e]; exact p0
    have h3 : p.getLast p0 = ((primL p).map fun a => a * c).getLast h2 := by congr
    rw [h3, map_last _ pr.ne]
  have hby : (if p.getLastD 0 < 0 then (0 : Int) - ((cont p : Nat) : Int) else ((cont p : Nat) : Int)) = c := by
    have := pr.pos
    rw [ll]
    rcases Int.lt_trichotomy c 0 with z | z | z
    · rw [if_pos (Int.mul_neg_of_pos_of_neg this z)]; omega
    · exact absurd z hc
    · have := Int.mul_pos this z
      rw [if_neg (by omega)]; omega
  have cb : c.natAbs < 2 ^ 2900 := by
    have m : (primL p).getLast pr.ne * c ∈ p := by
      rw [← ll, lastD p0]; exact List.getLast_mem _
    have := hb _ m
    rw [Int.natAbs_mul] at this
    have h2 : 1 * c.natAbs ≤ ((primL p).getLast pr.ne).natAbs * c.natAbs := Nat.mul_le_mul_right _ (by have := pr.pos; omega)
    omega
  have fin : ∀ q, M q = none → R (.tup ((p.map D.int).map fun d => match d with | .int x => .int (x.fdiv c) | d => d)) M := fun q hq => by
    have e1 : (p.map D.int).map (fun d => match d with | .int x => .int (x.fdiv c) | d => d) = (primL p).map D.int := by
      rw [List.map_map]
      have : p.map ((fun d => match d with | D.int x => D.int (x.fdiv c) | d => d) ∘ D.int) = p.map fun x => D.int (x.fdiv c) := rfl
      rw [this, congrArg (List.map fun x : Int => D.int (x.fdiv c)) e, List.map_map]
      refine (List.map_congr_left fun a _ => ?_)
      show D.int ((a * c).fdiv c) = D.int a
      rw [Int.mul_fdiv_cancel _ hc]
    rw [e1]; exact h
  simp [size_line, p0]
  refine ⟨p, rfl, hl, hb, ?_⟩
  simp only [la]
  generalize p.getLastD 0 = u at *
  by_cases hu : u < 0
  · rw [if_pos hu] at hby
    have hby' : -((cont p : Nat) : Int) = c := by omega
    simp [hu]
    rw [hby']
    refine lc_map (fun d => match d with | .int x => .int (x.fdiv c) | d => d) (by rw [List.length_map, size_line]; omega) ?_ ?_ ?_
    · intros; trivial
    · intro x q acc RY hx hq hr
      obtain ⟨d, hd, rfl⟩ := List.mem_map.mp hx
      simp [wipeD]
      exact ⟨div_ok 2900 hc cb (by omega) (by omega), hr⟩
    · intro q hq
      simp only [eq_gTuple, items_ref, updM_same]
      exact ⟨M, Sub.new hq, M, Sub.refl M, fin q hq⟩
  · rw [if_neg hu] at hby
    simp [hu]
    rw [hby]
    refine lc_map (fun d => match d with | .int x => .int (x.fdiv c) | d => d) (by rw [List.length_map, size_line]; omega) ?_ ?_ ?_
    · intros; trivial
    · intro x q acc RY hx hq hr
      obtain ⟨d, hd, rfl⟩ := List.mem_map.mp hx
      simp [wipeD]
      exact ⟨div_ok 2900 hc cb (by omega) (by omega), hr⟩
    · intro q hq
      simp only [eq_gTuple, items_ref, updM_same]
      exact ⟨M, Sub.new hq, M, Sub.refl M, fin q hq⟩
end DD
end
section
namespace DD
open PySem PySem.Spec PyProof.Rows L2 PA
/-! ### sum, power, moved -/
def spLsum : DSp := fun ds M R => ∃ p q, ds = [T p, T q] ∧ p.length ≤ 100 ∧ q.length ≤ 100 ∧ R (T (trim (addL p q))) M
theorem k_l_poly_sum (ds : List D) (M : Mem) (R : DK) (h : spLsum ds M R) : r_l_poly_sum spTrimmed (endsF R) (startD N_l_poly_sum ds) M := by
  obtain ⟨p, q, rfl, hp, hq, h⟩ := h
  unfold r_l_poly_sum
  simp [size_line]
  have e : (if p.length < q.length then (q.length : Int) else (p.length : Int)) = ((max p.length q.length : Nat) : Int) := by split <;> omega
  rw [e]
  refine ⟨⟨by omega, by omega⟩, ?_⟩
  refine lc_map (fun _ => .int 0) (by rw [rangeD_length, size_line]; omega) ?_ ?_ ?_
  · intros; trivial
  · intro x u acc RY hx hu hr
    simp [wipeD]
    exact hr
  · intro a ha
    rw [zerosD, Int.toNat_natCast]
    generalize hn : max p.length q.length = n at *
    simp
    refine ⟨by omega, ?_⟩
    refine for_in (fun i δ M' => ∃ out x, δ = [some (T p), some (T q), some (.ref a), x] ∧ M' = updM M a (.lst (out.map D.int)) ∧ out.length = n ∧ ∀ x : Int, ev out x = ev (p.take i) x) ?_ ?_ ?_ ?_
    · refine ⟨List.replicate n 0, none, rfl, by simp, by simp, fun x => ?_⟩
      rw [ev_zeros fun a ha => (List.mem_replicate.mp ha).2]; simp [ev]
    · intros; trivial
    · rintro i d δ M' hd ⟨out, x, rfl, rfl, lo, eo⟩
      obtain ⟨hi, rfl⟩ := range_at hd
      have ei : (0 : Int) + (i : Int) = i := by omega
      rw [ei]
      have hio : i < out.length := by omega
      have at1 := at_T hio
      have at2 := at_T hi
      have ix : ixN out.length (i : Int) = some i := ixN_nat (by omega) (by omega)
      have hev := ev_set out i (p.getD i 0)
      have tk := take_ev p i
      generalize p.getD i 0 = pi at *
      generalize out.getD i 0 = oo at *
      simp [at1, at2, ix]
      refine ⟨out.set i (oo + pi), ?_, by simpa using lo, fun x => ?_⟩
      · rw [updM_upd, List.map_set]
      · rw [hev x hio, eo, tk]
    · rintro δ M' ⟨out, x, rfl, rfl, lo, eo⟩
      rw [rangeD_length, List.take_length] at eo
      simp
      refine ⟨by omega, ?_⟩
      refine for_in (fun i δ M' => ∃ out x, δ = [some (T p), some (T q), some (.ref a), x] ∧ M' = updM M a (.lst (out.map D.int)) ∧ out.length = n ∧ ∀ x : Int, ev out x = ev p x + ev (q.take i) x) ?_ ?_ ?_ ?_
      · exact ⟨out, _, rfl, rfl, lo, fun x => by rw [eo]; simp [ev]⟩
      · intros; trivial
      · rintro i d δ M' hd ⟨o2, x, rfl, rfl, l2, e2⟩
        obtain ⟨hi, rfl⟩ := range_at hd
        have ei : (0 : Int) + (i : Int) = i := by omega
        rw [ei]
        have hio : i < o2.length := by omega
        have at1 := at_T hio
        have at2 := at_T hi
        have ix : ixN o2.length (i : Int) = some i := ixN_nat (by omega) (by omega)
        have hev := ev_set o2 i (q.getD i 0)
        have tk := take_ev q i
        generalize q.getD i 0 = pi at *
        generalize o2.getD i 0 = oo at *
        simp [at1, at2, ix]
        refine ⟨o2.set i (oo + pi), ?_, by simpa using l2, fun x => ?_⟩
        · rw [updM_upd, List.map_set]
        · rw [hev x hio, e2, tk]; omega
      · rintro δ M' ⟨o2, x, rfl, rfl, l2, e2⟩
        rw [rangeD_length, List.take_length] at e2
        simp
        have e1 : o2 = addL p q := ev_inj_len (by rw [addL_len]; omega) fun x _ => by rw [e2, ev_addL]
        refine ⟨a, o2, M, rfl, updM_same, by omega, Sub.new ha, M, Sub.refl M, ?_⟩
        rw [e1]; exact h
def spLpow : DSp := fun ds M R => ∃ (p : List Int) (n : Nat), ds = [T p, .int n] ∧ Prm p ∧ Sm p ∧ p.length ≤ 13 ∧ n ≤ 12 ∧ (p.length - 1) * n ≤ 24 ∧ R (T (prodL (List.replicate n p))) M
theorem rep_pm {p : List Int} (hp : Prm p) (n : Nat) : pm (prodL (List.replicate n p)) p = prodL (List.replicate (n + 1) p) := by
  have h : ∀ n, Prm (prodL (List.replicate n p)) := fun n => prm_prodL fun f hf => by rw [(List.mem_replicate.mp hf).2]; exact hp
  refine ev_inj (pm_isT _ _) (h _).t fun x _ => ?_
  rw [ev_pm, List.replicate_succ, ev_prodL_cons]; grind
theorem sum_rep (p : List Int) : ∀ n : Nat, ((List.replicate n p).map fun f => f.length - 1).sum = n * (p.length - 1)
  | 0 => by simp
  | n + 1 => by rw [List.replicate_succ, List.map_cons, List.sum_cons, sum_rep p n, Nat.succ_mul]; omega
theorem pow_facts {p : List Int} {n : Nat} (hp : Prm p) (hs : Sm p) (h : (p.length - 1) * n ≤ 24) : Prm (prodL (List.replicate n p)) ∧ (prodL (List.replicate n p)).length ≤ 25 ∧ Bits (prodL (List.replicate n p)) 97 := by
  have pr : Prm (prodL (List.replicate n p)) := prm_prodL fun f hf => by rw [(List.mem_replicate.mp hf).2]; exact hp
  have l := prodL_len (l := List.replicate n p) fun f hf => by rw [(List.mem_replicate.mp hf).2]; exact ⟨hp, hs.1⟩
  have b := n1_prodL (l := List.replicate n p) fun f hf => by rw [(List.mem_replicate.mp hf).2]; exact hs
  rw [sum_rep] at l b
  rw [Nat.mul_comm] at h
  refine ⟨pr, by omega, Bits.of_bd (bd_n1 _) (Nat.lt_of_le_of_lt b (Nat.lt_of_le_of_lt (Nat.pow_le_pow_right (by decide) (by omega : 4 * (n * (p.length - 1)) ≤ 96)) (by decide)))⟩
theorem k_l_poly_power (ds : List D) (M : Mem) (R : DK) (h : spLpow ds M R) : r_l_poly_power spLpm (endsF R) (startD N_l_poly_power ds) M := by
  obtain ⟨p, n, rfl, hp, hs, hl, hn, hw, h⟩ := h
  unfold r_l_poly_power
  simp [size_line]
  refine ⟨by omega, ?_⟩
  refine for_in (fun i δ M' => M' = M ∧ ∃ x, δ = [some (T p), some (.int n), some (T (prodL (List.replicate i p))), x]) ?_ ?_ ?_ ?_
  · exact ⟨rfl, _, rfl⟩
  · intros; trivial
  · rintro i d δ M' hd ⟨rfl, x, rfl⟩
    obtain ⟨hi, rfl⟩ := range_at hd
    have hw' : (p.length - 1) * i ≤ 24 := Nat.le_trans (Nat.mul_le_mul_left _ (by omega)) hw
    obtain ⟨f1, f2, f3⟩ := pow_facts hp hs hw'
    have f4 := (pow_facts (n := 1) hp hs (by omega)).2.2
    have e1 : prodL (List.replicate 1 p) = p := by
      refine ev_inj (prm_prodL fun f hf => by rw [(List.mem_replicate.mp hf).2]; exact hp).t hp.t fun x _ => ?_
      rw [show List.replicate 1 p = [p] from rfl, ev_prodL_cons]
      show _ * ev [1] x = _
      rw [ev_one]; omega
    rw [e1] at f4
    simp
    refine ⟨_, p, rfl, f1.t, hp.t, by omega, by omega, f3.mono (by omega), f4.mono (by omega), ?_⟩
    rw [rep_pm hp i]
    exact ⟨rfl, rfl⟩
  · rintro δ M' ⟨rfl, x, rfl⟩
    rw [rangeD_length]
    simp
    exact ⟨M', Sub.refl M', h⟩
def movL (k : Int) : List Int → List Int
  | [] => []
  | c :: p => trim (addL (pm (movL k p) [k, 1]) [c])
theorem mov_n1 {k : Int} (hk : k.natAbs ≤ 2) : ∀ {p : List Int}, (∀ c ∈ p, c.natAbs ≤ 100) → n1 (movL k p) ≤ 100 * 4 ^ p.length
  | [], _ => by simp [movL, n1]
  | c :: p, h => by
    have ih := mov_n1 hk fun d hd => h d (List.mem_cons_of_mem _ hd)
    have hc := h c List.mem_cons_self
    show n1 (trim _) ≤ 100 * 4 ^ (p.length + 1)
    rw [n1_trim]
    refine Nat.le_trans (n1_addL _ _) ?_
    have h1 := n1_pm (movL k p) [k, 1]
    have h2 : n1 [k, 1] ≤ 3 := by simp [n1]; omega
    have h3 : n1 (movL k p) * n1 [k, 1] ≤ 100 * 4 ^ p.length * 3 := Nat.mul_le_mul ih h2
    have h4 : n1 [c] = c.natAbs := by simp [n1]
    have h5 : 1 ≤ 4 ^ p.length := Nat.pow_pos (by decide)
    rw [Nat.pow_succ]
    omega
theorem mov_len {k : Int} : ∀ p : List Int, (movL k p).length ≤ p.length
  | [] => Nat.le_refl _
  | c :: p => by
    have ih := mov_len (k := k) p
    have h1 := trim_len (addL (pm (movL k p) [k, 1]) [c])
    have h2 := pm_le (movL k p) [k, 1]
    rw [addL_len] at h1
    show (trim _).length ≤ p.length + 1
    have : ([k, 1] : List Int).length = 2 := rfl
    have : ([c] : List Int).length = 1 := rfl
    rcases h2 with h2 | h2
    · omega
    · rw [h2] at h1 ⊢; simp only [List.length_nil, List.length_singleton] at h1; omega
theorem mov_isT {k : Int} : ∀ p : List Int, isT (movL k p)
  | [] => isT_nil
  | c :: p => trim_isT _
def spLmov : DSp := fun ds M R => ∃ p k, ds = [T p, .int k] ∧ p.length ≤ 10 ∧ k.natAbs ≤ 2 ∧ (∀ c ∈ p, c.natAbs ≤ 100) ∧ R (T (movL k p)) M
theorem k_l_moved (ds : List D) (M : Mem) (R : DK) (h : spLmov ds M R) : r_l_moved spLsum spLpm (endsF R) (startD N_l_moved ds) M := by
  obtain ⟨p, k, rfl, hp, hk, hc, h⟩ := h
  unfold r_l_moved
  simp [size_line]
  refine for_in (fun i δ M' => M' = M ∧ ∃ x, δ = [some (T p), some (.int k), some (T (movL k (p.drop (p.length - i)))), x]) ?_ ?_ ?_ ?_
  · refine ⟨rfl, none, ?_⟩
    rw [Nat.sub_zero, List.drop_length]; rfl
  · intros; trivial
  · rintro i d δ M' hd ⟨rfl, x, rfl⟩
    rw [← List.map_reverse, List.getElem?_map] at hd
    cases hcc : p.reverse[i]? with
    | none => rw [hcc] at hd; cases hd
    | some c =>
      rw [hcc] at hd
      cases hd
      obtain ⟨hi, e⟩ := drop_step hcc
      have n := mov_n1 hk (p := p.drop (p.length - i)) fun d hd => hc d (List.mem_of_mem_drop hd)
      have l := mov_len (k := k) (p.drop (p.length - i))
      have ld : (p.drop (p.length - i)).length = i := by rw [List.length_drop]; omega
      have t := mov_isT (k := k) (p.drop (p.length - i))
      rw [ld] at n l
      rw [e]
      have n2 : n1 (movL k (p.drop (p.length - i))) < 2 ^ 1000 := Nat.lt_of_le_of_lt (Nat.le_trans n (Nat.mul_le_mul_left _ (Nat.pow_le_pow_right (by decide) (by omega : i ≤ 10)))) (by decide +kernel)
      simp [size_line]
      refine ⟨_, [k, 1], rfl, t, fun _ => by simp, by omega, by simp, Bits.of_bd (bd_n1 _) n2, ?_, _, [c], rfl, ?_, by simp, rfl, rfl⟩
      · refine Bits.of_bd (bd_n1 _) ?_
        have : n1 [k, 1] ≤ 3 := by simp [n1]; omega
        exact Nat.lt_of_le_of_lt this (by decide +kernel)
      · have h2 := pm_le (movL k (p.drop (p.length - i))) [k, 1]
        have : ([k, 1] : List Int).length = 2 := rfl
        rcases h2 with h2 | h2
        · omega
        · rw [h2]; simp
  · rintro δ M' ⟨rfl, x, rfl⟩
    rw [List.length_reverse, List.length_map, Nat.sub_self, List.drop_zero]
    simp
    exact ⟨M', Sub.refl M', h⟩
end DD
end
section
namespace DD
open PySem PySem.Spec PyProof.Rows L2 PA
theorem Sub.hide (M : Mem) (p : Addr) : Sub (hideM M p) M := fun a o h => by
  unfold hideM at h
  split at h
  · cases h
  · exact h
theorem SameBut.hide {b g p : Addr} {o : MO} {M M' : Mem} (h : SameBut b g (updM M p o) M') (hp : M p = none) : SameBut b g M (hideM M' p) := fun a h1 h2 => by
  by_cases e : a = p
  · rw [e, hide_none, hp]
  · rw [hide_ne e, h a h1 h2, updM_ne e]
/-! ### a factor -/
def SOME1 : List (List Int) := [[-2, 0, 1], [-3, 0, 1], [1, 0, 1], [1, 1, 1], [-1, -1, 1], [-2, 0, 0, 1], [-1, -1, 0, 1], [1, 0, 0, 0, 1], [1, 0, -10, 0, 1]]
def SOME2 : List (List Int) := [[1, 0, -1, 0, 1], [1, 1, 1, 1, 1], [2, 2, 0, 0, 3], [-2, 0, 0, 0, 1], [-1, 0, 2], [3, 1, 2]]
theorem fac_moved : ((SOME1 ++ SOME2).all fun s => [-2, -1, 0, 1, 2].all fun k => decide (primL (movL k s) ∈ FAC)) = true := by decide +kernel
theorem fac_linear : ([1, 2, 3, 4, 5].all fun b : Int => (List.range 21).all fun a => decide ((a : Int) - 10 = 0) || decide (primL [0 - ((a : Int) - 10), b] ∈ FAC)) = true := by decide +kernel
theorem fac_zero : [0, 1] ∈ FAC := by decide +kernel
theorem some_small : ((SOME1 ++ SOME2).all fun s => decide (s.length ≤ 10) && s.all fun c => decide (c.natAbs ≤ 100)) = true := by decide +kernel
def spFactor : DSp := fun ds M R => ∃ (b g c : Addr) (N : Nat), ds = [.ref b] ∧ Bag M b g c N ∧ N ≤ 2 ^ 39 ∧ ∀ (f : List Int) (M' : Mem), f ∈ FAC → Bag M' b g c (N + 10) → SameBut b g M M' → R (T f) M'
theorem k_l_factor (ds : List D) (M : Mem) (R : DK) (h : spFactor ds M R) : r_l_factor spDraw spLprim spLmov spPick (endsF R) (startD N_l_factor ds) M := by
  obtain ⟨b, g, c, N, rfl, hb, hN, h⟩ := h
  unfold r_l_factor
  simp [size_line]
  intro p1 hp1 p2 hp2
  have q2 := updM_none (M := M) (q := p1) hp2
  simp [q2.1.symm]
  intro p3 hp3
  have q3 := updM_none (q := p2) (show updM (updM M p1 _) p2 _ p3 = none from hp3)
  have q4 := updM_none q3.2
  have n1 := hb.ne hp1
  have n2 := hb.ne q2.2
  have n3 := hb.ne q4.2
  have fin : ∀ (o1 o2 o3 : MO) (f : List Int) (M5 : Mem) (k : Nat), k ≤ 10 → f ∈ FAC → Bag M5 b g c (N + k) → SameBut b g (updM (updM (updM M p1 o1) p2 o2) p3 o3) M5 → ∃ M0, Sub M0 M5 ∧ R (T f) M0 := fun o1 o2 o3 f M5 k hk hf hB hS => by
    refine ⟨hideM (hideM (hideM M5 p3) p2) p1, fun a o z => Sub.hide _ _ _ _ (Sub.hide _ _ _ _ (Sub.hide _ _ _ _ z)), h f _ hf ?_ ?_⟩
    · exact (((hB.mono (by omega)).hide n3.1.symm n3.2.1.symm n3.2.2.symm).hide n2.1.symm n2.2.1.symm n2.2.2.symm).hide n1.1.symm n1.2.1.symm n1.2.2.symm
    · have s1 := hS.hide (by rw [updM_ne q3.1, updM_ne q4.1]; exact q4.2)
      have s2 := s1.hide (by rw [updM_ne q2.1]; exact q2.2)
      exact s2.hide hp1
  refine Bag.draw (((hb.new hp1).new (by rw [updM_ne q2.1]; exact q2.2)).new (by rw [updM_ne q3.1, updM_ne q4.1]; exact q4.2)) (by omega) (by decide) (by decide) fun x M4 x0 x1 B4 S4 => ?_
  simp
  by_cases hx : x = 0
  · simp [hx]
    refine Bag.draw B4 (by omega) (by decide) (by decide) fun y M5 y0 y1 B5 S5 => ?_
    simp
    refine Bag.draw B5 (by omega) (by decide) (by decide) fun z M6 z0 z1 B6 S6 => ?_
    simp
    have SS := (S4.trans S5).trans S6
    by_cases hz : z - 10 = 0
    · simp [hz]
      exact fin _ _ _ [0, 1] M6 3 (by omega) fac_zero B6 SS
    · simp [hz]
      have fl := List.all_eq_true.mp (List.all_eq_true.mp fac_linear (1 + y) (by
        have : y = 0 ∨ y = 1 ∨ y = 2 ∨ y = 3 ∨ y = 4 := by omega
        rcases this with rfl | rfl | rfl | rfl | rfl <;> decide)) z.toNat (List.mem_range.mpr (by omega))
      have ez : ((z.toNat : Nat) : Int) = z := by omega
      rw [ez] at fl
      simp [hz] at fl
      have hs : ∀ u : Int, u.natAbs ≤ 40 → u.natAbs < 2 ^ 2900 := fun u hu => Nat.lt_of_le_of_lt hu (by decide +kernel)
      refine ⟨[-(z - 10), 1 + y], rfl, fun _ => by simp; omega, by simp, fun u hu => ?_, fin _ _ _ _ M6 3 (by omega) fl B6 SS⟩
      refine hs u ?_
      simp at hu
      rcases hu with rfl | rfl <;> omega
  · simp [hx]
    have e3 := (S4 p3 n3.1 n3.2.1).trans updM_same
    refine ⟨b, g, c, p3, N + 1, (SOME1 ++ SOME2).map T, rfl, B4, by omega, e3, by decide, by decide, n3.1, n3.2.1, n3.2.2, fun x M5 hx5 B5 S5 => ?_⟩
    obtain ⟨s, hs, rfl⟩ := List.mem_map.mp hx5
    refine Bag.draw B5 (by omega) (by decide) (by decide) fun z M6 z0 z1 B6 S6 => ?_
    simp
    have SS := (S4.trans S5).trans S6
    have sm := List.all_eq_true.mp some_small s hs
    simp only [Bool.and_eq_true, decide_eq_true_eq, List.all_eq_true] at sm
    have fm := List.all_eq_true.mp (List.all_eq_true.mp fac_moved s hs) (z - 2) (by
      have : z = 0 ∨ z = 1 ∨ z = 2 ∨ z = 3 ∨ z = 4 := by omega
      rcases this with rfl | rfl | rfl | rfl | rfl <;> decide)
    have fm' := of_decide_eq_true fm
    have n := mov_n1 (k := z - 2) (by omega) sm.2
    have l := mov_len (k := z - 2) s
    refine ⟨s, z - 2, rfl, sm.1, by omega, sm.2, ?_⟩
    have bb : PA.n1 (movL (z - 2) s) < 2 ^ 2900 := Nat.lt_of_le_of_lt (Nat.le_trans n (Nat.mul_le_mul_left _ (Nat.pow_le_pow_right (by decide) sm.1))) (by decide +kernel)
    exact ⟨movL (z - 2) s, rfl, mov_isT s, by omega, Bits.of_bd (bd_n1 _) bb, fin _ _ _ _ M6 3 (by omega) fm' B6 SS⟩
end DD
end
section
namespace DD
open PySem PySem.Spec PyProof.Rows L2 PA
/-! ### lists of numbers compared -/
theorem pyds_ints : ∀ f : List Int, pyds (f.map D.int) = some (f.map PyData.int)
  | [] => rfl
  | a :: f => by
    have ih := pyds_ints f
    show (match pyd (D.int a), pyds (f.map D.int) with
      | some x, some xs => some (x :: xs)
      | _, _ => none) = _
    rw [ih]; rfl
theorem lay_ints : ∀ f : List Int, PyData.canLayAll0 (f.map PyData.int) = true ∧ PyData.depthAll (f.map PyData.int) ≤ 1
  | [] => ⟨by simp [PyData.canLayAll0], by simp [PyData.depthAll]⟩
  | a :: f => by
    obtain ⟨h1, h2⟩ := lay_ints f
    refine ⟨?_, ?_⟩
    · simp [PyData.canLayAll0, PyData.canLay0, h1]
    · simp [PyData.depthAll, PyData.depth] at h2 ⊢; omega
theorem eqv_ints : ∀ f g : List Int, PyData.eqvAll (f.map PyData.int) (g.map PyData.int) = decide (f = g)
  | [], [] => by simp [PyData.eqvAll]
  | [], b :: g => by simp [PyData.eqvAll]
  | a :: f, [] => by simp [PyData.eqvAll]
  | a :: f, b :: g => by
    have ih := eqv_ints f g
    simp only [List.map_cons, PyData.eqvAll, PyData.eqv, ih]
    by_cases h1 : a = b <;> by_cases h2 : f = g <;> simp [h1, h2]
def PT (f : List Int) : PyData := .tuple (f.map PyData.int)
theorem pyd_T (f : List Int) : pyd (T f) = some (PT f) := by
  show (pyds (f.map D.int)).map PyData.tuple = _
  rw [pyds_ints]; rfl
theorem lay_T (f : List Int) : (PT f).canLay0 = true ∧ (PT f).depth ≤ 2 := by
  obtain ⟨h1, h2⟩ := lay_ints f
  refine ⟨?_, ?_⟩
  · simp [PT, PyData.canLay0, h1]
  · simp [PT, PyData.depth]; omega
theorem shaped_T (f : List Int) : SeqAt.shaped (PT f) = true := by
  obtain ⟨h1, h2⟩ := lay_T f
  unfold SeqAt.shaped
  simp [h1]; omega
theorem eqv_T (f g : List Int) : PyData.eqv (PT f) (PT g) = decide (f = g) := by
  unfold PT
  rw [PyData.eqv, eqv_ints]
theorem gEq_T {f g : List Int} {M : Mem} {R : DK} (h : R (.bl (decide (f = g))) M) : gEq (T f) (T g) M R := by
  show (match pyd (T f), pyd (T g) with
    | some a, some b => SeqAt.shaped a = true ∧ SeqAt.shaped b = true ∧ R (.bl (PyData.eqv a b)) M
    | _, _ => False)
  rw [pyd_T, pyd_T]
  exact ⟨shaped_T f, shaped_T g, by rw [eqv_T]; exact h⟩
theorem pyds_T : ∀ gs : List (List Int), pyds (gs.map T) = some (gs.map PT) ∧ PyData.canLayAll0 (gs.map PT) = true ∧ PyData.depthAll (gs.map PT) ≤ 2
  | [] => ⟨rfl, by simp [PyData.canLayAll0], by simp [PyData.depthAll]⟩
  | g :: gs => by
    obtain ⟨h1, h2, h3⟩ := pyds_T gs
    obtain ⟨k1, k2⟩ := lay_T g
    refine ⟨?_, ?_, ?_⟩
    · show (match pyd (T g), pyds (gs.map T) with
        | some x, some xs => some (x :: xs)
        | _, _ => none) = _
      rw [h1, pyd_T]; rfl
    · simp [PyData.canLayAll0, k1, h2]
    · simp [PyData.depthAll]; omega
theorem notIn_T {f : List Int} {gs : List (List Int)} {M : Mem} {R : DK} {a : Addr} (ha : M a = some (.lst (gs.map T))) (h : R (.bl (!decide (f ∈ gs))) M) : gNotIn (T f) (.ref a) M R := by
  obtain ⟨h1, h2, h3⟩ := pyds_T gs
  show (match pyd (T f), (match M a with
      | some (.lst xs) => (pyds xs).map PyData.list
      | _ => none) with
    | some a, some (.list bs) => SeqAt.shaped a = true ∧ SeqAt.shaped (.list bs) = true ∧ R (.bl (!bs.any fun z => PyData.eqv z a)) M
    | _, _ => False)
  rw [ha, pyd_T]
  simp only
  rw [h1]
  refine ⟨shaped_T f, ?_, ?_⟩
  · unfold SeqAt.shaped
    simp [PyData.canLay0, PyData.depth, h2]; omega
  · have e : ((gs.map PT).any fun z => PyData.eqv z (PT f)) = decide (f ∈ gs) := by
      rw [List.any_map, Bool.eq_iff_iff, List.any_eq_true, decide_eq_true_eq]
      constructor
      · rintro ⟨x, hx, h⟩
        have h' : PyData.eqv (PT x) (PT f) = true := h
        rw [eqv_T, decide_eq_true_eq] at h'
        rw [← h']; exact hx
      · intro hf
        refine ⟨f, hf, ?_⟩
        show PyData.eqv (PT f) (PT f) = true
        rw [eqv_T]; simp
    rw [e]; exact h
/-! ### memory that only grows, but for the bag -/
def SubBut (b g : Addr) (M M' : Mem) : Prop := ∀ a o, a ≠ b → a ≠ g → M a = some o → M' a = some o
theorem SubBut.refl {b g : Addr} (M : Mem) : SubBut b g M M := fun _ _ _ _ h => h
theorem SubBut.trans {b g : Addr} {M M1 M2 : Mem} (h : SubBut b g M M1) (k : SubBut b g M1 M2) : SubBut b g M M2 := fun a o h1 h2 h3 => k a o h1 h2 (h a o h1 h2 h3)
theorem SubBut.of_sub {b g : Addr} {M M1 : Mem} (h : Sub M M1) : SubBut b g M M1 := fun a o _ _ z => h a o z
theorem SubBut.of_same {b g : Addr} {M M1 : Mem} (h : SameBut b g M M1) : SubBut b g M M1 := fun a o h1 h2 z => by rw [h a h1 h2]; exact z
theorem SubBut.none {b g p : Addr} {M M1 : Mem} (h : SubBut b g M M1) (hb : p ≠ b) (hg : p ≠ g) (hp : M1 p = none) : M p = none := by
  cases e : M p with
  | none => rfl
  | some o => have := h p o hb hg e; rw [hp] at this; cases this
def keepM (b g : Addr) (M M' : Mem) : Mem := fun a => if a = b ∨ a = g then M' a else M a
theorem keep_sub {b g : Addr} {M M' : Mem} (h : SubBut b g M M') : Sub (keepM b g M M') M' := fun a o z => by
  unfold keepM at z
  split at z
  · exact z
  · rename_i hn
    exact h a o (fun e => hn (.inl e)) (fun e => hn (.inr e)) z
theorem keep_same {b g : Addr} {M M' : Mem} : SameBut b g M (keepM b g M M') := fun a h1 h2 => by
  unfold keepM
  rw [if_neg (by rintro (e | e); exact h1 e; exact h2 e)]
theorem Bag.c_ne {M : Mem} {b g c : Addr} {N : Nat} (h : Bag M b g c N) : ∃ o, M c = some o := by
  cases e : M c with
  | some o => exact ⟨o, rfl⟩
  | none => exact absurd rfl (h.ne e).2.2
theorem keep_bag {b g c : Addr} {M M' : Mem} {N N' : Nat} (h0 : Bag M b g c N) (h1 : Bag M' b g c N') (h : SubBut b g M M') : Bag (keepM b g M M') b g c N' := by
  refine h1.frame (by unfold keepM; simp) (by unfold keepM; simp) ?_
  unfold keepM
  split
  · rfl
  · rename_i hn
    obtain ⟨o, ho⟩ := h0.c_ne
    rw [ho, h c o (fun e => hn (.inl e)) (fun e => hn (.inr e)) ho]
end DD
end
section
namespace DD
open PySem PySem.Spec PyProof.Rows L2 PA
abbrev Row := List Int × Nat
def rowD (r : Row) : D := .tup [T r.1, .int (r.2 : Nat)]
def wtR (rows : List Row) : Nat := (rows.map fun r => (r.1.length - 1) * r.2).sum
structure RowsOk (rows : List Row) : Prop where
  nd : (rows.map fun r => r.1).Nodup
  fac : ∀ r ∈ rows, r.1 ∈ FAC
  pos : ∀ r ∈ rows, 1 ≤ r.2
theorem rows_add {rows : List Row} (h : RowsOk rows) {f : List Int} {e : Nat} (hf : f ∈ FAC) (he : 1 ≤ e) (hn : f ∉ rows.map fun r => r.1) : RowsOk (rows ++ [(f, e)]) := by
  refine ⟨?_, fun r hr => ?_, fun r hr => ?_⟩
  · rw [List.map_append, List.nodup_append]
    refine ⟨h.nd, by simp, fun a ha b hb => ?_⟩
    simp at hb
    rintro rfl
    exact hn (by rw [← hb]; exact ha)
  · rcases List.mem_append.mp hr with hr | hr
    · exact h.fac r hr
    · rw [List.mem_singleton.mp hr]; exact hf
  · rcases List.mem_append.mp hr with hr | hr
    · exact h.pos r hr
    · rw [List.mem_singleton.mp hr]; exact he
theorem wt_add (rows : List Row) (f : List Int) (e : Nat) : wtR (rows ++ [(f, e)]) = wtR rows + (f.length - 1) * e := by simp [wtR]
theorem row_firsts (rows : List Row) : (rows.map rowD).map (fun d => match d with | .tup (x :: _) => x | d => d) = (rows.map fun r => r.1).map T := by
  rw [List.map_map, List.map_map]; rfl
def spLots : DSp := fun ds M R => ∃ (b g c : Addr) (N most : Nat), ds = [.ref b, .int (most : Nat)] ∧ Bag M b g c N ∧ N ≤ 2 ^ 38 ∧ most ≤ 12 ∧
  ∀ (rows : List Row) (p : Addr) (M' : Mem), RowsOk rows → wtR rows ≤ most → rows.length ≤ 4 → M p = none → Bag M' b g c (N + 100) → SameBut b g (updM M p (.lst (rows.map rowD))) M' → R (.ref p) M'
theorem k_l_factors_of (ds : List D) (M : Mem) (R : DK) (h : spLots ds M R) : r_l_factors_of spDraw spFactor spPick (endsF R) (startD N_l_factors_of ds) M := by
  obtain ⟨b, g, c, N, most, rfl, hb, hN, hm, h⟩ := h
  unfold r_l_factors_of
  simp [size_line]
  intro p hp
  have np := hb.ne hp
  refine Bag.draw (hb.new hp) (by omega) (by decide) (by decide) fun t M1 t0 t1 B1 S1 => ?_
  simp
  refine ⟨⟨by omega, by omega⟩, ?_⟩
  have s1 : SubBut b g M M1 := (SubBut.of_sub (Sub.new hp)).trans (SubBut.of_same S1)
  have p1 : M1 p = some (.lst []) := (S1 p np.1 np.2.1).trans updM_same
  refine for_in (fun i δ M' => ∃ (rows : List Row) (x y z w : Option D), δ = [some (.ref b), some (.int (most : Nat)), some (.ref p), some (.int (wtR rows : Nat)), x, y, z, w] ∧ RowsOk rows ∧ wtR rows ≤ most ∧ rows.length ≤ i ∧ M' p = some (.lst (rows.map rowD)) ∧ Bag M' b g c (N + 1 + 12 * i) ∧ SubBut b g M M') ?_ ?_ ?_ ?_
  · exact ⟨[], none, none, none, none, rfl, ⟨by simp, by simp, by simp⟩, Nat.zero_le _, Nat.le_refl _, p1, B1, s1⟩
  · intros; trivial
  · rintro i d δ M' hd ⟨rows, x, y, z, w, rfl, ro, rw_, rl, hM, hB, hS⟩
    obtain ⟨hi, rfl⟩ := range_at hd
    have hi4 : i < 4 := by omega
    simp
    refine ⟨b, g, c, _, rfl, hB, by omega, fun f M2 hf B2 S2 => ?_⟩
    simp only [size_line]
    refine ⟨by decide, fun u hu => ?_⟩
    refine Bag.pick B2 (by omega) hu (by simp) (by simp) fun x M3 hx B3 S3 => ?_
    obtain ⟨e, rfl, e1, e5⟩ : ∃ e : Nat, x = .int (e : Nat) ∧ 1 ≤ e ∧ e ≤ 5 := by
      simp at hx
      rcases hx with rfl | rfl | rfl | rfl
      · exact ⟨1, rfl, by omega, by omega⟩
      · exact ⟨2, rfl, by omega, by omega⟩
      · exact ⟨3, rfl, by omega, by omega⟩
      · exact ⟨5, rfl, by omega, by omega⟩
    have fs := FAC_sm hf
    have l2 := fs.1.1
    have l5 := fs.2
    have M2p : M2 p = some (.lst (rows.map rowD)) := (S2 p np.1 np.2.1).trans hM
    have hup : u ≠ p := fun z => by rw [z, M2p] at hu; cases hu
    have M3p : M3 p = some (.lst (rows.map rowD)) := (S3 p np.1 np.2.1).trans (by rw [updM_ne hup.symm]; exact M2p)
    have s3 : SubBut b g M M3 := (hS.trans (SubBut.of_same S2)).trans ((SubBut.of_sub (Sub.new hu)).trans (SubBut.of_same S3))
    have ew : ((f.length : Int) - 1) * (e : Nat) = (((f.length - 1) * e : Nat) : Int) := by
      have : ((f.length : Int) - 1) = ((f.length - 1 : Nat) : Int) := by omega
      rw [this]; simp
    have mo : MulOk ((f.length : Int) - 1) (e : Nat) := mul_ok 10 10 (by omega) (by omega) (by omega) (by omega) (by omega)
    simp
    rw [ew]
    have e0 : ((wtR rows : Nat) : Int) + (((f.length - 1) * e : Nat) : Int) = ((wtR rows + (f.length - 1) * e : Nat) : Int) := by omega
    rw [e0]
    refine ⟨mo, ?_⟩
    have next : ∀ M5 : Mem, M5 p = some (.lst (rows.map rowD)) → Bag M5 b g c (N + 1 + 12 * i + 10 + 1) → SubBut b g M M5 → ∃ rows_1, ((wtR rows : Nat) : Int) = ((wtR rows_1 : Nat) : Int) ∧ RowsOk rows_1 ∧ wtR rows_1 ≤ most ∧ rows_1.length ≤ i + 1 ∧ M5 p = some (MO.lst (List.map rowD rows_1)) ∧ Bag M5 b g c (N + 1 + 12 * (i + 1)) ∧ SubBut b g M M5 :=
      fun M5 h1 h2 h3 => ⟨rows, rfl, ro, rw_, by omega, h1, h2.mono (by omega), h3⟩
    by_cases hle : wtR rows + (f.length - 1) * e ≤ most
    · rw [if_pos (by omega), M3p]
      refine lc_map (fun d => match d with | .tup (x :: _) => x | d => d) (by rw [List.length_map, size_line]; omega) ?_ ?_ ?_
      · intro v acc hv
        have := ne_none hv M3p
        simp [this, M3p]
      · intro x v acc RY hx hv hr
        obtain ⟨r, hr2, rfl⟩ := List.mem_map.mp hx
        have i0 : ∀ x y : D, atI [x, y] 0 = some x := fun _ _ => rfl
        unfold rowD at hr ⊢
        simp [wipeD, i0]
        exact hr
      · intro v hv
        have hvp : v ≠ p := fun z => by rw [z, M3p] at hv; cases hv
        rw [row_firsts]
        refine notIn_T updM_same ?_
        have M5p : updM M3 v (.lst ((rows.map fun r => r.1).map T)) p = some (.lst (rows.map rowD)) := by rw [updM_ne hvp.symm]; exact M3p
        have B5 : Bag (updM M3 v (.lst ((rows.map fun r => r.1).map T))) b g c (N + 1 + 12 * i + 10 + 1) := B3.new hv
        have s5 : SubBut b g M (updM M3 v (.lst ((rows.map fun r => r.1).map T))) := s3.trans (SubBut.of_sub (Sub.new hv))
        generalize updM M3 v (.lst ((rows.map fun r => r.1).map T)) = M5 at *
        by_cases hn : f ∈ rows.map fun r => r.1
        · simp only [hn, decide_true, Bool.not_true, Bool.false_eq_true, if_false]
          exact next M5 M5p B5 s5
        · simp only [hn, decide_false, Bool.not_false, if_true]
          rw [M5p]
          have rl2 : (rows.map rowD).length = rows.length := List.length_map _
          refine ⟨trivial, by rw [rl2]; omega, mo, rows ++ [(f, e)], by rw [wt_add], rows_add ro hf e1 hn, by rw [wt_add]; exact hle, by simp; omega, by simp [rowD], (B5.upd np.1 np.2.1 np.2.2).mono (by omega), ?_⟩
          intro a o h1 h2 z
          by_cases ea : a = p
          · rw [ea, hp] at z; cases z
          · rw [updM_ne ea]; exact s5 a o h1 h2 z
    · rw [if_neg (by omega)]
      exact next M3 M3p B3 s3
  · rintro δ M' ⟨rows, x, y, z, w, rfl, ro, rw_, rl, hM, hB, hS⟩
    rw [rangeD_length] at rl hB
    simp
    have hq : SubBut b g (updM M p (.lst (rows.map rowD))) M' := fun a o h1 h2 z => by
      by_cases e : a = p
      · rw [e, updM_same] at z; rw [e, hM]; exact z
      · rw [updM_ne e] at z; exact hS a o h1 h2 z
    exact ⟨_, keep_sub hq, h rows p _ ro rw_ (by omega) hp (keep_bag (hb.new hp) (hB.mono (by omega)) hq) keep_same⟩
end DD
end
section
namespace DD
open PySem PySem.Spec PyProof.Rows L2 PA
/-! ### products over rows -/
def repF (rows : List Row) : List (List Int) := rows.flatMap fun r => List.replicate r.2 r.1
theorem repF_fac {rows : List Row} (h : RowsOk rows) : ∀ f ∈ repF rows, f ∈ FAC := fun f hf => by
  obtain ⟨r, hr, hf⟩ := List.mem_flatMap.mp hf
  rw [(List.mem_replicate.mp hf).2]; exact h.fac r hr
theorem fac_prm {f : List Int} (h : f ∈ FAC) : Prm f ∧ 2 ≤ f.length := ⟨(FAC_UOk.fac f h).prm, (FAC_UOk.fac f h).len⟩
theorem repF_sum : ∀ rows : List Row, ((repF rows).map fun f => f.length - 1).sum = wtR rows
  | [] => rfl
  | r :: rows => by
    have ih := repF_sum rows
    show ((List.replicate r.2 r.1 ++ repF rows).map fun f => f.length - 1).sum = (r.1.length - 1) * r.2 + wtR rows
    rw [sum_reps 0, ih, Nat.mul_comm]
theorem rows_take {rows : List Row} (h : RowsOk rows) (i : Nat) : RowsOk (rows.take i) :=
  ⟨by rw [List.map_take]; exact h.nd.sublist (List.take_sublist _ _), fun r hr => h.fac r (List.mem_of_mem_take hr), fun r hr => h.pos r (List.mem_of_mem_take hr)⟩
theorem wt_take (rows : List Row) (i : Nat) : wtR (rows.take i) ≤ wtR rows := by
  have : wtR rows = wtR (rows.take i) + wtR (rows.drop i) := by
    unfold wtR
    rw [← List.sum_append, ← List.map_append, List.take_append_drop]
  omega
theorem prod_facts {l : List (List Int)} (h : ∀ f ∈ l, f ∈ FAC) {w : Nat} (hw : (l.map fun f => f.length - 1).sum = w) (h12 : w ≤ 12) : Prm (prodL l) ∧ (prodL l).length = 1 + w ∧ bd (prodL l) (2 ^ 48) := by
  refine ⟨prm_prodL fun f hf => (fac_prm (h f hf)).1, ?_, ?_⟩
  · rw [prodL_len fun f hf => fac_prm (h f hf), hw]
  · have := n1_prodL fun f hf => (FAC_sm (h f hf)).1
    rw [hw] at this
    exact (bd_n1 _).mono (pow48 this h12)
def prodR (n : Int) (rows : List Row) : List Int := (prodL (repF rows)).map fun c => c * n
theorem repF_step {rows : List Row} {i : Nat} {r : Row} (h : rows[i]? = some r) : repF (rows.take (i + 1)) = repF (rows.take i) ++ List.replicate r.2 r.1 := by
  unfold repF
  rw [List.take_add_one, h]
  simp
theorem ev_prodL_append : ∀ (a b : List (List Int)) (x : Int), ev (prodL (a ++ b)) x = ev (prodL a) x * ev (prodL b) x
  | [], b, x => by show ev (prodL b) x = ev [1] x * ev (prodL b) x; rw [ev_one]; omega
  | f :: a, b, x => by
    rw [List.cons_append, ev_prodL_cons, ev_prodL_cons, ev_prodL_append a b x]; grind
def spProd : DSp := fun ds M R => ∃ (a : Addr) (rows : List Row) (n : Int), ds = [.ref a, .int n] ∧ M a = some (.lst (rows.map rowD)) ∧ RowsOk rows ∧ wtR rows ≤ 12 ∧ n ≠ 0 ∧ n.natAbs < 2 ^ 10 ∧ R (T (prodR n rows)) M
theorem k_l_product (ds : List D) (M : Mem) (R : DK) (h : spProd ds M R) : r_l_product spLpm spLpow (endsF R) (startD N_l_product ds) M := by
  obtain ⟨a, rows, n, rfl, ha, ro, hw, n0, hn, h⟩ := h
  unfold r_l_product
  simp [size_line, ha]
  refine for_in (fun i δ M' => M' = M ∧ ∃ x y, δ = [some (.ref a), some (.int n), some (T (prodR n (rows.take i))), x, y]) ?_ ?_ ?_ ?_
  · refine ⟨rfl, none, none, ?_⟩
    rw [List.take_zero]
    simp [prodR, repF, prodL]
  · rintro i δ M' hi ⟨rfl, _⟩
    exact ha
  · rintro i d δ M' hd ⟨rfl, x, y, rfl⟩
    rw [List.getElem?_map] at hd
    cases hr : rows[i]? with
    | none => rw [hr] at hd; cases hd
    | some r =>
      rw [hr] at hd
      cases hd
      have hrm := List.mem_of_getElem? hr
      have hf := ro.fac r hrm
      have w1 : wtR (rows.take i) + (r.1.length - 1) * r.2 ≤ 12 := by
        have e1 : wtR (rows.take (i + 1)) = wtR (rows.take i) + (r.1.length - 1) * r.2 := by
          unfold wtR
          rw [List.take_add_one, hr]; simp
        have := wt_take rows (i + 1)
        omega
      obtain ⟨fp, fl⟩ := fac_prm hf
      obtain ⟨fs, fl5⟩ := FAC_sm hf
      have e12 : r.2 ≤ 12 := by
        have : 1 * r.2 ≤ (r.1.length - 1) * r.2 := Nat.mul_le_mul_right _ (by omega)
        omega
      obtain ⟨q1, q2, q3⟩ := prod_facts (repF_fac (rows_take ro i)) (repF_sum _) (by omega)
      obtain ⟨p1, p2, p3⟩ := pow_facts fp fs (by omega : (r.1.length - 1) * r.2 ≤ 24)
      have t1 : isT (prodR n (rows.take i)) := scale_isT q1.t n0
      have b1 : Bits (prodR n (rows.take i)) 1000 := ((Bits.of_bd q3 (by decide : 2 ^ 48 < 2 ^ 49)).scale hn).mono (by omega)
      have nx : pm (prodR n (rows.take i)) (prodL (List.replicate r.2 r.1)) = prodR n (rows.take (i + 1)) := by
        obtain ⟨z1, _, _⟩ := prod_facts (repF_fac (rows_take ro (i + 1))) (repF_sum _) (by have := wt_take rows (i + 1); omega)
        refine ev_inj (pm_isT _ _) (scale_isT z1.t n0) fun x _ => ?_
        rw [ev_pm]
        unfold prodR
        rw [ev_scale, ev_scale, repF_step hr, ev_prodL_append]; grind
      unfold rowD
      simp
      refine ⟨r.1, r.2, rfl, fp, fs, by omega, e12, by omega, ?_⟩
      refine ⟨_, _, rfl, t1, p1.t, ?_, by omega, b1, p3.mono (by omega), ?_⟩
      · unfold prodR; rw [List.length_map]; omega
      · rw [nx]; exact ⟨rfl, rfl⟩
  · rintro δ M' ⟨rfl, x, y, rfl⟩
    rw [List.length_map, List.take_length]
    simp
    exact ⟨M', Sub.refl M', h⟩

/-! ### small -/
def spSmall : DSp := fun ds M R => ∃ p, ds = [T p] ∧ p.length ≤ 1000 ∧ R (.bl (decide (∀ c ∈ p, c.natAbs < 10 ^ 12))) M
def bigF (d : D) : Option D := match d with
  | .int c => if 10 ^ 12 ≤ c.natAbs then some (.int c) else none
  | _ => none
theorem big_fm : ∀ p : List Int, (p.map D.int).filterMap bigF = (p.filter fun c => decide (10 ^ 12 ≤ c.natAbs)).map D.int
  | [] => rfl
  | c :: p => by
    have ih := big_fm p
    by_cases h : 10 ^ 12 ≤ c.natAbs
    · rw [List.map_cons, List.filterMap_cons_some (b := D.int c) (by unfold bigF; simp only [h, if_true]), List.filter_cons_of_pos (by simp only [h, decide_true]), ih]; rfl
    · rw [List.map_cons, List.filterMap_cons_none (by unfold bigF; simp only [h, if_false]), List.filter_cons_of_neg (by simp only [h, decide_false]; decide), ih]
theorem gEq_lists {f g : List Int} {M : Mem} {R : DK} {u v : Addr} (hu : M u = some (.lst (f.map D.int))) (hv : M v = some (.lst (g.map D.int))) (h : R (.bl (decide (f = g))) M) : gEq (.ref u) (.ref v) M R := by
  show (match (match M u with
      | some (.lst xs) => (pyds xs).map PyData.list
      | _ => none), (match M v with
      | some (.lst xs) => (pyds xs).map PyData.list
      | _ => none) with
    | some a, some b => SeqAt.shaped a = true ∧ SeqAt.shaped b = true ∧ R (.bl (PyData.eqv a b)) M
    | _, _ => False)
  rw [hu, hv]
  simp only
  rw [pyds_ints, pyds_ints]
  have sh : ∀ f : List Int, SeqAt.shaped (.list (f.map PyData.int)) = true := fun f => by
    obtain ⟨h1, h2⟩ := lay_ints f
    unfold SeqAt.shaped
    simp [PyData.canLay0, PyData.depth, h1]; omega
  refine ⟨sh f, sh g, ?_⟩
  rw [PyData.eqv, eqv_ints]; exact h
theorem k_l_is_small (ds : List D) (M : Mem) (R : DK) (h : spSmall ds M R) : r_l_is_small (endsF R) (startD N_l_is_small ds) M := by
  obtain ⟨p, rfl, hl, h⟩ := h
  have cpow : CPow 10 12 := ⟨by omega, by omega, by decide⟩
  unfold r_l_is_small
  simp [size_line]
  refine lc_fm bigF (by rw [List.length_map, size_line]; omega) ?_ ?_ ?_
  · intros; trivial
  · intro x u acc RY RN hx hu h1 h2
    obtain ⟨c, hc, rfl⟩ := List.mem_map.mp hx
    have e : (if c < 0 then -c else c) = ((c.natAbs : Nat) : Int) := by split <;> omega
    simp [wipeD, cpow]
    rw [e]
    by_cases hq : 10 ^ 12 ≤ c.natAbs
    · rw [if_pos (by omega)]
      exact h1 _ (by unfold bigF; simp only [hq, if_true])
    · rw [if_neg (by omega)]
      exact h2 (by unfold bigF; simp only [hq, if_false])
  · intro u hu
    intro v hv
    obtain ⟨q1, q2⟩ := updM_none (M := M) (q := u) hv
    refine gEq_lists (f := p.filter fun c => decide (10 ^ 12 ≤ c.natAbs)) (g := []) ?_ updM_same ?_
    · rw [updM_ne q1.symm, updM_same, big_fm]
    · refine ⟨M, (Sub.new hu).put q2, ?_⟩
      have e : decide ((p.filter fun c => decide (10 ^ 12 ≤ c.natAbs)) = []) = decide (∀ c ∈ p, c.natAbs < 10 ^ 12) := by
        rw [Bool.eq_iff_iff, decide_eq_true_eq, decide_eq_true_eq, List.filter_eq_nil_iff]
        constructor
        · intro h c hc
          have := h c hc
          rw [decide_eq_true_eq] at this
          omega
        · intro h c hc
          have := h c hc
          rw [decide_eq_true_eq]
          omega
      rw [e]; exact h
end DD
end
section
namespace DD
open PySem PySem.Spec PyProof.Rows L2 PA
/-! ### what two lots share -/
def inn (r : Row) (rs : List Row) : List (List Int) := rs.flatMap fun s => if r.1 = s.1 then List.replicate (min r.2 s.2) r.1 else []
def shF (r1 r2 : List Row) : List (List Int) := r1.flatMap fun r => inn r r2
def degS (l : List (List Int)) : Nat := (l.map fun f => f.length - 1).sum
theorem degS_append (a b : List (List Int)) : degS (a ++ b) = degS a + degS b := by simp [degS]
theorem degS_rep (n : Nat) (f : List Int) : degS (List.replicate n f) = n * (f.length - 1) := by unfold degS; exact sum_rep f n
theorem inn_sum (r : Row) : ∀ rs : List Row, degS (inn r rs) ≤ rs.length * ((r.1.length - 1) * r.2)
  | [] => Nat.zero_le _
  | s :: rs => by
    have ih := inn_sum r rs
    show degS ((if r.1 = s.1 then List.replicate (min r.2 s.2) r.1 else []) ++ inn r rs) ≤ (rs.length + 1) * _
    rw [degS_append, Nat.succ_mul]
    have : degS (if r.1 = s.1 then List.replicate (min r.2 s.2) r.1 else []) ≤ (r.1.length - 1) * r.2 := by
      split
      · rw [degS_rep, Nat.mul_comm]; exact Nat.mul_le_mul_left _ (Nat.min_le_left _ _)
      · exact Nat.zero_le _
    omega
theorem shF_sum (r2 : List Row) : ∀ r1 : List Row, degS (shF r1 r2) ≤ r2.length * wtR r1
  | [] => Nat.zero_le _
  | r :: r1 => by
    have ih := shF_sum r2 r1
    have h := inn_sum r r2
    show degS (inn r r2 ++ shF r1 r2) ≤ r2.length * ((r.1.length - 1) * r.2 + wtR r1)
    rw [degS_append, Nat.mul_add]; omega
theorem inn_fac {r : Row} (h : r.1 ∈ FAC) (rs : List Row) : ∀ f ∈ inn r rs, f ∈ FAC := fun f hf => by
  obtain ⟨s, hs, hf⟩ := List.mem_flatMap.mp hf
  split at hf
  · rw [(List.mem_replicate.mp hf).2]; exact h
  · cases hf
theorem shF_fac {r1 : List Row} (h : RowsOk r1) (r2 : List Row) : ∀ f ∈ shF r1 r2, f ∈ FAC := fun f hf => by
  obtain ⟨r, hr, hf⟩ := List.mem_flatMap.mp hf
  exact inn_fac (h.fac r hr) r2 f hf
theorem big_facts {l : List (List Int)} (h : ∀ f ∈ l, f ∈ FAC) (hw : degS l ≤ 96) : Prm (prodL l) ∧ (prodL l).length ≤ 97 ∧ Bits (prodL l) 400 := by
  refine ⟨prm_prodL fun f hf => (fac_prm (h f hf)).1, ?_, ?_⟩
  · rw [prodL_len fun f hf => fac_prm (h f hf)]; unfold degS at hw; omega
  · have := n1_prodL fun f hf => (FAC_sm (h f hf)).1
    refine Bits.of_bd (bd_n1 _) (Nat.lt_of_le_of_lt this (Nat.pow_lt_pow_right (by decide) ?_))
    unfold degS at hw; omega
theorem pm_prodL {a b : List (List Int)} (ha : ∀ f ∈ a, f ∈ FAC) (hb : ∀ f ∈ b, f ∈ FAC) : pm (prodL a) (prodL b) = prodL (a ++ b) := by
  refine ev_inj (pm_isT _ _) (prm_prodL fun f hf => ?_).t fun x _ => by rw [ev_pm, ev_prodL_append]
  rcases List.mem_append.mp hf with h | h
  · exact (fac_prm (ha f h)).1
  · exact (fac_prm (hb f h)).1
theorem row_at {rows : List Row} {i : Nat} {d : D} (h : (rows.map rowD)[i]? = some d) : ∃ r, rows[i]? = some r ∧ r ∈ rows ∧ d = .tup [T r.1, .int (r.2 : Nat)] := by
  rw [List.getElem?_map] at h
  cases hr : rows[i]? with
  | none => rw [hr] at h; cases h
  | some r => rw [hr] at h; cases h; exact ⟨r, rfl, List.mem_of_getElem? hr, rfl⟩
theorem wt_step {rows : List Row} {i : Nat} {r : Row} (hr : rows[i]? = some r) : wtR (rows.take (i + 1)) = wtR (rows.take i) + (r.1.length - 1) * r.2 := by
  unfold wtR
  rw [List.take_add_one, hr]; simp
theorem row_e {rows : List Row} (h : RowsOk rows) (hw : wtR rows ≤ 12) {i : Nat} {r : Row} (hr : rows[i]? = some r) : r.2 ≤ 12 ∧ (r.1.length - 1) * r.2 ≤ 12 := by
  have e := wt_step hr
  have := wt_take rows (i + 1)
  have l := (fac_prm (h.fac r (List.mem_of_getElem? hr))).2
  have : 1 * r.2 ≤ (r.1.length - 1) * r.2 := Nat.mul_le_mul_right _ (by omega)
  omega
def spShared : DSp := fun ds M R => ∃ (a b : Addr) (r1 r2 : List Row), ds = [.ref a, .ref b] ∧ M a = some (.lst (r1.map rowD)) ∧ M b = some (.lst (r2.map rowD)) ∧ RowsOk r1 ∧ RowsOk r2 ∧ wtR r1 ≤ 12 ∧ wtR r2 ≤ 12 ∧ r2.length ≤ 8 ∧ R (T (prodL (shF r1 r2))) M
theorem k_l_shared (ds : List D) (M : Mem) (R : DK) (h : spShared ds M R) : r_l_shared spLpm spLpow spLprim (endsF R) (startD N_l_shared ds) M := by
  obtain ⟨a, b, r1, r2, rfl, ha, hb, o1, o2, w1, w2, l2, h⟩ := h
  unfold r_l_shared
  simp [size_line, ha]
  have sumAll : ∀ i, degS (shF (r1.take i) r2) ≤ 96 := fun i => by
    have e1 := shF_sum r2 (r1.take i)
    have e2 := wt_take r1 i
    have : r2.length * wtR (r1.take i) ≤ 8 * 12 := Nat.mul_le_mul l2 (by omega)
    omega
  refine for_in (fun i δ M' => M' = M ∧ ∃ x y z w, δ = [some (.ref a), some (.ref b), some (T (prodL (shF (r1.take i) r2))), x, y, z, w]) ?_ ?_ ?_ ?_
  · exact ⟨rfl, none, none, none, none, rfl⟩
  · rintro i δ M' hi ⟨rfl, _⟩
    exact ha
  · rintro i d δ M' hd ⟨rfl, x, y, z, w, rfl⟩
    obtain ⟨r, hr, hrm, rfl⟩ := row_at hd
    have hf := o1.fac r hrm
    obtain ⟨fp, fl⟩ := fac_prm hf
    obtain ⟨fs, fl5⟩ := FAC_sm hf
    obtain ⟨e12, de⟩ := row_e o1 w1 hr
    simp [hb]
    have bnd : ∀ j, degS (shF (r1.take i) r2 ++ inn r (r2.take j)) ≤ 96 := fun j => by
      rw [degS_append]
      have e1 := shF_sum r2 (r1.take i)
      have e2 := inn_sum r (r2.take j)
      have e3 : (r2.take j).length ≤ r2.length := by rw [List.length_take]; omega
      have e4 : (r2.take j).length * ((r.1.length - 1) * r.2) ≤ r2.length * ((r.1.length - 1) * r.2) := Nat.mul_le_mul_right _ e3
      have e5 := wt_step hr
      have e6 := wt_take r1 (i + 1)
      have e7 : r2.length * wtR (r1.take (i + 1)) ≤ 8 * 12 := Nat.mul_le_mul l2 (by omega)
      rw [e5, Nat.mul_add] at e7
      omega
    have facs : ∀ j, ∀ f ∈ shF (r1.take i) r2 ++ inn r (r2.take j), f ∈ FAC := fun j f hf' => by
      rcases List.mem_append.mp hf' with h | h
      · exact shF_fac (rows_take o1 i) r2 f h
      · exact inn_fac hf _ f h
    refine for_in (fun j δ M2 => M2 = M' ∧ ∃ x y, δ = [some (.ref a), some (.ref b), some (T (prodL (shF (r1.take i) r2 ++ inn r (r2.take j)))), some (T r.1), some (.int (r.2 : Nat)), x, y]) ?_ ?_ ?_ ?_
    · refine ⟨rfl, z, w, ?_⟩
      rw [List.take_zero]
      simp [inn]
    · rintro j δ M2 hj ⟨rfl, _⟩
      exact hb
    · rintro j d δ M2 hd2 ⟨rfl, x2, y2, rfl⟩
      obtain ⟨s, hs, hsm, rfl⟩ := row_at hd2
      obtain ⟨q1, q2, q3⟩ := big_facts (facs j) (bnd j)
      have st : inn r (r2.take (j + 1)) = inn r (r2.take j) ++ (if r.1 = s.1 then List.replicate (min r.2 s.2) r.1 else []) := by
        unfold inn
        rw [List.take_add_one, hs]; simp
      simp
      refine gEq_T ?_
      by_cases he : r.1 = s.1
      · have em : (if s.2 < r.2 then (s.2 : Int) else (r.2 : Int)) = ((min r.2 s.2 : Nat) : Int) := by split <;> omega
        have pe : (r.1.length - 1) * min r.2 s.2 ≤ 24 := Nat.le_trans (Nat.mul_le_mul_left _ (Nat.min_le_left _ _)) (by omega)
        obtain ⟨p1, p2, p3⟩ := pow_facts fp fs pe
        simp [he]
        rw [em, ← he]
        refine ⟨r.1, min r.2 s.2, rfl, fp, fs, by omega, by omega, pe, ?_⟩
        refine ⟨_, _, rfl, q1.t, p1.t, by omega, by omega, q3.mono (by omega), p3.mono (by omega), rfl, ?_⟩
        rw [st, if_pos he, pm_prodL (facs j) fun f hf' => by rw [(List.mem_replicate.mp hf').2]; exact hf, List.append_assoc]
      · simp [he]
        rw [st]
        simp [he]
    · rintro δ M2 ⟨rfl, x2, y2, rfl⟩
      rw [List.length_map, List.take_length]
      refine ⟨rfl, some (T r.1), some (.int (r.2 : Nat)), x2, y2, ?_⟩
      have e : shF (r1.take (i + 1)) r2 = shF (r1.take i) r2 ++ inn r r2 := by
        unfold shF
        rw [List.take_add_one, hr]; simp
      rw [e]
  · rintro δ M' ⟨rfl, x, y, z, w, rfl⟩
    rw [List.length_map, List.take_length]
    simp
    have sm := sumAll r1.length
    rw [List.take_length] at sm
    obtain ⟨q1, q2, q3⟩ := big_facts (shF_fac o1 r2) sm
    refine ⟨_, rfl, q1.t, by omega, q3.mono (by omega), M', Sub.refl M', ?_⟩
    rw [prim_of q1]; exact h
end DD
end
section
namespace DD
open PySem PySem.Spec PyProof.Rows L2 PA
/-! ### parted -/
def ownL (rows : List Row) (m : Nat) : List (List Int) := (rows.filter fun r => decide (r.2 = m)).map fun r => r.1
def pieceR (rows : List Row) (i : Nat) : Option D := if ownL rows (i + 1) = [] then none else some (.tup [T (prodL (ownL rows (i + 1))), .int ((i + 1 : Nat) : Int)])
def piecesN (rows : List Row) (n : Nat) : List D := (List.range n).filterMap (pieceR rows)
theorem pieces_succ (rows : List Row) (n : Nat) : piecesN rows (n + 1) = piecesN rows n ++ (pieceR rows n).toList := by
  unfold piecesN
  rw [List.range_succ, List.filterMap_append]
  cases h : pieceR rows n <;> simp [h]
theorem pieces_len (rows : List Row) (n : Nat) : (piecesN rows n).length ≤ n := by
  have := List.length_filterMap_le (pieceR rows) (List.range n)
  simpa [piecesN] using this
theorem own_fac {rows : List Row} (h : RowsOk rows) (m : Nat) : ∀ f ∈ ownL rows m, f ∈ FAC := fun f hf => by
  obtain ⟨r, hr, rfl⟩ := List.mem_map.mp hf
  exact h.fac r (List.mem_filter.mp hr).1
theorem own_sum {m : Nat} (hm : 1 ≤ m) : ∀ rows : List Row, degS (ownL rows m) ≤ wtR rows
  | [] => Nat.zero_le _
  | r :: rows => by
    have ih := own_sum hm rows
    show _ ≤ (r.1.length - 1) * r.2 + wtR rows
    unfold ownL at ih ⊢
    by_cases hc : r.2 = m
    · rw [List.filter_cons_of_pos (by simpa using hc)]
      have : (r.1.length - 1) * 1 ≤ (r.1.length - 1) * r.2 := Nat.mul_le_mul_left _ (by omega)
      simp only [List.map_cons, degS, List.sum_cons] at ih ⊢
      omega
    · rw [List.filter_cons_of_neg (by simpa using hc)]; omega
theorem own_step {rows : List Row} {j : Nat} {r : Row} (hr : rows[j]? = some r) (m : Nat) : ownL (rows.take (j + 1)) m = ownL (rows.take j) m ++ (if r.2 = m then [r.1] else []) := by
  unfold ownL
  rw [List.take_add_one, hr, List.filter_append, List.map_append]
  by_cases h : r.2 = m <;> simp [h]
theorem prodL_single {f : List Int} (h : Prm f) : prodL [f] = f := by
  refine ev_inj (prm_prodL fun g hg => by rw [List.mem_singleton.mp hg]; exact h).t h.t fun x _ => ?_
  rw [ev_prodL_cons]
  show _ * ev [1] x = _
  rw [ev_one]; omega
def spParted : DSp := fun ds M R => ∃ (a : Addr) (rows : List Row), ds = [.ref a] ∧ M a = some (.lst (rows.map rowD)) ∧ RowsOk rows ∧ wtR rows ≤ 12 ∧ R (.tup (piecesN rows 12)) M
theorem k_l_parted (ds : List D) (M : Mem) (R : DK) (h : spParted ds M R) : r_l_parted spLpm spLprim (endsF R) (startD N_l_parted ds) M := by
  obtain ⟨a, rows, rfl, ha, ro, hw, h⟩ := h
  unfold r_l_parted
  simp [size_line]
  intro q hq
  have haq : a ≠ q := fun z => by rw [z, hq] at ha; cases ha
  refine for_in (fun i δ M' => M' = updM M q (.lst (piecesN rows i)) ∧ ∃ x y z w, δ = [some (.ref a), some (.ref q), x, y, z, w]) ?_ ?_ ?_ ?_
  · exact ⟨rfl, none, none, none, none, rfl⟩
  · intros; trivial
  · rintro i d δ M' hd ⟨rfl, x, y, z, w, rfl⟩
    obtain ⟨hi, rfl⟩ := range_at hd
    have ei : (1 : Int) + (i : Int) = ((i + 1 : Nat) : Int) := by omega
    rw [ei]
    have M1a : updM M q (.lst (piecesN rows i)) a = some (.lst (rows.map rowD)) := by rw [updM_ne haq]; exact ha
    have M1q : updM M q (.lst (piecesN rows i)) q = some (.lst (piecesN rows i)) := updM_same
    generalize hM1 : updM M q (.lst (piecesN rows i)) = M1 at *
    simp only [eq_gNm, eq_sSeq, eq_sAsg]
    simp [size_line, M1a]
    refine for_in (fun j δ M2 => M2 = M1 ∧ ∃ x y, δ = [some (.ref a), some (.ref q), some (.int ((i + 1 : Nat) : Int)), some (T (prodL (ownL (rows.take j) (i + 1)))), x, y]) ?_ ?_ ?_ ?_
    · exact ⟨rfl, z, w, by simp [ownL, prodL]⟩
    · rintro j δ M2 hj ⟨rfl, _⟩
      exact M1a
    · rintro j d δ M2 hd2 ⟨rfl, x2, y2, rfl⟩
      obtain ⟨r, hr, hrm, rfl⟩ := row_at hd2
      have hf := ro.fac r hrm
      obtain ⟨fp, fl⟩ := fac_prm hf
      obtain ⟨fs, fl5⟩ := FAC_sm hf
      have st := own_step hr (i + 1)
      have sm := own_sum (m := i + 1) (by omega) (rows.take j)
      have wt := wt_take rows j
      obtain ⟨q1, q2, q3⟩ := big_facts (own_fac (rows_take ro j) (i + 1)) (by omega)
      have fb := (pow_facts (n := 1) fp fs (by omega)).2.2
      rw [show List.replicate 1 r.1 = [r.1] from rfl, prodL_single fp] at fb
      simp
      by_cases he : r.2 = i + 1
      · have he' : (r.2 : Int) = (i : Int) + 1 := by omega
        simp [he']
        refine ⟨_, r.1, rfl, q1.t, fp.t, by omega, by omega, q3.mono (by omega), fb.mono (by omega), rfl, ?_⟩
        rw [st, if_pos he, ← pm_prodL (own_fac (rows_take ro j) (i + 1)) (fun f hf' => by rw [List.mem_singleton.mp hf']; exact hf), prodL_single fp]
      · have he' : ¬ (r.2 : Int) = (i : Int) + 1 := by omega
        simp [he']
        rw [st, if_neg he, List.append_nil]
    · rintro δ M2 ⟨rfl, x2, y2, rfl⟩
      rw [List.length_map, List.take_length]
      have sm := own_sum (m := i + 1) (by omega) rows
      obtain ⟨q1, q2, q3⟩ := big_facts (own_fac ro (i + 1)) (by omega)
      have one := prodL_one (l := ownL rows (i + 1)) fun f hf => fac_prm (own_fac ro _ f hf)
      have qlen := List.length_pos_iff.mpr q1.ne
      have ps := pieces_succ rows i
      have pl := pieces_len rows i
      simp
      by_cases he : ownL rows (i + 1) = []
      · have h1 : ¬ (1 : Int) < ((prodL (ownL rows (i + 1))).length : Int) := by have := one.mpr he; omega
        rw [if_neg h1]
        have pn : pieceR rows i = none := by unfold pieceR; rw [if_pos he]
        rw [pn] at ps
        rw [ps, ← hM1]; simp
      · have h1 : (1 : Int) < ((prodL (ownL rows (i + 1))).length : Int) := by
          have : (prodL (ownL rows (i + 1))).length ≠ 1 := fun z => he (one.mp z)
          omega
        rw [if_pos h1]
        have pn : pieceR rows i = some (.tup [T (prodL (ownL rows (i + 1))), .int ((i + 1 : Nat) : Int)]) := by unfold pieceR; rw [if_neg he]
        rw [pn] at ps
        rw [M1q]
        refine ⟨trivial, _, rfl, q1.t, by omega, q3.mono (by omega), ?_⟩
        rw [prim_of q1]
        simp only [M1q]
        refine ⟨by rw [size_line]; decide, by rw [size_line]; omega, ?_⟩
        rw [← hM1, updM_upd, ps]
        rfl
  · rintro δ M' ⟨rfl, x, y, z, w, rfl⟩
    rw [rangeD_length]
    simp
    exact ⟨M, Sub.new hq, M, Sub.refl M, h⟩
end DD
end
section
namespace DD
open PySem PySem.Spec PyProof.Rows L2 PA
def spTwo : DSp := fun ds M R => ∃ (b g c : Addr) (N : Nat), ds = [.ref b] ∧ Bag M b g c N ∧ N ≤ 2 ^ 37 ∧
  ∀ (r1 r2 : List Row) (p q : Addr) (M' : Mem), RowsOk r1 → RowsOk r2 → wtR r1 ≤ 12 → wtR r2 ≤ 12 → r1.length ≤ 4 → r2.length ≤ 8 → M p = none → M q = none → p ≠ q → Bag M' b g c (N + 400) →
    SameBut b g (updM (updM M p (.lst (r1.map rowD))) q (.lst (r2.map rowD))) M' → R (.tup [.ref p, .ref q]) M'
def fstD (d : D) : D := match d with
  | .tup (x :: _) => x
  | d => d
def degD (d : D) : D := match d with
  | .tup [.tup xs, .int e] => .int (((xs.length : Int) - 1) * e)
  | d => d
theorem row_fstD (rows : List Row) : (rows.map rowD).map fstD = (rows.map fun r => r.1).map T := by rw [List.map_map, List.map_map]; rfl
theorem row_degD (rows : List Row) : (rows.map rowD).map degD = (rows.map fun r => ((r.1.length : Int) - 1) * (r.2 : Nat)).map D.int := by
  rw [List.map_map, List.map_map]
  refine List.map_congr_left fun r _ => ?_
  show D.int ((((r.1.map D.int).length : Int) - 1) * _) = _
  rw [List.length_map]
  rfl
theorem sum_degD : ∀ {rows : List Row}, (∀ r ∈ rows, 1 ≤ r.1.length) → (rows.map fun r => ((r.1.length : Int) - 1) * ((r.2 : Nat) : Int)).sum = ((wtR rows : Nat) : Int)
  | [], _ => rfl
  | r :: rows, h => by
    have ih := sum_degD fun r hr => h r (List.mem_cons_of_mem _ hr)
    have h1 := h r List.mem_cons_self
    rw [List.map_cons, List.sum_cons, ih]
    show ((r.1.length : Int) - 1) * ((r.2 : Nat) : Int) + _ = (((r.1.length - 1) * r.2 + wtR rows : Nat) : Int)
    have : ((r.1.length : Int) - 1) = ((r.1.length - 1 : Nat) : Int) := by omega
    rw [this]; simp
theorem k_l_two_lots (ds : List D) (M : Mem) (R : DK) (h : spTwo ds M R) : r_l_two_lots spLots spDraw spPick (endsF R) (startD N_l_two_lots ds) M := by
  obtain ⟨b, g, c, N, rfl, hb, hN, h⟩ := h
  unfold r_l_two_lots
  simp [size_line]
  refine ⟨b, g, c, N, 12, rfl, hb, by omega, by decide, fun r1 p M1 o1 w1 l1 hp B1 S1 => ?_⟩
  refine ⟨b, g, c, N + 100, 6, rfl, B1, by omega, by decide, fun r2 q M2 o2 w2 l2 hq B2 S2 => ?_⟩
  have np := hb.ne hp
  have M1p : M1 p = some (.lst (r1.map rowD)) := (S1 p np.1 np.2.1).trans updM_same
  have hqp : q ≠ p := fun z => by rw [z, M1p] at hq; cases hq
  have nq := B1.ne hq
  have M2p : M2 p = some (.lst (r1.map rowD)) := (S2 p np.1 np.2.1).trans (by rw [updM_ne hqp.symm]; exact M1p)
  have M2q : M2 q = some (.lst (r2.map rowD)) := (S2 q nq.1 nq.2.1).trans updM_same
  have hMq : M q = none := by
    have := S1 q nq.1 nq.2.1
    rw [hq, updM_ne hqp] at this
    exact this.symm
  have s2 : SubBut b g M M2 := ((SubBut.of_sub (Sub.new hp)).trans (SubBut.of_same S1)).trans ((SubBut.of_sub (Sub.new hq)).trans (SubBut.of_same S2))
  simp [M2p]
  refine for_in (fun i δ M' => ∃ (rows : List Row) (x y z w : Option D), δ = [some (.ref b), some (.ref p), some (.ref q), x, y, z, w] ∧ RowsOk rows ∧ wtR rows ≤ 12 ∧ rows.length ≤ 4 + i ∧ M' p = some (.lst (r1.map rowD)) ∧ M' q = some (.lst (rows.map rowD)) ∧ Bag M' b g c (N + 200 + 2 * i) ∧ SubBut b g M M') ?_ ?_ ?_ ?_
  · exact ⟨r2, none, none, none, none, rfl, o2, by omega, by omega, M2p, M2q, B2.mono (by omega), s2⟩
  · rintro i δ M' hi ⟨rows, x, y, z, w, rfl, ro, rw_, rl, hP, hQ, hB, hS⟩
    exact hP
  · rintro i d δ M' hd ⟨rows, x, y, z, w, rfl, ro, rw_, rl, hP, hQ, hB, hS⟩
    obtain ⟨r, hr, hrm, rfl⟩ := row_at hd
    have hi4 : i < 4 := by have := (List.getElem?_eq_some_iff.mp hr).1; omega
    have hf := o1.fac r hrm
    have fs := FAC_sm hf
    have f2 := fs.1.1
    have f5 := fs.2
    simp
    refine Bag.draw hB (by omega) (by decide) (by decide) fun t M3 t0 t1 B3 S3 => ?_
    have s3 : SubBut b g M M3 := hS.trans (SubBut.of_same S3)
    have P3 : M3 p = some (.lst (r1.map rowD)) := (S3 p np.1 np.2.1).trans hP
    have Q3 : M3 q = some (.lst (rows.map rowD)) := (S3 q nq.1 nq.2.1).trans hQ
    simp
    by_cases ht : t = 0
    · simp [ht, Q3]
      have skip : ∀ M5 : Mem, M5 p = some (.lst (r1.map rowD)) → M5 q = some (.lst (rows.map rowD)) → Bag M5 b g c (N + 200 + 2 * i + 1 + 1) → SubBut b g M M5 → ∃ x, RowsOk x ∧ wtR x ≤ 12 ∧ x.length ≤ 4 + (i + 1) ∧ M5 p = some (MO.lst (List.map rowD r1)) ∧ M5 q = some (MO.lst (List.map rowD x)) ∧ Bag M5 b g c (N + 200 + 2 * (i + 1)) ∧ SubBut b g M M5 :=
        fun M5 h1 h2 h3 h4 => ⟨rows, ro, rw_, by omega, h1, h2, h3.mono (by omega), h4⟩
      refine lc_map fstD (by rw [List.length_map, size_line]; omega) ?_ ?_ ?_
      · intro v acc hv
        have := ne_none hv Q3
        simp [this, Q3]
      · intro x v acc RY hx hv hr
        obtain ⟨r', hr2, rfl⟩ := List.mem_map.mp hx
        have i0 : ∀ x y : D, atI [x, y] 0 = some x := fun _ _ => rfl
        unfold rowD at hr ⊢
        simp [wipeD, i0]
        exact hr
      · intro v hv
        have hvp : v ≠ p := fun z => by rw [z, P3] at hv; cases hv
        have hvq : v ≠ q := fun z => by rw [z, Q3] at hv; cases hv
        rw [row_fstD]
        refine notIn_T updM_same ?_
        have P4 : updM M3 v (.lst ((rows.map fun r => r.1).map T)) p = some (.lst (r1.map rowD)) := by rw [updM_ne hvp.symm]; exact P3
        have Q4 : updM M3 v (.lst ((rows.map fun r => r.1).map T)) q = some (.lst (rows.map rowD)) := by rw [updM_ne hvq.symm]; exact Q3
        have B4 : Bag (updM M3 v (.lst ((rows.map fun r => r.1).map T))) b g c (N + 200 + 2 * i + 1) := B3.new hv
        have s4 : SubBut b g M (updM M3 v (.lst ((rows.map fun r => r.1).map T))) := s3.trans (SubBut.of_sub (Sub.new hv))
        generalize updM M3 v (.lst ((rows.map fun r => r.1).map T)) = M4 at *
        by_cases hn : r.1 ∈ rows.map fun r => r.1
        · simp only [hn, decide_true, Bool.not_true, Bool.false_eq_true, if_false]
          exact skip M4 P4 Q4 (B4.mono (by omega)) s4
        · simp only [hn, decide_false, Bool.not_false, if_true]
          rw [Q4]
          refine lc_map degD (by rw [List.length_map, size_line]; omega) ?_ ?_ ?_
          · intro u acc hu
            have := ne_none hu Q4
            simp [this, Q4]
          · intro x u acc RY hx hu hr
            obtain ⟨r', hr2, rfl⟩ := List.mem_map.mp hx
            have i0 : ∀ x y : D, atI [x, y] 0 = some x := fun _ _ => rfl
            have i1 : ∀ x y : D, atI [x, y] 1 = some y := fun _ _ => rfl
            have l5' := (FAC_sm (ro.fac r' hr2)).2
            have e12 : r'.2 ≤ 12 := by
              obtain ⟨k, hk⟩ := List.mem_iff_getElem?.mp hr2
              exact (row_e ro rw_ hk).1
            unfold rowD at hr ⊢
            simp [wipeD, i0, i1]
            refine ⟨mul_ok 10 10 (by omega) (by omega) (by omega) (by omega) (by omega), ?_⟩
            simpa [degD] using hr
          · intro u hu
            have hup : u ≠ p := fun z => by rw [z, P4] at hu; cases hu
            have huq : u ≠ q := fun z => by rw [z, Q4] at hu; cases hu
            rw [row_degD, gsum_ints updM_same, sum_degD fun r hr => by have := (FAC_sm (ro.fac r hr)).1.1; omega]
            refine ⟨M4, Sub.new hu, by rw [size_line]; decide, fun k hk => ?_⟩
            refine Bag.pick B4 (by omega) hk (by simp) (by simp) fun x M5 hx B5 S5 => ?_
            obtain ⟨e, rfl, e1, e5⟩ : ∃ e : Nat, x = .int (e : Nat) ∧ 1 ≤ e ∧ e ≤ 2 := by
              simp at hx
              rcases hx with rfl | rfl
              · exact ⟨1, rfl, by omega, by omega⟩
              · exact ⟨2, rfl, by omega, by omega⟩
            have hkp : k ≠ p := fun z => by rw [z, P4] at hk; cases hk
            have hkq : k ≠ q := fun z => by rw [z, Q4] at hk; cases hk
            have P5 : M5 p = some (.lst (r1.map rowD)) := (S5 p np.1 np.2.1).trans (by rw [updM_ne hkp.symm]; exact P4)
            have Q5 : M5 q = some (.lst (rows.map rowD)) := (S5 q nq.1 nq.2.1).trans (by rw [updM_ne hkq.symm]; exact Q4)
            have s5 : SubBut b g M M5 := s4.trans ((SubBut.of_sub (Sub.new hk)).trans (SubBut.of_same S5))
            have ew : ((r.1.length : Int) - 1) * (e : Nat) = (((r.1.length - 1) * e : Nat) : Int) := by
              have : ((r.1.length : Int) - 1) = ((r.1.length - 1 : Nat) : Int) := by omega
              rw [this]; simp
            simp
            rw [ew]
            have e0 : ((wtR rows : Nat) : Int) + (((r.1.length - 1) * e : Nat) : Int) = ((wtR rows + (r.1.length - 1) * e : Nat) : Int) := by omega
            rw [e0]
            refine ⟨mul_ok 10 10 (by omega) (by omega) (by omega) (by omega) (by omega), ?_⟩
            by_cases hle : wtR rows + (r.1.length - 1) * e ≤ 12
            · rw [if_pos (by omega), Q5]
              simp only
              have rl2 : (rows.map rowD).length = rows.length := List.length_map _
              refine ⟨trivial, by rw [size_line]; decide, by rw [rl2, size_line]; omega, rows ++ [(r.1, e)], rows_add ro hf e1 hn, by rw [wt_add]; exact hle, by simp; omega, ?_, by simp [rowD], (B5.upd nq.1 nq.2.1 nq.2.2).mono (by omega), ?_⟩
              · rw [if_neg hqp.symm]; exact P5
              · intro a o h1 h2 z
                by_cases ea : a = q
                · rw [ea, hMq] at z; cases z
                · rw [updM_ne ea]; exact s5 a o h1 h2 z
            · rw [if_neg (by omega)]
              exact skip M5 P5 Q5 B5 s5
    · simp [ht]
      exact ⟨rows, ro, rw_, by omega, P3, Q3, B3.mono (by omega), s3⟩
  · rintro δ M' ⟨rows, x, y, z, w, rfl, ro, rw_, rl, hP, hQ, hB, hS⟩
    rw [List.length_map] at rl hB
    simp [size_line]
    have hq2 : SubBut b g (updM (updM M p (.lst (r1.map rowD))) q (.lst (rows.map rowD))) M' := fun a o h1 h2 z => by
      by_cases e : a = q
      · rw [e, updM_same] at z; rw [e, hQ]; exact z
      · rw [updM_ne e] at z
        by_cases e2 : a = p
        · rw [e2, updM_same] at z; rw [e2, hP]; exact z
        · rw [updM_ne e2] at z; exact hS a o h1 h2 z
    exact ⟨_, keep_sub hq2, h r1 rows p q _ o1 ro w1 rw_ l1 (by omega) hp hMq hqp.symm (keep_bag ((hb.new hp).new (by rw [updM_ne hqp]; exact hMq)) (hB.mono (by omega)) hq2) keep_same⟩
end DD
end
section
namespace DD
open PySem PySem.Spec PyProof.Rows L2 PA
/-! ### the plain law of the rows -/
theorem fac_cop {f g : List Int} (hf : f ∈ FAC) (hg : g ∈ FAC) (hn : f ≠ g) : Cop (ev f) (ev g) := by
  have pw := List.pairwise_iff_getElem.mp FAC_UOk.pw
  obtain ⟨i, hi, rfl⟩ := List.getElem_of_mem hf
  obtain ⟨j, hj, rfl⟩ := List.getElem_of_mem hg
  rcases Nat.lt_trichotomy i j with h | h | h
  · exact pw i j hi hj h
  · subst h; exact absurd rfl hn
  · exact (pw j i hj hi h).symm
theorem uok_of {U : List (List Int)} (nd : U.Nodup) (h : ∀ f ∈ U, f ∈ FAC) : UOk U := by
  refine ⟨fun f hf => FAC_UOk.fac f (h f hf), ?_⟩
  rw [List.pairwise_iff_getElem]
  intro i j hi hj hij
  refine fac_cop (h _ (List.getElem_mem hi)) (h _ (List.getElem_mem hj)) fun e => ?_
  have := (List.pairwise_iff_getElem.mp nd) i j hi hj hij
  exact this e
/-- the power of f in the rows -/
def eOf : List Row → List Int → Nat
  | [], _ => 0
  | r :: rows, f => if r.1 = f then r.2 else eOf rows f
theorem eOf_cons (r : Row) (rows : List Row) (f : List Int) : eOf (r :: rows) f = if r.1 = f then r.2 else eOf rows f := rfl
theorem eOf_not : ∀ {rows : List Row} {f : List Int}, f ∉ (rows.map fun r => r.1) → eOf rows f = 0
  | [], _, _ => rfl
  | r :: rows, f, h => by
    simp at h
    unfold eOf
    rw [if_neg (fun e => h.1 e.symm)]
    exact eOf_not (by simpa using h.2)
theorem eOf_mem : ∀ {rows : List Row}, (rows.map fun r => r.1).Nodup → ∀ r ∈ rows, eOf rows r.1 = r.2
  | s :: rows, nd, r, hr => by
    rw [List.map_cons, List.nodup_cons] at nd
    unfold eOf
    rcases List.mem_cons.mp hr with rfl | hr
    · rw [if_pos rfl]
    · rw [if_neg fun e => nd.1 (List.mem_map.mpr ⟨r, hr, e.symm⟩)]
      exact eOf_mem nd.2 r hr
theorem prodU_congr {e e' : List Int → Nat} : ∀ {U : List (List Int)}, (∀ f ∈ U, e f = e' f) → ∀ x, prodU e U x = prodU e' U x
  | [], _, x => rfl
  | f :: U, h, x => by
    show powF (ev f) (e f) x * _ = powF (ev f) (e' f) x * _
    rw [h f List.mem_cons_self, prodU_congr (fun g hg => h g (List.mem_cons_of_mem _ hg)) x]
theorem ev_repF : ∀ {rows : List Row}, (rows.map fun r => r.1).Nodup → ∀ x, ev (prodL (repF rows)) x = prodU (eOf rows) (rows.map fun r => r.1) x
  | [], _, x => ev_one x
  | r :: rows, nd, x => by
    have nd' := nd
    rw [List.map_cons, List.nodup_cons] at nd
    have ih := ev_repF nd.2 x
    show ev (prodL (List.replicate r.2 r.1 ++ repF rows)) x = powF (ev r.1) (eOf (r :: rows) r.1) x * prodU (eOf (r :: rows)) (rows.map fun r => r.1) x
    rw [ev_reps_prod, ih, eOf_mem nd' r List.mem_cons_self]
    congr 1
    refine prodU_congr (fun f hf => ?_) x
    rw [eOf_cons, if_neg fun e => nd.1 (by rw [e]; exact hf)]
theorem wt_rows : ∀ {rows : List Row}, (rows.map fun r => r.1).Nodup → wt (eOf rows) (rows.map fun r => r.1) = wtR rows
  | [], _ => rfl
  | r :: rows, nd => by
    have nd' := nd
    rw [List.map_cons, List.nodup_cons] at nd
    have ih := wt_rows nd.2
    show (r.1.length - 1) * eOf (r :: rows) r.1 + wt (eOf (r :: rows)) (rows.map fun r => r.1) = (r.1.length - 1) * r.2 + wtR rows
    rw [eOf_mem nd' r List.mem_cons_self, ← ih]
    congr 1
    have : ∀ {U : List (List Int)} {e e' : List Int → Nat}, (∀ f ∈ U, e f = e' f) → wt e U = wt e' U := by
      intro U e e' h
      induction U with
      | nil => rfl
      | cons f U ih =>
        show (f.length - 1) * e f + wt e U = (f.length - 1) * e' f + wt e' U
        rw [h f List.mem_cons_self, ih fun g hg => h g (List.mem_cons_of_mem _ hg)]
    refine this fun f hf => ?_
    show (if r.1 = f then r.2 else eOf rows f) = eOf rows f
    rw [if_neg fun e => nd.1 (by rw [e]; exact hf)]
theorem lot_of {rows : List Row} (ro : RowsOk rows) (hw : wtR rows ≤ 12) : Lot (eOf rows) (rows.map fun r => r.1) where
  ok := uok_of ro.nd fun f hf => by
    obtain ⟨r, hr, rfl⟩ := List.mem_map.mp hf
    exact ro.fac r hr
  sm := fun f hf => by
    obtain ⟨r, hr, rfl⟩ := List.mem_map.mp hf
    exact (FAC_sm (ro.fac r hr)).1
  wt := by rw [wt_rows ro.nd]; exact hw
theorem own_filter {rows : List Row} (nd : (rows.map fun r => r.1).Nodup) (m : Nat) : ((rows.map fun r => r.1).filter fun f => decide (eOf rows f = m)) = ownL rows m := by
  unfold ownL
  rw [List.filter_map]
  congr 1
  refine List.filter_congr fun r hr => ?_
  show decide (eOf rows r.1 = m) = _
  rw [eOf_mem nd r hr]
theorem pieces_parts {rows : List Row} (nd : (rows.map fun r => r.1).Nodup) (n : Nat) : piecesN rows n = partsN (eOf rows) (rows.map fun r => r.1) n := by
  unfold piecesN partsN
  congr 1
  funext i
  unfold pieceR partF PL
  rw [own_filter nd]
end DD
end
section
namespace DD
open PySem PySem.Spec PyProof.Rows L2 PA
/-! ### what two lots share is their gcd -/
theorem prodU_append (e : List Int → Nat) : ∀ (U V : List (List Int)) (x : Int), prodU e (U ++ V) x = prodU e U x * prodU e V x
  | [], V, x => by show prodU e V x = 1 * prodU e V x; omega
  | f :: U, V, x => by
    show powF (ev f) (e f) x * prodU e (U ++ V) x = powF (ev f) (e f) x * prodU e U x * prodU e V x
    rw [prodU_append e U V x]; grind
theorem prodU_zero {e : List Int → Nat} : ∀ {V : List (List Int)}, (∀ f ∈ V, e f = 0) → ∀ x, prodU e V x = 1
  | [], _, x => rfl
  | f :: V, h, x => by
    show powF (ev f) (e f) x * prodU e V x = 1
    rw [h f List.mem_cons_self, prodU_zero (fun g hg => h g (List.mem_cons_of_mem _ hg)) x]; simp [powF]
theorem prodU_perm {e : List Int → Nat} {U V : List (List Int)} (h : U.Perm V) (x : Int) : prodU e U x = prodU e V x := by
  induction h with
  | nil => rfl
  | cons f _ ih => show _ * _ = _ * _; rw [ih]
  | swap f g U => show _ * (_ * _) = _ * (_ * _); grind
  | trans _ _ ih1 ih2 => exact ih1.trans ih2
theorem prodU_split (e : List Int → Nat) (p : List Int → Bool) : ∀ (U : List (List Int)) (x : Int), prodU e U x = prodU e (U.filter p) x * prodU e (U.filter fun f => !p f) x
  | [], x => rfl
  | f :: U, x => by
    have ih := prodU_split e p U x
    show powF (ev f) (e f) x * prodU e U x = _
    by_cases h : p f = true
    · rw [List.filter_cons_of_pos h, List.filter_cons_of_neg (by simp [h]), ih]
      show _ = powF (ev f) (e f) x * _ * _
      grind
    · rw [List.filter_cons_of_neg h, List.filter_cons_of_pos (by simp [h]), ih]
      show _ = _ * (powF (ev f) (e f) x * _)
      grind
theorem inn_none {r : Row} : ∀ {rs : List Row}, r.1 ∉ (rs.map fun s => s.1) → inn r rs = []
  | [], _ => rfl
  | s :: rs, h => by
    simp at h
    show (if r.1 = s.1 then List.replicate (min r.2 s.2) r.1 else []) ++ inn r rs = []
    rw [if_neg h.1, inn_none (by simpa using h.2)]; rfl
theorem inn_ev {r : Row} (x : Int) : ∀ {rs : List Row}, (rs.map fun s => s.1).Nodup → ev (prodL (inn r rs)) x = powF (ev r.1) (min r.2 (eOf rs r.1)) x
  | [], _ => by
    show ev [1] x = powF (ev r.1) (min r.2 0) x
    rw [ev_one, Nat.min_zero]; rfl
  | s :: rs, nd => by
    rw [List.map_cons, List.nodup_cons] at nd
    have ih := inn_ev (r := r) x nd.2
    show ev (prodL ((if r.1 = s.1 then List.replicate (min r.2 s.2) r.1 else []) ++ inn r rs)) x = _
    rw [eOf_cons]
    by_cases h : r.1 = s.1
    · rw [if_pos h, if_pos h.symm, inn_none (by rw [h]; exact nd.1), ev_reps_prod]
      show _ * ev [1] x = _
      rw [ev_one]; omega
    · rw [if_neg h, if_neg (fun e => h e.symm), List.nil_append, ih]
theorem shF_ev {r2 : List Row} (n2 : (r2.map fun s => s.1).Nodup) (x : Int) : ∀ {r1 : List Row}, (r1.map fun r => r.1).Nodup → ev (prodL (shF r1 r2)) x = prodU (fun f => min (eOf r1 f) (eOf r2 f)) (r1.map fun r => r.1) x
  | [], _ => ev_one x
  | r :: r1, nd => by
    have nd' := nd
    rw [List.map_cons, List.nodup_cons] at nd
    have ih := shF_ev n2 x nd.2
    show ev (prodL (inn r r2 ++ shF r1 r2)) x = powF (ev r.1) (min (eOf (r :: r1) r.1) (eOf r2 r.1)) x * prodU (fun f => min (eOf (r :: r1) f) (eOf r2 f)) (r1.map fun r => r.1) x
    rw [ev_prodL_append, inn_ev x n2, ih, eOf_mem nd' r List.mem_cons_self]
    congr 1
    refine prodU_congr (fun f hf => ?_) x
    rw [eOf_cons, if_neg fun e => nd.1 (by rw [e]; exact hf)]
theorem shared_gcd {r1 r2 : List Row} (o1 : RowsOk r1) (o2 : RowsOk r2) : GcdOf (ev (prodL (shF r1 r2))) (ev (prodL (repF r1))) (ev (prodL (repF r2))) := by
  generalize h1 : (r1.map fun r => r.1) = U1
  generalize h2 : (r2.map fun r => r.1) = U2
  have n1 := o1.nd
  have n2 := o2.nd
  have f1 : ∀ f ∈ U1, f ∈ FAC := fun f hf => by rw [← h1] at hf; obtain ⟨r, hr, rfl⟩ := List.mem_map.mp hf; exact o1.fac r hr
  have f2 : ∀ f ∈ U2, f ∈ FAC := fun f hf => by rw [← h2] at hf; obtain ⟨r, hr, rfl⟩ := List.mem_map.mp hf; exact o2.fac r hr
  have ev1 := fun x => ev_repF n1 x
  have ev2 := fun x => ev_repF n2 x
  have evs := fun x => shF_ev n2 x n1
  have z1 : ∀ f, f ∉ U1 → eOf r1 f = 0 := fun f hf => eOf_not (by rw [h1]; exact hf)
  have z2 : ∀ f, f ∉ U2 → eOf r2 f = 0 := fun f hf => eOf_not (by rw [h2]; exact hf)
  simp only [h1, h2] at n1 n2 ev1 ev2 evs
  let V := U2.filter fun f => !decide (f ∈ U1)
  have hV : ∀ f ∈ V, f ∉ U1 := fun f hf => by simpa using (List.mem_filter.mp hf).2
  have nd : (U1 ++ V).Nodup := by
    rw [List.nodup_append]
    exact ⟨n1, n2.filter _, fun a ha b hb e => hV b hb (by rw [← e]; exact ha)⟩
  have ok : UOk (U1 ++ V) := uok_of nd fun f hf => by
    rcases List.mem_append.mp hf with h | h
    · exact f1 f h
    · exact f2 f (List.mem_filter.mp h).1
  have g := gcd_prodU (eOf r1) (eOf r2) ok
  refine (g.congr (fun x => ?_) fun x => ?_).congrG fun x => ?_
  · rw [ev1, prodU_append, prodU_zero (fun f hf => z1 f (hV f hf))]; omega
  · rw [ev2, prodU_append, prodU_split (eOf r2) (fun f => decide (f ∈ U1)) U2, prodU_split (eOf r2) (fun f => decide (f ∈ U2)) U1]
    rw [prodU_zero (V := U1.filter fun f => !decide (f ∈ U2)) (fun f hf => z2 f (by simpa using (List.mem_filter.mp hf).2))]
    have pm : (U2.filter fun f => decide (f ∈ U1)).Perm (U1.filter fun f => decide (f ∈ U2)) := by
      refine (List.perm_ext_iff_of_nodup (n2.filter _) (n1.filter _)).mpr fun f => ?_
      simp [List.mem_filter, and_comm]
    rw [prodU_perm pm]
    show _ * prodU (eOf r2) V x = _ * 1 * prodU (eOf r2) V x
    grind
  · rw [evs, prodU_append, prodU_zero (V := V) (fun f hf => by rw [z1 f (hV f hf), Nat.zero_min])]; omega
end DD
end
section
namespace DD
open PySem PySem.Spec PyProof.Rows L2 PA
theorem ok_T (n : Nat) (p : List Int) (h : p.length ≤ 100) : okD (n + 1) (T p) := ⟨by simp; omega, fun x hx => by
  obtain ⟨c, _, rfl⟩ := List.mem_map.mp hx
  exact ok_int _ _⟩
theorem ok_piece {rows : List Row} (ro : RowsOk rows) (hw : wtR rows ≤ 12) : okD 8 (.tup (piecesN rows 12)) := by
  refine ⟨by have := pieces_len rows 12; omega, fun x hx => ?_⟩
  obtain ⟨i, _, hi⟩ := List.mem_filterMap.mp hx
  unfold pieceR at hi
  split at hi
  · cases hi
  · rw [← Option.some.inj hi]
    have sm := own_sum (m := i + 1) (by omega) rows
    obtain ⟨_, q2, _⟩ := big_facts (own_fac ro (i + 1)) (by omega)
    exact ok_pair 6 _ _ (ok_T 5 _ (by omega)) (ok_int _ _)
theorem prodR_ok {rows : List Row} (ro : RowsOk rows) (hw : wtR rows ≤ 12) {n : Int} (n0 : n ≠ 0) : isT (prodR n rows) ∧ prodR n rows ≠ [] ∧ (prodR n rows).length ≤ 13 ∧ primL (prodR n rows) = prodL (repF rows) ∧ (∀ x, ev (prodR n rows) x = n * ev (prodL (repF rows)) x) := by
  obtain ⟨q1, q2, _⟩ := prod_facts (repF_fac ro) (repF_sum rows) hw
  have t := scale_isT q1.t n0
  have e : ∀ x, ev (prodR n rows) x = n * ev (prodL (repF rows)) x := fun x => by unfold prodR; rw [ev_scale]
  have ne : prodR n rows ≠ [] := by unfold prodR; simpa using q1.ne
  refine ⟨t, ne, by unfold prodR; rw [List.length_map]; omega, prim_eq t ne q1 (by decide : (1 : Int) ≠ 0) n0 fun x _ => by rw [e]; omega, e⟩
theorem small_bd {p : List Int} (h : ∀ c ∈ p, c.natAbs < 10 ^ 12) : bd p (2 ^ 45) := fun c hc => Nat.le_trans (Nat.le_of_lt (h c hc)) (by decide)
theorem lots_gcd {r1 r2 : List Row} (o1 : RowsOk r1) (o2 : RowsOk r2) (w1 : wtR r1 ≤ 12) (w2 : wtR r2 ≤ 12) {n m : Int} (n0 : n ≠ 0) (m0 : m ≠ 0) : GcdOf (ev (prodL (shF r1 r2))) (ev (prodR n r1)) (ev (prodR m r2)) :=
  GcdOf.scaled (by decide : (1 : Int) ≠ 0) (by decide : (1 : Int) ≠ 0) n0 m0 (shared_gcd o1 o2) (fun x => by rw [(prodR_ok o1 w1 n0).2.2.2.2]; omega) (fun x => by rw [(prodR_ok o2 w2 m0).2.2.2.2]; omega)
theorem gcd_zero {p : List Int} (tp : isT p) : GcdOf (ev (primL p)) (ev p) (ev []) := by
  obtain ⟨c, hc, e⟩ := ev_prim tp
  exact ⟨⟨1, by decide, fun _ => c, .const c, fun x => by rw [e]; grind⟩, ⟨1, by decide, fun _ => 0, .const 0, fun x => by simp [ev]⟩, ⟨c, hc, fun _ => 1, fun _ => 0, .const 1, .const 0, fun x => by rw [e]; simp⟩⟩
theorem gcd_seven (p : List Int) : GcdOf (ev [1]) (ev p) (ev [7]) :=
  ⟨⟨1, by decide, ev p, .ev p, fun x => by rw [ev_one]⟩, ⟨1, by decide, fun _ => 7, .const 7, fun x => by rw [ev_one]; simp [ev]⟩, ⟨7, by decide, fun _ => 0, fun _ => 1, .const 0, .const 1, fun x => by rw [ev_one]; simp [ev]⟩⟩
/-- a point: a fraction in small numbers -/
def PtOk (z : Int × Int) : Prop := 0 < z.2 ∧ z.1.natAbs < 2 ^ 40 ∧ z.2.natAbs < 2 ^ 40
def ptD (z : Int × Int) : D := fr z.1 z.2
theorem pt_low {a b : Int} (hb : 0 < b) (ha : a.natAbs < 2 ^ 40) (hb2 : b.natAbs < 2 ^ 40) : frD a b = ptD (lowN a b, lowD a b) ∧ PtOk (lowN a b, lowD a b) := by
  obtain ⟨l1, l2, l3, l4⟩ := low_ok (n := a) hb
  exact ⟨frD_pos hb, l1, Nat.lt_of_le_of_lt l3 ha, Nat.lt_of_le_of_lt l4 hb2⟩
def spTold : DSp := fun ds M R => ∃ (b g c : Addr) (N : Nat) (k : Bool), ds = [.ref b, .bl k] ∧ Bag M b g c N ∧ N ≤ 2 ^ 36 ∧ ∀ M', Bag M' b g c (N + 1000) → SameBut b g M M' → R (.bl true) M'
theorem k_l_is_told (ds : List D) (M : Mem) (R : DK) (h : spTold ds M R) : r_l_is_told spTwo spProd spPick spSmall spShared spCommon (spSame 8) spLprim spSqf spParted spLfr spDraw spVal spLat (endsF R) (startD N_l_is_told ds) M := by
  obtain ⟨b, g, c, N, k, rfl, hb, hN, h⟩ := h
  unfold r_l_is_told
  simp [size_line]
  refine ⟨b, g, c, N, rfl, hb, by omega, fun r1 r2 p q M1 o1 o2 w1 w2 l1 l2 hp hq hpq B1 S1 => ?_⟩
  have np := hb.ne hp
  have nq := hb.ne hq
  have M1p : M1 p = some (.lst (r1.map rowD)) := (S1 p np.1 np.2.1).trans (by rw [updM_ne hpq]; exact updM_same)
  have M1q : M1 q = some (.lst (r2.map rowD)) := (S1 q nq.1 nq.2.1).trans updM_same
  have s1 : SubBut b g M M1 := ((SubBut.of_sub (Sub.new hp)).trans (SubBut.of_sub (Sub.new (by rw [updM_ne hpq.symm]; exact hq)))).trans (SubBut.of_same S1)
  have fin : ∀ (M5 : Mem) (k : Nat), k ≤ 1000 → Bag M5 b g c (N + k) → SubBut b g M M5 → ∃ M0, Sub M0 M5 ∧ R (.bl true) M0 := fun M5 k hk hB hS =>
    ⟨_, keep_sub hS, h _ (keep_bag hb (hB.mono (by omega)) hS) keep_same⟩
  simp only [eq_dLst, eq_aCons]
  simp
  refine ⟨by rw [size_line]; decide, fun u hu => ?_⟩
  refine Bag.pick B1 (by omega) hu (by simp) (by simp) fun x M2 hx B2 S2 => ?_
  have M2p : M2 p = some (.lst (r1.map rowD)) := (S2 p np.1 np.2.1).trans (by rw [updM_ne (ne_none hu M1p)]; exact M1p)
  have M2q : M2 q = some (.lst (r2.map rowD)) := (S2 q nq.1 nq.2.1).trans (by rw [updM_ne (ne_none hu M1q)]; exact M1q)
  have s2 : SubBut b g M M2 := s1.trans ((SubBut.of_sub (Sub.new hu)).trans (SubBut.of_same S2))
  obtain ⟨n, rfl, n0, nb⟩ : ∃ n : Int, x = .int n ∧ n ≠ 0 ∧ n.natAbs < 2 ^ 10 := by
    simp at hx
    rcases hx with rfl | rfl | rfl | rfl <;> exact ⟨_, rfl, by decide, by decide⟩
  refine ⟨p, r1, n, rfl, M2p, o1, w1, n0, nb, ?_⟩
  refine ⟨by rw [size_line]; decide, fun v hv => ?_⟩
  refine Bag.pick B2 (by omega) hv (by simp) (by simp) fun y M3 hy B3 S3 => ?_
  have M3p : M3 p = some (.lst (r1.map rowD)) := (S3 p np.1 np.2.1).trans (by rw [updM_ne (ne_none hv M2p)]; exact M2p)
  have M3q : M3 q = some (.lst (r2.map rowD)) := (S3 q nq.1 nq.2.1).trans (by rw [updM_ne (ne_none hv M2q)]; exact M2q)
  have s3 : SubBut b g M M3 := s2.trans ((SubBut.of_sub (Sub.new hv)).trans (SubBut.of_same S3))
  obtain ⟨m, rfl, m0, mb⟩ : ∃ n : Int, y = .int n ∧ n ≠ 0 ∧ n.natAbs < 2 ^ 10 := by
    simp at hy
    rcases hy with rfl | rfl | rfl <;> exact ⟨_, rfl, by decide, by decide⟩
  refine ⟨q, r2, m, rfl, M3q, o2, w2, m0, mb, ?_⟩
  simp
  by_cases hl : (prodR n r1).length < 2
  · have hl' : ((prodR n r1).length : Int) < 2 := by omega
    rw [if_pos hl']
    exact fin M3 402 (by omega) B3 s3
  have hl' : ¬ ((prodR n r1).length : Int) < 2 := by omega
  rw [if_neg hl']
  obtain ⟨tP, P0, lP, pP, eP⟩ := prodR_ok o1 w1 n0
  obtain ⟨tQ, Q0, lQ, pQ, eQ⟩ := prodR_ok o2 w2 m0
  have hG := lots_gcd o1 o2 w1 w2 n0 m0
  generalize hPP : prodR n r1 = P at *
  generalize hQQ : prodR m r2 = Q at *
  refine ⟨P, rfl, by omega, ?_⟩
  by_cases sP' : ¬ ∀ c ∈ P, c.natAbs < 10 ^ 12
  · rw [decide_eq_false sP']
    exact fin M3 402 (by omega) B3 s3
  have sP : ∀ c ∈ P, c.natAbs < 10 ^ 12 := Decidable.not_not.mp sP'
  rw [decide_eq_true sP]
  refine ⟨Q, rfl, by omega, ?_⟩
  by_cases sQ' : ¬ ∀ c ∈ Q, c.natAbs < 10 ^ 12
  · rw [decide_eq_false sQ']
    exact fin M3 402 (by omega) B3 s3
  have sQ : ∀ c ∈ Q, c.natAbs < 10 ^ 12 := Decidable.not_not.mp sQ'
  rw [decide_eq_true sQ]
  have bP := small_bd sP
  have bQ := small_bd sQ
  have cPQ : ∀ (M' : Mem) (RR : DK), RR (T (prodL (shF r1 r2))) M' → spCommon [T P, T Q] M' RR := fun M' RR hr =>
    ⟨P, Q, _, rfl, tP, tQ, .inl P0, lP, lQ, bP.mono (by decide), bQ.mono (by decide), prm_prodL fun f hf => (fac_prm (shF_fac o1 r2 f hf)).1, hG, hr⟩
  have cQP : ∀ (M' : Mem) (RR : DK), RR (T (prodL (shF r1 r2))) M' → spCommon [T Q, T P] M' RR := fun M' RR hr =>
    ⟨Q, P, _, rfl, tQ, tP, .inl Q0, lQ, lP, bQ.mono (by decide), bP.mono (by decide), prm_prodL fun f hf => (fac_prm (shF_fac o1 r2 f hf)).1, hG.symm, hr⟩
  have cP0 : ∀ (M' : Mem) (RR : DK), RR (T (primL P)) M' → spCommon [T P, .tup []] M' RR := fun M' RR hr =>
    ⟨P, [], _, rfl, tP, isT_nil, .inl P0, lP, by decide, bP.mono (by decide), bd_nil _, (prim_ok tP P0).1, gcd_zero tP, hr⟩
  have c0Q : ∀ (M' : Mem) (RR : DK), RR (T (primL Q)) M' → spCommon [.tup [], T Q] M' RR := fun M' RR hr =>
    ⟨[], Q, _, rfl, isT_nil, tQ, .inr Q0, by decide, lQ, bd_nil _, bQ.mono (by decide), (prim_ok tQ Q0).1, (gcd_zero tQ).symm, hr⟩
  have cP7 : ∀ (M' : Mem) (RR : DK), RR (.tup [.int 1]) M' → spCommon [T P, .tup [.int 7]] M' RR := fun M' RR hr =>
    ⟨P, [7], [1], rfl, tP, fun _ => by simp, .inl P0, lP, by decide, bP.mono (by decide), bd_cons (by decide) (bd_nil _), prm_one, gcd_seven P, hr⟩
  have trT : ∀ M' : Mem, truD M' (.bl true) = some true := fun _ => rfl
  simp only [trT, if_true]
  refine ⟨p, q, r1, r2, rfl, M3p, M3q, o1, o2, w1, w2, l2, ?_⟩
  generalize hGG : prodL (shF r1 r2) = G at *
  have okG : okD 7 (T G) := ok_T 6 _ (by
    obtain ⟨_, z, _⟩ := big_facts (shF_fac o1 r2) (Nat.le_trans (shF_sum r2 r1) (Nat.le_trans (Nat.mul_le_mul l2 w1) (by decide)))
    rw [hGG] at z; omega)
  have pm10 : ∀ a b : D, permL [1, 0] [a, b] = [b, a] := fun _ _ => rfl
  have pm1 : ∀ a : D, permL [0] [a] = [a] := fun _ => rfl
  simp only [pm10, pm1, ite_self]
  have z2 : 2 ≤ sizeLine := by rw [size_line]; decide
  have z1 : 1 ≤ sizeLine := by rw [size_line]; decide
  have z3 : 3 ≤ sizeLine := by rw [size_line]; decide
  have okP : okD 7 (T (primL P)) := ok_T 6 _ (by rw [prim_len tP]; omega)
  have okQ : okD 7 (T (primL Q)) := ok_T 6 _ (by rw [prim_len tQ]; omega)
  refine cPQ _ _ (cQP _ _ ⟨z2, _, rfl, ok_pair 7 _ _ okG okG, ?_⟩)
  simp only [trT, if_true]
  have pr : ∀ (X : List Int) (M' : Mem) (RR : DK), isT X → X.length ≤ 13 → bd X (2 ^ 45) → RR (T (primL X)) M' → spLprim [T X] M' RR := fun X M' RR tX lX bX hr =>
    ⟨X, rfl, tX, by omega, Bits.of_bd bX (by decide +kernel), hr⟩
  refine cP0 _ _ (c0Q _ _ ⟨z1, cP7 _ _ ⟨z3, pr P _ _ tP lP bP (pr Q _ _ tQ lQ bQ ⟨z1, z3, _, rfl, ok_three 7 _ _ _ okP okQ (ok_T 6 [1] (by decide)), ?_⟩)⟩⟩)
  simp only [trT, if_true]
  have L := lot_of o1 w1
  refine ⟨P, n, eOf r1, (r1.map fun r => r.1), rfl, tP, L, n0, fun x => by rw [eP, ev_repF o1.nd], bP, ?_⟩
  rw [← pieces_parts o1.nd]
  refine ⟨p, r1, rfl, M3p, o1, w1, ?_⟩
  refine ⟨_, rfl, ok_piece o1 w1, ?_⟩
  simp only [trT, if_true]
  refine Bag.draw B3 (by omega) (by decide) (by decide) fun t1 M4 t10 t11 B4 S4 => ?_
  simp only [eq_gSubAii]
  refine Bag.draw B4 (by omega) (by decide) (by decide) fun t2 M5 t20 t21 B5 S5 => ?_
  simp only [eq_gAddii]
  have sb : ∀ {x : Int}, x.natAbs < 2 ^ 40 → x.natAbs < 2 ^ 2900 := fun h => Nat.lt_of_lt_of_le h (Nat.pow_le_pow_right (by decide) (by decide))
  refine ⟨t1 - 20, 1 + t2, rfl, by omega, sb (by omega), sb (by omega), ?_⟩
  refine ⟨z2, ⟨by omega, by omega, by decide⟩, ?_⟩
  refine Bag.draw B5 (by omega) (by decide) (by decide) fun t3 M6 t30 t31 B6 S6 => ?_
  simp only [eq_gAddii]
  refine ⟨⟨by omega, by omega, by decide⟩, ?_⟩
  refine ⟨100000000000 + t3, 1000000007, rfl, by decide, sb (by omega), sb (by decide), ?_⟩
  refine ⟨z3, fun a ha => ?_⟩
  obtain ⟨f1, k1⟩ := pt_low (a := t1 - 20) (b := 1 + t2) (by omega) (by omega) (by omega)
  obtain ⟨f3, k3⟩ := pt_low (a := 100000000000 + t3) (b := 1000000007) (by decide) (by omega) (by decide)
  rw [f1, f3]
  generalize (lowN (t1 - 20) (1 + t2), lowD (t1 - 20) (1 + t2)) = u1 at *
  generalize (lowN (100000000000 + t3) 1000000007, lowD (100000000000 + t3) 1000000007) = u3 at *
  have M6p : M6 p = some (.lst (r1.map rowD)) := (S6 p np.1 np.2.1).trans ((S5 p np.1 np.2.1).trans ((S4 p np.1 np.2.1).trans M3p))
  have s6 : SubBut b g M M6 := s3.trans (SubBut.of_same ((S4.trans S5).trans S6))
  have hap : a ≠ p := fun z => by rw [z, M6p] at ha; cases ha
  have na := B6.ne ha
  have hMa : M a = none := s6.none na.1 na.2.1 ha
  have i0 : ∀ (x y : D), atI [x, y] 0 = some x := fun _ _ => rfl
  have i1 : ∀ (x y : D), atI [x, y] 1 = some y := fun _ _ => rfl
  rw [if_neg hap.symm, M6p]
  refine for_in (fun i δ M' => ∃ (pts : List (Int × Int)) (x y z : Option D), δ = [some (.ref b), some (.bl k), some (.ref p), some (.ref q), some (T P), some (T Q), some (T G), some (.tup (piecesN r1 12)), some (.ref a), x, y, z] ∧
    M' = updM M6 a (.lst ((u1 :: pts).map ptD)) ∧ pts.length ≤ 2 + i ∧ ∀ z ∈ u1 :: pts, PtOk z) ?_ ?_ ?_ ?_
  · refine ⟨[(0, 1), u3], none, none, none, rfl, rfl, by simp, fun z hz => ?_⟩
    simp at hz
    rcases hz with rfl | rfl | rfl
    · exact k1
    · exact ⟨by decide, by decide, by decide⟩
    · exact k3
  · rintro i δ M' hi ⟨pts, x, y, z, rfl, rfl, hl, hp⟩
    rw [updM_ne hap.symm]; exact M6p
  · rintro i d δ M' hd ⟨pts, x, y, z, rfl, rfl, hl, hp⟩
    obtain ⟨r, hr, hrm, rfl⟩ := row_at hd
    simp
    have hi4 : i < 4 := by have := (List.getElem?_eq_some_iff.mp hr).1; omega
    by_cases h2 : r.1.length = 2
    · rw [if_pos (by omega)]
      have hf := o1.fac r hrm
      obtain ⟨fp, _⟩ := fac_prm hf
      have fsm := (FAC_sm hf).1.2
      obtain ⟨x0, y0, hxy⟩ : ∃ x0 y0, r.1 = [x0, y0] := by
        match hh : r.1, h2 with
        | [x0, y0], _ => exact ⟨x0, y0, rfl⟩
      have yp := fp.pos
      simp only [hxy] at yp fsm ⊢
      have yp' : 0 < y0 := by simpa using yp
      have nx : x0.natAbs + y0.natAbs ≤ 16 := by simpa [PA.n1] using fsm
      simp [i0, i1]
      refine ⟨-x0, y0, rfl, yp', sb (by omega), sb (by omega), ?_⟩
      obtain ⟨f4, k4⟩ := pt_low (a := -x0) (b := y0) yp' (by omega) (by omega)
      rw [f4]
      simp only [updM_same]
      generalize (lowN (-x0) y0, lowD (-x0) y0) = u4 at *
      refine ⟨by rw [size_line]; simp; omega, pts ++ [u4], by rw [updM_upd]; simp, by simp; omega, hp u1 (by simp), fun a b hab => ?_⟩
      rcases List.mem_append.mp hab with h | h
      · exact hp _ (by simp [h])
      · rw [List.mem_singleton.mp h]; exact k4
    · rw [if_neg (by omega)]
      refine ⟨pts, rfl, by omega, hp u1 (by simp), fun a b hab => hp _ (by simp [hab])⟩
  · rintro δ M' ⟨pts, x, y, z, rfl, rfl, hl, hp⟩
    rw [List.length_map] at hl
    simp
    have sv : ∀ (X : List Int) (z : Int × Int) (M' : Mem) (RR : DK), PtOk z → X.length ≤ 13 → Bits X 60 → RR (frD (hA z.1 z.2 X) (z.2 ^ (X.length - 1))) M' → spVal [T X, ptD z] M' RR := fun X z M' RR hz lX bX hr =>
      ⟨X, z.1, z.2, rfl, hz.1, lX, bX, hz.2.1, hz.2.2, hr⟩
    have bP60 : Bits P 60 := Bits.of_bd bP (by decide)
    refine for_in (fun i δ M' => M' = updM M6 a (.lst ((u1 :: pts).map ptD)) ∧ ∃ (x y z w : Option D), δ = [some (.ref b), some (.bl k), some (.ref p), some (.ref q), some (T P), some (T Q), some (T G), x, some (.ref a), y, z, w]) ?_ ?_ ?_ ?_
    · exact ⟨rfl, _, _, _, _, rfl⟩
    · rintro i δ M' hi ⟨rfl, _⟩
      exact updM_same
    · rintro i d δ M' hd ⟨rfl, x, y, z, w, rfl⟩
      obtain ⟨t, ht, rfl⟩ : ∃ t ∈ u1 :: pts, d = ptD t := by
        have := List.mem_of_getElem? hd
        rw [← List.map_cons] at this
        obtain ⟨t, ht, h⟩ := List.mem_map.mp this
        exact ⟨t, ht, h.symm⟩
      have ht := hp t ht
      simp [pm10]
      refine sv P t _ _ ht lP bP60 (sv P t _ _ ht lP bP60 ⟨_, rfl, ?_, ?_⟩)
      · have pp : 0 < t.2 ^ (P.length - 1) := Int.pow_pos ht.1
        rw [frD_pos pp]
        exact ok_pair 7 _ _ (ok_int _ _) (ok_int _ _)
      · simp only [trT, if_true]
    · rintro δ M' ⟨rfl, x, y, z, w, rfl⟩
      simp
      have at0 : ∀ (x : D) (xs : List D), atI (x :: xs) 0 = some x := fun x xs => atI_nat (by decide) rfl
      simp only [at0]
      have hu1 := hp u1 (by simp)
      have v0 : frD (hA u1.1 u1.2 []) (u1.2 ^ (([] : List Int).length - 1)) = .tup [.int 0, .int 1] := by
        show frD 0 (u1.2 ^ 0) = _
        rw [Int.pow_zero]; rfl
      have v5 : frD (hA u1.1 u1.2 [5]) (u1.2 ^ (([5] : List Int).length - 1)) = .tup [.int 5, .int 1] := by
        show frD (0 * u1.1 + 5 * u1.2 ^ 0) (u1.2 ^ 0) = _
        rw [Int.pow_zero, Int.zero_mul]; rfl
      refine sv [] u1 _ _ hu1 (by decide) (fun _ h => by cases h) ?_
      rw [v0]
      refine ⟨z1, ?_⟩
      simp only [updM_same, at0]
      refine sv [5] u1 _ _ hu1 (by decide) (fun c hc => by rw [List.mem_singleton.mp hc]; decide) ?_
      rw [v5]
      refine ⟨z2, _, rfl, ok_pair 7 _ _ (ok_pair 6 _ _ (ok_int _ _) (ok_int _ _)) (ok_pair 6 _ _ (ok_int _ _) (ok_int _ _)), ?_⟩
      exact fin _ 405 (by omega) ((B6.new ha).mono (by omega)) (s6.trans (SubBut.of_sub (Sub.new ha)))
end DD
end
section
namespace DD
open PySem PySem.Spec PyProof.Rows L2 PA
theorem k_law (ds : List D) (M : Mem) (R : DK) (h : spLaw [] ds M R) : r_law spBag spTold (endsF R) (startD N_law ds) M := by
  obtain ⟨d, cells, rfl, hit, hsc, hl, hbits, hT, k⟩ := h
  have sl := size_line
  obtain ⟨ok, hsrc, hok⟩ : ∃ ok, srcD M d = some (cells.map D.int, ok) ∧ ∀ p o, M p = none → ok (updM M p o) := by
    cases d with
    | rol xs => cases hit; exact ⟨_, rfl, fun _ _ _ => trivial⟩
    | ref a =>
      obtain ⟨xs, hx⟩ := hsc
      simp [hx] at hit
      subst hit
      exact ⟨fun M' => M' a = some (.lst (cells.map D.int)), by simp [hx], fun p o hp => (updM_ne (ne_none hp hx)).trans hx⟩
    | _ => exact hsc.elim
  unfold r_law
  simp
  refine ⟨d, cells, ok, rfl, hsrc, hok, hl, fun b g c M1 nb ng nc hB hS => ?_⟩
  have hdb : ∀ (M : Mem), ∃ M0, Sub M0 M ∧ R (.bl true) M0 := fun M => ⟨M, Sub.refl _, k M⟩
  clear hS hok hsrc hsc hit
  simp
  refine for_in (fun i δ M' => Bag M' b g c (1000 * i) ∧ ∃ o2, δ = [some d, some (.ref b), o2]) ⟨hB, _, rfl⟩ (fun _ _ _ _ _ => trivial) ?_ ?_
  · rintro i x δ M' hx ⟨hB, o2, rfl⟩
    obtain ⟨hi, rfl⟩ := range_at hx
    simp
    refine ⟨b, g, c, 1000 * i, _, rfl, hB, by omega, fun M2 B2 S2 => ?_⟩
    have trT : truD M2 (.bl true) = some true := rfl
    simp only [trT]
    simp
    exact B2.mono (by omega)
  · rintro δ M' ⟨hB, o2, rfl⟩
    simp
    exact hdb _
end DD
end
section
namespace DD
open PySem PySem.Spec PyProof.Rows L2
/-! ### the head: facts by names -/
def d_frac : He.DefD := ⟨("frac", none), "frac", "frac", defArgs s_frac, defBody s_frac, defScope s_frac, [], []⟩
def d_sign_of : He.DefD := ⟨("sign_of", none), "sign_of", "sign_of", defArgs s_sign_of, defBody s_sign_of, defScope s_sign_of, [], []⟩
def d_common_divisor : He.DefD := ⟨("common_divisor", none), "common_divisor", "common_divisor", defArgs s_common_divisor, defBody s_common_divisor, defScope s_common_divisor, [], []⟩
def d_trimmed : He.DefD := ⟨("trimmed", none), "trimmed", "trimmed", defArgs s_trimmed, defBody s_trimmed, defScope s_trimmed, [], []⟩
def d_poly_plus : He.DefD := ⟨("poly_plus", none), "poly_plus", "poly_plus", defArgs s_poly_plus, defBody s_poly_plus, defScope s_poly_plus, [], []⟩
def d_poly_scaled : He.DefD := ⟨("poly_scaled", none), "poly_scaled", "poly_scaled", defArgs s_poly_scaled, defBody s_poly_scaled, defScope s_poly_scaled, [], []⟩
def d_poly_minus : He.DefD := ⟨("poly_minus", none), "poly_minus", "poly_minus", defArgs s_poly_minus, defBody s_poly_minus, defScope s_poly_minus, [], []⟩
def d_poly_raised : He.DefD := ⟨("poly_raised", none), "poly_raised", "poly_raised", defArgs s_poly_raised, defBody s_poly_raised, defScope s_poly_raised, [], []⟩
def d_slope : He.DefD := ⟨("slope", none), "slope", "slope", defArgs s_slope, defBody s_slope, defScope s_slope, [], []⟩
def d_content : He.DefD := ⟨("content", none), "content", "content", defArgs s_content, defBody s_content, defScope s_content, [], []⟩
def d_reduced : He.DefD := ⟨("reduced", none), "reduced", "reduced", defArgs s_reduced, defBody s_reduced, defScope s_reduced, [], []⟩
def d_primitive : He.DefD := ⟨("primitive", none), "primitive", "primitive", defArgs s_primitive, defBody s_primitive, defScope s_primitive, [], []⟩
def d_divided : He.DefD := ⟨("divided", none), "divided", "divided", defArgs s_divided, defBody s_divided, defScope s_divided, [], []⟩
def d_exact_over : He.DefD := ⟨("exact_over", none), "exact_over", "exact_over", defArgs s_exact_over, defBody s_exact_over, defScope s_exact_over, [], []⟩
def d_scaled_value : He.DefD := ⟨("scaled_value", none), "scaled_value", "scaled_value", defArgs s_scaled_value, defBody s_scaled_value, defScope s_scaled_value, [], []⟩
def d_value_at : He.DefD := ⟨("value_at", none), "value_at", "value_at", defArgs s_value_at, defBody s_value_at, defScope s_value_at, [], []⟩
def d_common : He.DefD := ⟨("common", none), "common", "common", defArgs s_common, defBody s_common, defScope s_common, [], []⟩
def d_square_free : He.DefD := ⟨("square_free", none), "square_free", "square_free", defArgs s_square_free, defBody s_square_free, defScope s_square_free, [], []⟩
def d_l_bag : He.DefD := ⟨("_law_bag", none), "_law_bag", "_law_bag", defArgs s_l_bag, defBody s_l_bag, defScope s_l_bag, [], []⟩
def d_l_draw : He.DefD := ⟨("_law_draw", none), "_law_draw", "_law_draw", defArgs s_l_draw, defBody s_l_draw, defScope s_l_draw, [], []⟩
def d_l_pick : He.DefD := ⟨("_law_pick", none), "_law_pick", "_law_pick", defArgs s_l_pick, defBody s_l_pick, defScope s_l_pick, [], []⟩
def d_l_same : He.DefD := ⟨("_law_same", none), "_law_same", "_law_same", defArgs s_l_same, defBody s_l_same, defScope s_l_same, [], []⟩
def d_l_gcd : He.DefD := ⟨("_law_gcd", none), "_law_gcd", "_law_gcd", defArgs s_l_gcd, defBody s_l_gcd, defScope s_l_gcd, [], []⟩
def d_l_fr : He.DefD := ⟨("_law_fr", none), "_law_fr", "_law_fr", defArgs s_l_fr, defBody s_l_fr, defScope s_l_fr, [], []⟩
def d_l_add : He.DefD := ⟨("_law_add", none), "_law_add", "_law_add", defArgs s_l_add, defBody s_l_add, defScope s_l_add, [], []⟩
def d_l_mul : He.DefD := ⟨("_law_mul", none), "_law_mul", "_law_mul", defArgs s_l_mul, defBody s_l_mul, defScope s_l_mul, [], []⟩
def d_l_poly_mul : He.DefD := ⟨("_law_poly_mul", none), "_law_poly_mul", "_law_poly_mul", defArgs s_l_poly_mul, defBody s_l_poly_mul, defScope s_l_poly_mul, [], []⟩
def d_l_poly_at : He.DefD := ⟨("_law_poly_at", none), "_law_poly_at", "_law_poly_at", defArgs s_l_poly_at, defBody s_l_poly_at, defScope s_l_poly_at, [], []⟩
def d_l_trim : He.DefD := ⟨("_law_trim", none), "_law_trim", "_law_trim", defArgs s_l_trim, defBody s_l_trim, defScope s_l_trim, [], []⟩
def d_l_content : He.DefD := ⟨("_law_content", none), "_law_content", "_law_content", defArgs s_l_content, defBody s_l_content, defScope s_l_content, [], []⟩
def d_l_primitive : He.DefD := ⟨("_law_primitive", none), "_law_primitive", "_law_primitive", defArgs s_l_primitive, defBody s_l_primitive, defScope s_l_primitive, [], []⟩
def d_l_poly_power : He.DefD := ⟨("_law_poly_power", none), "_law_poly_power", "_law_poly_power", defArgs s_l_poly_power, defBody s_l_poly_power, defScope s_l_poly_power, [], []⟩
def d_l_poly_sum : He.DefD := ⟨("_law_poly_sum", none), "_law_poly_sum", "_law_poly_sum", defArgs s_l_poly_sum, defBody s_l_poly_sum, defScope s_l_poly_sum, [], []⟩
def d_l_moved : He.DefD := ⟨("_law_moved", none), "_law_moved", "_law_moved", defArgs s_l_moved, defBody s_l_moved, defScope s_l_moved, [], []⟩
def d_l_factor : He.DefD := ⟨("_law_factor", none), "_law_factor", "_law_factor", defArgs s_l_factor, defBody s_l_factor, defScope s_l_factor, [], []⟩
def d_l_factors_of : He.DefD := ⟨("_law_factors_of", none), "_law_factors_of", "_law_factors_of", defArgs s_l_factors_of, defBody s_l_factors_of, defScope s_l_factors_of, [], []⟩
def d_l_product : He.DefD := ⟨("_law_product", none), "_law_product", "_law_product", defArgs s_l_product, defBody s_l_product, defScope s_l_product, [], []⟩
def d_l_is_small : He.DefD := ⟨("_law_is_small", none), "_law_is_small", "_law_is_small", defArgs s_l_is_small, defBody s_l_is_small, defScope s_l_is_small, [], []⟩
def d_l_shared : He.DefD := ⟨("_law_shared", none), "_law_shared", "_law_shared", defArgs s_l_shared, defBody s_l_shared, defScope s_l_shared, [], []⟩
def d_l_parted : He.DefD := ⟨("_law_parted", none), "_law_parted", "_law_parted", defArgs s_l_parted, defBody s_l_parted, defScope s_l_parted, [], []⟩
def d_l_two_lots : He.DefD := ⟨("_law_two_lots", none), "_law_two_lots", "_law_two_lots", defArgs s_l_two_lots, defBody s_l_two_lots, defScope s_l_two_lots, [], []⟩
def d_l_is_told : He.DefD := ⟨("_law_is_told", none), "_law_is_told", "_law_is_told", defArgs s_l_is_told, defBody s_l_is_told, defScope s_l_is_told, [], []⟩
def d_law : He.DefD := ⟨("law", none), "law", "law", defArgs s_law, defBody s_law, defScope s_law, [], []⟩
def fnAll0 : List He.DefD := [d_frac, d_sign_of, d_common_divisor, d_trimmed, d_poly_plus, d_poly_scaled, d_poly_minus, d_poly_raised, d_slope, d_content, d_reduced, d_primitive, d_divided, d_exact_over, d_scaled_value, d_value_at, d_common, d_square_free, d_l_bag, d_l_draw, d_l_pick, d_l_same, d_l_gcd, d_l_fr, d_l_add, d_l_mul, d_l_poly_mul, d_l_poly_at, d_l_trim, d_l_content]
def fnAll1 : List He.DefD := [d_l_primitive, d_l_poly_power, d_l_poly_sum, d_l_moved, d_l_factor, d_l_factors_of, d_l_product, d_l_is_small, d_l_shared, d_l_parted, d_l_two_lots, d_l_is_told, d_law]
def fnAll : List He.DefD := fnAll0 ++ fnAll1
def faAll0 : List He.Fa := [.glo "frac", .glo "sign_of", .glo "common_divisor", .glo "trimmed", .glo "poly_plus", .glo "poly_scaled", .glo "poly_minus", .glo "poly_raised", .glo "slope", .glo "content", .glo "reduced", .glo "primitive", .glo "divided", .glo "exact_over", .glo "scaled_value", .glo "value_at", .glo "common", .glo "square_free", .glo "_law_bag", .glo "_law_draw", .glo "_law_pick", .glo "_law_same", .glo "_law_gcd", .glo "_law_fr", .glo "_law_add", .glo "_law_mul", .glo "_law_poly_mul", .glo "_law_poly_at", .glo "_law_trim", .glo "_law_content"]
def faAll1 : List He.Fa := [.glo "_law_primitive", .glo "_law_poly_power", .glo "_law_poly_sum", .glo "_law_moved", .glo "_law_factor", .glo "_law_factors_of", .glo "_law_product", .glo "_law_is_small", .glo "_law_shared", .glo "_law_parted", .glo "_law_two_lots", .glo "_law_is_told", .glo "law", .free "len", .free "abs", .free "sum", .free "min", .free "max", .free "any", .free "all", .free "sorted", .free "isinstance", .free "int", .free "bool", .free "str", .free "list", .free "tuple", .free "dict", .free "set", .free "range"]
def faAll2 : List He.Fa := [.free "enumerate", .free "zip", .free "reversed"]
def faAll : List He.Fa := faAll0 ++ faAll1 ++ faAll2
def tfAll : List He.Defn := []
def exAll : PySem.W.Frag → Bool := fun K => He.eqO (PySem.W.nsIn K mainGlobals "gcd") (some (some (.builtin "math.gcd")))
theorem told_gcd {K : PySem.W.Frag} {h : Heap} {mg : Str → Option Value} (X : K.In h) (G : h.Ns mainGlobals mg) (c : exAll K = true) : mg "gcd" = some (.builtin "math.gcd") := PySem.W.mg_of X G (He.eqO_ok c)
def looseAll0 : List Str := ["frac", "sign_of", "common_divisor", "trimmed", "poly_plus", "poly_scaled", "poly_minus", "poly_raised", "slope", "content", "reduced", "primitive", "divided", "exact_over", "scaled_value", "value_at", "common", "square_free", "_law_bag", "_law_draw", "_law_pick", "_law_same", "_law_gcd", "_law_fr", "_law_add", "_law_mul", "_law_poly_mul", "_law_poly_at", "_law_trim", "_law_content"]
def looseAll1 : List Str := ["_law_primitive", "_law_poly_power", "_law_poly_sum", "_law_moved", "_law_factor", "_law_factors_of", "_law_product", "_law_is_small", "_law_shared", "_law_parted", "_law_two_lots", "_law_is_told"]
def looseAll : List Str := looseAll0 ++ looseAll1
abbrev Rw : PySem.W.OpenRow := PySem.W.OpenLaw.row PySem.Challenge.rw_wayorring_k01_values_common_square_free
abbrev hkAll : PySem.W.Hook := He.hookX 5 faAll fnAll [] tfAll exAll
def obAll (s : PySem.W.SharedT) : He.AlX := He.obsX 5 faAll fnAll [] tfAll exAll (HandSHeadRun.getT s)
theorem obAll_eq (s : PySem.W.SharedT) : obAll s = hkAll.obs s.abs := He.obsX_eq (HandSHeadRun.getT_eq s)
theorem runAll (w : World) : HandSHeadRun.RunEqI Rw (PySem.W.view Rw.prog [0, 46]) hkAll obAll 20000 looseAll w := by
  unfold HandSHeadRun.RunEqI
  kernel_rfl
structure Told (K : PySem.W.Frag) (mg : Str → Option Value) : Prop where
  t_frac : ∃ fd, FnP K "frac" "frac" s_frac (He.fAd K d_frac.at_) fd
  g_frac : mg "frac" = some (.ref (He.fAd K d_frac.at_))
  t_sign_of : ∃ fd, FnP K "sign_of" "sign_of" s_sign_of (He.fAd K d_sign_of.at_) fd
  g_sign_of : mg "sign_of" = some (.ref (He.fAd K d_sign_of.at_))
  t_common_divisor : ∃ fd, FnP K "common_divisor" "common_divisor" s_common_divisor (He.fAd K d_common_divisor.at_) fd
  g_common_divisor : mg "common_divisor" = some (.ref (He.fAd K d_common_divisor.at_))
  t_trimmed : ∃ fd, FnP K "trimmed" "trimmed" s_trimmed (He.fAd K d_trimmed.at_) fd
  g_trimmed : mg "trimmed" = some (.ref (He.fAd K d_trimmed.at_))
  t_poly_plus : ∃ fd, FnP K "poly_plus" "poly_plus" s_poly_plus (He.fAd K d_poly_plus.at_) fd
  g_poly_plus : mg "poly_plus" = some (.ref (He.fAd K d_poly_plus.at_))
  t_poly_scaled : ∃ fd, FnP K "poly_scaled" "poly_scaled" s_poly_scaled (He.fAd K d_poly_scaled.at_) fd
  g_poly_scaled : mg "poly_scaled" = some (.ref (He.fAd K d_poly_scaled.at_))
  t_poly_minus : ∃ fd, FnP K "poly_minus" "poly_minus" s_poly_minus (He.fAd K d_poly_minus.at_) fd
  g_poly_minus : mg "poly_minus" = some (.ref (He.fAd K d_poly_minus.at_))
  t_poly_raised : ∃ fd, FnP K "poly_raised" "poly_raised" s_poly_raised (He.fAd K d_poly_raised.at_) fd
  g_poly_raised : mg "poly_raised" = some (.ref (He.fAd K d_poly_raised.at_))
  t_slope : ∃ fd, FnP K "slope" "slope" s_slope (He.fAd K d_slope.at_) fd
  g_slope : mg "slope" = some (.ref (He.fAd K d_slope.at_))
  t_content : ∃ fd, FnP K "content" "content" s_content (He.fAd K d_content.at_) fd
  g_content : mg "content" = some (.ref (He.fAd K d_content.at_))
  t_reduced : ∃ fd, FnP K "reduced" "reduced" s_reduced (He.fAd K d_reduced.at_) fd
  g_reduced : mg "reduced" = some (.ref (He.fAd K d_reduced.at_))
  t_primitive : ∃ fd, FnP K "primitive" "primitive" s_primitive (He.fAd K d_primitive.at_) fd
  g_primitive : mg "primitive" = some (.ref (He.fAd K d_primitive.at_))
  t_divided : ∃ fd, FnP K "divided" "divided" s_divided (He.fAd K d_divided.at_) fd
  g_divided : mg "divided" = some (.ref (He.fAd K d_divided.at_))
  t_exact_over : ∃ fd, FnP K "exact_over" "exact_over" s_exact_over (He.fAd K d_exact_over.at_) fd
  g_exact_over : mg "exact_over" = some (.ref (He.fAd K d_exact_over.at_))
  t_scaled_value : ∃ fd, FnP K "scaled_value" "scaled_value" s_scaled_value (He.fAd K d_scaled_value.at_) fd
  g_scaled_value : mg "scaled_value" = some (.ref (He.fAd K d_scaled_value.at_))
  t_value_at : ∃ fd, FnP K "value_at" "value_at" s_value_at (He.fAd K d_value_at.at_) fd
  g_value_at : mg "value_at" = some (.ref (He.fAd K d_value_at.at_))
  t_common : ∃ fd, FnP K "common" "common" s_common (He.fAd K d_common.at_) fd
  g_common : mg "common" = some (.ref (He.fAd K d_common.at_))
  t_square_free : ∃ fd, FnP K "square_free" "square_free" s_square_free (He.fAd K d_square_free.at_) fd
  g_square_free : mg "square_free" = some (.ref (He.fAd K d_square_free.at_))
  t_l_bag : ∃ fd, FnP K "_law_bag" "_law_bag" s_l_bag (He.fAd K d_l_bag.at_) fd
  g_l_bag : mg "_law_bag" = some (.ref (He.fAd K d_l_bag.at_))
  t_l_draw : ∃ fd, FnP K "_law_draw" "_law_draw" s_l_draw (He.fAd K d_l_draw.at_) fd
  g_l_draw : mg "_law_draw" = some (.ref (He.fAd K d_l_draw.at_))
  t_l_pick : ∃ fd, FnP K "_law_pick" "_law_pick" s_l_pick (He.fAd K d_l_pick.at_) fd
  g_l_pick : mg "_law_pick" = some (.ref (He.fAd K d_l_pick.at_))
  t_l_same : ∃ fd, FnP K "_law_same" "_law_same" s_l_same (He.fAd K d_l_same.at_) fd
  g_l_same : mg "_law_same" = some (.ref (He.fAd K d_l_same.at_))
  t_l_gcd : ∃ fd, FnP K "_law_gcd" "_law_gcd" s_l_gcd (He.fAd K d_l_gcd.at_) fd
  g_l_gcd : mg "_law_gcd" = some (.ref (He.fAd K d_l_gcd.at_))
  t_l_fr : ∃ fd, FnP K "_law_fr" "_law_fr" s_l_fr (He.fAd K d_l_fr.at_) fd
  g_l_fr : mg "_law_fr" = some (.ref (He.fAd K d_l_fr.at_))
  t_l_add : ∃ fd, FnP K "_law_add" "_law_add" s_l_add (He.fAd K d_l_add.at_) fd
  g_l_add : mg "_law_add" = some (.ref (He.fAd K d_l_add.at_))
  t_l_mul : ∃ fd, FnP K "_law_mul" "_law_mul" s_l_mul (He.fAd K d_l_mul.at_) fd
  g_l_mul : mg "_law_mul" = some (.ref (He.fAd K d_l_mul.at_))
  t_l_poly_mul : ∃ fd, FnP K "_law_poly_mul" "_law_poly_mul" s_l_poly_mul (He.fAd K d_l_poly_mul.at_) fd
  g_l_poly_mul : mg "_law_poly_mul" = some (.ref (He.fAd K d_l_poly_mul.at_))
  t_l_poly_at : ∃ fd, FnP K "_law_poly_at" "_law_poly_at" s_l_poly_at (He.fAd K d_l_poly_at.at_) fd
  g_l_poly_at : mg "_law_poly_at" = some (.ref (He.fAd K d_l_poly_at.at_))
  t_l_trim : ∃ fd, FnP K "_law_trim" "_law_trim" s_l_trim (He.fAd K d_l_trim.at_) fd
  g_l_trim : mg "_law_trim" = some (.ref (He.fAd K d_l_trim.at_))
  t_l_content : ∃ fd, FnP K "_law_content" "_law_content" s_l_content (He.fAd K d_l_content.at_) fd
  g_l_content : mg "_law_content" = some (.ref (He.fAd K d_l_content.at_))
  t_l_primitive : ∃ fd, FnP K "_law_primitive" "_law_primitive" s_l_primitive (He.fAd K d_l_primitive.at_) fd
  g_l_primitive : mg "_law_primitive" = some (.ref (He.fAd K d_l_primitive.at_))
  t_l_poly_power : ∃ fd, FnP K "_law_poly_power" "_law_poly_power" s_l_poly_power (He.fAd K d_l_poly_power.at_) fd
  g_l_poly_power : mg "_law_poly_power" = some (.ref (He.fAd K d_l_poly_power.at_))
  t_l_poly_sum : ∃ fd, FnP K "_law_poly_sum" "_law_poly_sum" s_l_poly_sum (He.fAd K d_l_poly_sum.at_) fd
  g_l_poly_sum : mg "_law_poly_sum" = some (.ref (He.fAd K d_l_poly_sum.at_))
  t_l_moved : ∃ fd, FnP K "_law_moved" "_law_moved" s_l_moved (He.fAd K d_l_moved.at_) fd
  g_l_moved : mg "_law_moved" = some (.ref (He.fAd K d_l_moved.at_))
  t_l_factor : ∃ fd, FnP K "_law_factor" "_law_factor" s_l_factor (He.fAd K d_l_factor.at_) fd
  g_l_factor : mg "_law_factor" = some (.ref (He.fAd K d_l_factor.at_))
  t_l_factors_of : ∃ fd, FnP K "_law_factors_of" "_law_factors_of" s_l_factors_of (He.fAd K d_l_factors_of.at_) fd
  g_l_factors_of : mg "_law_factors_of" = some (.ref (He.fAd K d_l_factors_of.at_))
  t_l_product : ∃ fd, FnP K "_law_product" "_law_product" s_l_product (He.fAd K d_l_product.at_) fd
  g_l_product : mg "_law_product" = some (.ref (He.fAd K d_l_product.at_))
  t_l_is_small : ∃ fd, FnP K "_law_is_small" "_law_is_small" s_l_is_small (He.fAd K d_l_is_small.at_) fd
  g_l_is_small : mg "_law_is_small" = some (.ref (He.fAd K d_l_is_small.at_))
  t_l_shared : ∃ fd, FnP K "_law_shared" "_law_shared" s_l_shared (He.fAd K d_l_shared.at_) fd
  g_l_shared : mg "_law_shared" = some (.ref (He.fAd K d_l_shared.at_))
  t_l_parted : ∃ fd, FnP K "_law_parted" "_law_parted" s_l_parted (He.fAd K d_l_parted.at_) fd
  g_l_parted : mg "_law_parted" = some (.ref (He.fAd K d_l_parted.at_))
  t_l_two_lots : ∃ fd, FnP K "_law_two_lots" "_law_two_lots" s_l_two_lots (He.fAd K d_l_two_lots.at_) fd
  g_l_two_lots : mg "_law_two_lots" = some (.ref (He.fAd K d_l_two_lots.at_))
  t_l_is_told : ∃ fd, FnP K "_law_is_told" "_law_is_told" s_l_is_told (He.fAd K d_l_is_told.at_) fd
  g_l_is_told : mg "_law_is_told" = some (.ref (He.fAd K d_l_is_told.at_))
  t_law : ∃ fd, FnP K "law" "law" s_law (He.fAd K d_law.at_) fd
  g_law : mg "law" = some (.ref (He.fAd K d_law.at_))
  nb_len : mg "len" = none
  nb_abs : mg "abs" = none
  nb_sum : mg "sum" = none
  nb_min : mg "min" = none
  nb_max : mg "max" = none
  nb_any : mg "any" = none
  nb_all : mg "all" = none
  nb_sorted : mg "sorted" = none
  nb_isinstance : mg "isinstance" = none
  nb_int : mg "int" = none
  nb_bool : mg "bool" = none
  nb_str : mg "str" = none
  nb_list : mg "list" = none
  nb_tuple : mg "tuple" = none
  nb_dict : mg "dict" = none
  nb_set : mg "set" = none
  nb_range : mg "range" = none
  nb_enumerate : mg "enumerate" = none
  nb_zip : mg "zip" = none
  nb_reversed : mg "reversed" = none
theorem told {K : PySem.W.Frag} {h : Heap} {mg : Str → Option Value} (X : K.In h) (G : h.Ns mainGlobals mg) (c : He.SaysD faAll fnAll K) : Told K mg where
  t_frac := c.def_ 0 (d := d_frac) rfl
  g_frac := He.glo_ok X G (c.fact 0 (f := .glo "frac") rfl)
  t_sign_of := c.def_ 1 (d := d_sign_of) rfl
  g_sign_of := He.glo_ok X G (c.fact 1 (f := .glo "sign_of") rfl)
  t_common_divisor := c.def_ 2 (d := d_common_divisor) rfl
  g_common_divisor := He.glo_ok X G (c.fact 2 (f := .glo "common_divisor") rfl)
  t_trimmed := c.def_ 3 (d := d_trimmed) rfl
  g_trimmed := He.glo_ok X G (c.fact 3 (f := .glo "trimmed") rfl)
  t_poly_plus := c.def_ 4 (d := d_poly_plus) rfl
  g_poly_plus := He.glo_ok X G (c.fact 4 (f := .glo "poly_plus") rfl)
  t_poly_scaled := c.def_ 5 (d := d_poly_scaled) rfl
  g_poly_scaled := He.glo_ok X G (c.fact 5 (f := .glo "poly_scaled") rfl)
  t_poly_minus := c.def_ 6 (d := d_poly_minus) rfl
  g_poly_minus := He.glo_ok X G (c.fact 6 (f := .glo "poly_minus") rfl)
  t_poly_raised := c.def_ 7 (d := d_poly_raised) rfl
  g_poly_raised := He.glo_ok X G (c.fact 7 (f := .glo "poly_raised") rfl)
  t_slope := c.def_ 8 (d := d_slope) rfl
  g_slope := He.glo_ok X G (c.fact 8 (f := .glo "slope") rfl)
  t_content := c.def_ 9 (d := d_content) rfl
  g_content := He.glo_ok X G (c.fact 9 (f := .glo "content") rfl)
  t_reduced := c.def_ 10 (d := d_reduced) rfl
  g_reduced := He.glo_ok X G (c.fact 10 (f := .glo "reduced") rfl)
  t_primitive := c.def_ 11 (d := d_primitive) rfl
  g_primitive := He.glo_ok X G (c.fact 11 (f := .glo "primitive") rfl)
  t_divided := c.def_ 12 (d := d_divided) rfl
  g_divided := He.glo_ok X G (c.fact 12 (f := .glo "divided") rfl)
  t_exact_over := c.def_ 13 (d := d_exact_over) rfl
  g_exact_over := He.glo_ok X G (c.fact 13 (f := .glo "exact_over") rfl)
  t_scaled_value := c.def_ 14 (d := d_scaled_value) rfl
  g_scaled_value := He.glo_ok X G (c.fact 14 (f := .glo "scaled_value") rfl)
  t_value_at := c.def_ 15 (d := d_value_at) rfl
  g_value_at := He.glo_ok X G (c.fact 15 (f := .glo "value_at") rfl)
  t_common := c.def_ 16 (d := d_common) rfl
  g_common := He.glo_ok X G (c.fact 16 (f := .glo "common") rfl)
  t_square_free := c.def_ 17 (d := d_square_free) rfl
  g_square_free := He.glo_ok X G (c.fact 17 (f := .glo "square_free") rfl)
  t_l_bag := c.def_ 18 (d := d_l_bag) rfl
  g_l_bag := He.glo_ok X G (c.fact 18 (f := .glo "_law_bag") rfl)
  t_l_draw := c.def_ 19 (d := d_l_draw) rfl
  g_l_draw := He.glo_ok X G (c.fact 19 (f := .glo "_law_draw") rfl)
  t_l_pick := c.def_ 20 (d := d_l_pick) rfl
  g_l_pick := He.glo_ok X G (c.fact 20 (f := .glo "_law_pick") rfl)
  t_l_same := c.def_ 21 (d := d_l_same) rfl
  g_l_same := He.glo_ok X G (c.fact 21 (f := .glo "_law_same") rfl)
  t_l_gcd := c.def_ 22 (d := d_l_gcd) rfl
  g_l_gcd := He.glo_ok X G (c.fact 22 (f := .glo "_law_gcd") rfl)
  t_l_fr := c.def_ 23 (d := d_l_fr) rfl
  g_l_fr := He.glo_ok X G (c.fact 23 (f := .glo "_law_fr") rfl)
  t_l_add := c.def_ 24 (d := d_l_add) rfl
  g_l_add := He.glo_ok X G (c.fact 24 (f := .glo "_law_add") rfl)
  t_l_mul := c.def_ 25 (d := d_l_mul) rfl
  g_l_mul := He.glo_ok X G (c.fact 25 (f := .glo "_law_mul") rfl)
  t_l_poly_mul := c.def_ 26 (d := d_l_poly_mul) rfl
  g_l_poly_mul := He.glo_ok X G (c.fact 26 (f := .glo "_law_poly_mul") rfl)
  t_l_poly_at := c.def_ 27 (d := d_l_poly_at) rfl
  g_l_poly_at := He.glo_ok X G (c.fact 27 (f := .glo "_law_poly_at") rfl)
  t_l_trim := c.def_ 28 (d := d_l_trim) rfl
  g_l_trim := He.glo_ok X G (c.fact 28 (f := .glo "_law_trim") rfl)
  t_l_content := c.def_ 29 (d := d_l_content) rfl
  g_l_content := He.glo_ok X G (c.fact 29 (f := .glo "_law_content") rfl)
  t_l_primitive := c.def_ 30 (d := d_l_primitive) rfl
  g_l_primitive := He.glo_ok X G (c.fact 30 (f := .glo "_law_primitive") rfl)
  t_l_poly_power := c.def_ 31 (d := d_l_poly_power) rfl
  g_l_poly_power := He.glo_ok X G (c.fact 31 (f := .glo "_law_poly_power") rfl)
  t_l_poly_sum := c.def_ 32 (d := d_l_poly_sum) rfl
  g_l_poly_sum := He.glo_ok X G (c.fact 32 (f := .glo "_law_poly_sum") rfl)
  t_l_moved := c.def_ 33 (d := d_l_moved) rfl
  g_l_moved := He.glo_ok X G (c.fact 33 (f := .glo "_law_moved") rfl)
  t_l_factor := c.def_ 34 (d := d_l_factor) rfl
  g_l_factor := He.glo_ok X G (c.fact 34 (f := .glo "_law_factor") rfl)
  t_l_factors_of := c.def_ 35 (d := d_l_factors_of) rfl
  g_l_factors_of := He.glo_ok X G (c.fact 35 (f := .glo "_law_factors_of") rfl)
  t_l_product := c.def_ 36 (d := d_l_product) rfl
  g_l_product := He.glo_ok X G (c.fact 36 (f := .glo "_law_product") rfl)
  t_l_is_small := c.def_ 37 (d := d_l_is_small) rfl
  g_l_is_small := He.glo_ok X G (c.fact 37 (f := .glo "_law_is_small") rfl)
  t_l_shared := c.def_ 38 (d := d_l_shared) rfl
  g_l_shared := He.glo_ok X G (c.fact 38 (f := .glo "_law_shared") rfl)
  t_l_parted := c.def_ 39 (d := d_l_parted) rfl
  g_l_parted := He.glo_ok X G (c.fact 39 (f := .glo "_law_parted") rfl)
  t_l_two_lots := c.def_ 40 (d := d_l_two_lots) rfl
  g_l_two_lots := He.glo_ok X G (c.fact 40 (f := .glo "_law_two_lots") rfl)
  t_l_is_told := c.def_ 41 (d := d_l_is_told) rfl
  g_l_is_told := He.glo_ok X G (c.fact 41 (f := .glo "_law_is_told") rfl)
  t_law := c.def_ 42 (d := d_law) rfl
  g_law := He.glo_ok X G (c.fact 42 (f := .glo "law") rfl)
  nb_len := He.free_ok X G (c.fact 43 (f := .free "len") rfl)
  nb_abs := He.free_ok X G (c.fact 44 (f := .free "abs") rfl)
  nb_sum := He.free_ok X G (c.fact 45 (f := .free "sum") rfl)
  nb_min := He.free_ok X G (c.fact 46 (f := .free "min") rfl)
  nb_max := He.free_ok X G (c.fact 47 (f := .free "max") rfl)
  nb_any := He.free_ok X G (c.fact 48 (f := .free "any") rfl)
  nb_all := He.free_ok X G (c.fact 49 (f := .free "all") rfl)
  nb_sorted := He.free_ok X G (c.fact 50 (f := .free "sorted") rfl)
  nb_isinstance := He.free_ok X G (c.fact 51 (f := .free "isinstance") rfl)
  nb_int := He.free_ok X G (c.fact 52 (f := .free "int") rfl)
  nb_bool := He.free_ok X G (c.fact 53 (f := .free "bool") rfl)
  nb_str := He.free_ok X G (c.fact 54 (f := .free "str") rfl)
  nb_list := He.free_ok X G (c.fact 55 (f := .free "list") rfl)
  nb_tuple := He.free_ok X G (c.fact 56 (f := .free "tuple") rfl)
  nb_dict := He.free_ok X G (c.fact 57 (f := .free "dict") rfl)
  nb_set := He.free_ok X G (c.fact 58 (f := .free "set") rfl)
  nb_range := He.free_ok X G (c.fact 59 (f := .free "range") rfl)
  nb_enumerate := He.free_ok X G (c.fact 60 (f := .free "enumerate") rfl)
  nb_zip := He.free_ok X G (c.fact 61 (f := .free "zip") rfl)
  nb_reversed := He.free_ok X G (c.fact 62 (f := .free "reversed") rfl)
theorem Told.nb {K : PySem.W.Frag} {W : Wd} (T : Told K W.mg) : NB W := ⟨T.nb_len, T.nb_abs, T.nb_sum, T.nb_min, T.nb_max, T.nb_any, T.nb_all, T.nb_sorted, T.nb_isinstance, T.nb_int, T.nb_bool, T.nb_str, T.nb_list, T.nb_tuple, T.nb_dict, T.nb_set, T.nb_range, T.nb_enumerate, T.nb_zip, T.nb_reversed⟩
end DD
end
section
namespace DD
open PySem PySem.Spec PyProof.Rows L2 PA
/-! ### every def keeps its promise -/
theorem all01 {W : Wd} (T : Told W.K W.mg) (ng : W.mg "gcd" = some (.builtin "math.gcd")) {fl : FuncData} (Fl : FnP W.K "law" "law" s_law (He.fAd W.K ("law", none)) fl) : DFn W 11 (He.fAd W.K ("law", none)) fl ["script"] (spLaw []) := by
  have nb := T.nb
  obtain ⟨f_frac, F_frac⟩ := T.t_frac
  have d_frac : DFn W 1 (He.fAd W.K ("frac", none)) f_frac P_frac (spFrac) := dfn_mkD F_frac sc_frac (bd_frac F_frac) (fun ds M R h => by first | (obtain ⟨_, rfl, _⟩ := h; rfl) | (obtain ⟨_, _, rfl, _⟩ := h; rfl) | (obtain ⟨_, _, _, rfl, _⟩ := h; rfl) | (obtain ⟨_, _, _, _, rfl, _⟩ := h; rfl) | (obtain ⟨_, _, _, _, _, rfl, _⟩ := h; rfl) | (obtain ⟨_, _, _, _, _, _, rfl, _⟩ := h; rfl) | (obtain ⟨_, _, _, _, _, _, _, rfl, _⟩ := h; rfl) | (obtain ⟨_, _, _, _, _, _, _, _, rfl, _⟩ := h; rfl) | (obtain ⟨_, _, _, _, _, _, _, _, _, rfl, _⟩ := h; rfl)) ⟨r_frac , (body_frac ng).c, k_frac⟩
  have g_frac : GFn W 1 "frac" P_frac (spFrac) := ⟨_, _, T.g_frac, d_frac⟩
  obtain ⟨f_sign_of, F_sign_of⟩ := T.t_sign_of
  have d_sign_of : DFn W 1 (He.fAd W.K ("sign_of", none)) f_sign_of P_sign_of (spSign) := dfn_mkD F_sign_of sc_sign_of (bd_sign_of F_sign_of) (fun ds M R h => by first | (obtain ⟨_, rfl, _⟩ := h; rfl) | (obtain ⟨_, _, rfl, _⟩ := h; rfl) | (obtain ⟨_, _, _, rfl, _⟩ := h; rfl) | (obtain ⟨_, _, _, _, rfl, _⟩ := h; rfl) | (obtain ⟨_, _, _, _, _, rfl, _⟩ := h; rfl) | (obtain ⟨_, _, _, _, _, _, rfl, _⟩ := h; rfl) | (obtain ⟨_, _, _, _, _, _, _, rfl, _⟩ := h; rfl) | (obtain ⟨_, _, _, _, _, _, _, _, rfl, _⟩ := h; rfl) | (obtain ⟨_, _, _, _, _, _, _, _, _, rfl, _⟩ := h; rfl)) ⟨r_sign_of , (body_sign_of ).c, k_sign_of⟩
  have g_sign_of : GFn W 1 "sign_of" P_sign_of (spSign) := ⟨_, _, T.g_sign_of, d_sign_of⟩
  obtain ⟨f_common_divisor, F_common_divisor⟩ := T.t_common_divisor
  have d_common_divisor : DFn W 1 (He.fAd W.K ("common_divisor", none)) f_common_divisor P_common_divisor (spCdv) := dfn_mkD F_common_divisor sc_common_divisor (bd_common_divisor F_common_divisor) (fun ds M R h => by first | (obtain ⟨_, rfl, _⟩ := h; rfl) | (obtain ⟨_, _, rfl, _⟩ := h; rfl) | (obtain ⟨_, _, _, rfl, _⟩ := h; rfl) | (obtain ⟨_, _, _, _, rfl, _⟩ := h; rfl) | (obtain ⟨_, _, _, _, _, rfl, _⟩ := h; rfl) | (obtain ⟨_, _, _, _, _, _, rfl, _⟩ := h; rfl) | (obtain ⟨_, _, _, _, _, _, _, rfl, _⟩ := h; rfl) | (obtain ⟨_, _, _, _, _, _, _, _, rfl, _⟩ := h; rfl) | (obtain ⟨_, _, _, _, _, _, _, _, _, rfl, _⟩ := h; rfl)) ⟨r_common_divisor , (body_common_divisor ng).c, k_common_divisor⟩
  have g_common_divisor : GFn W 1 "common_divisor" P_common_divisor (spCdv) := ⟨_, _, T.g_common_divisor, d_common_divisor⟩
  obtain ⟨f_trimmed, F_trimmed⟩ := T.t_trimmed
  have d_trimmed : DFn W 1 (He.fAd W.K ("trimmed", none)) f_trimmed P_trimmed (spTrimmed) := dfn_mkD F_trimmed sc_trimmed (bd_trimmed F_trimmed) (fun ds M R h => by first | (obtain ⟨_, rfl, _⟩ := h; rfl) | (obtain ⟨_, _, rfl, _⟩ := h; rfl) | (obtain ⟨_, _, _, rfl, _⟩ := h; rfl) | (obtain ⟨_, _, _, _, rfl, _⟩ := h; rfl) | (obtain ⟨_, _, _, _, _, rfl, _⟩ := h; rfl) | (obtain ⟨_, _, _, _, _, _, rfl, _⟩ := h; rfl) | (obtain ⟨_, _, _, _, _, _, _, rfl, _⟩ := h; rfl) | (obtain ⟨_, _, _, _, _, _, _, _, rfl, _⟩ := h; rfl) | (obtain ⟨_, _, _, _, _, _, _, _, _, rfl, _⟩ := h; rfl)) ⟨r_trimmed , (body_trimmed nb).c, k_trimmed⟩
  have g_trimmed : GFn W 1 "trimmed" P_trimmed (spTrimmed) := ⟨_, _, T.g_trimmed, d_trimmed⟩
  obtain ⟨f_poly_plus, F_poly_plus⟩ := T.t_poly_plus
  have d_poly_plus : DFn W 2 (He.fAd W.K ("poly_plus", none)) f_poly_plus P_poly_plus (spPlus) := dfn_mkD F_poly_plus sc_poly_plus (bd_poly_plus F_poly_plus) (fun ds M R h => by first | (obtain ⟨_, rfl, _⟩ := h; rfl) | (obtain ⟨_, _, rfl, _⟩ := h; rfl) | (obtain ⟨_, _, _, rfl, _⟩ := h; rfl) | (obtain ⟨_, _, _, _, rfl, _⟩ := h; rfl) | (obtain ⟨_, _, _, _, _, rfl, _⟩ := h; rfl) | (obtain ⟨_, _, _, _, _, _, rfl, _⟩ := h; rfl) | (obtain ⟨_, _, _, _, _, _, _, rfl, _⟩ := h; rfl) | (obtain ⟨_, _, _, _, _, _, _, _, rfl, _⟩ := h; rfl) | (obtain ⟨_, _, _, _, _, _, _, _, _, rfl, _⟩ := h; rfl)) ⟨r_poly_plus spTrimmed, (body_poly_plus (g_trimmed.mono (by decide)) nb).c, k_poly_plus⟩
  have g_poly_plus : GFn W 2 "poly_plus" P_poly_plus (spPlus) := ⟨_, _, T.g_poly_plus, d_poly_plus⟩
  obtain ⟨f_poly_scaled, F_poly_scaled⟩ := T.t_poly_scaled
  have d_poly_scaled : DFn W 1 (He.fAd W.K ("poly_scaled", none)) f_poly_scaled P_poly_scaled (spScaled) := dfn_mkD F_poly_scaled sc_poly_scaled (bd_poly_scaled F_poly_scaled) (fun ds M R h => by first | (obtain ⟨_, rfl, _⟩ := h; rfl) | (obtain ⟨_, _, rfl, _⟩ := h; rfl) | (obtain ⟨_, _, _, rfl, _⟩ := h; rfl) | (obtain ⟨_, _, _, _, rfl, _⟩ := h; rfl) | (obtain ⟨_, _, _, _, _, rfl, _⟩ := h; rfl) | (obtain ⟨_, _, _, _, _, _, rfl, _⟩ := h; rfl) | (obtain ⟨_, _, _, _, _, _, _, rfl, _⟩ := h; rfl) | (obtain ⟨_, _, _, _, _, _, _, _, rfl, _⟩ := h; rfl) | (obtain ⟨_, _, _, _, _, _, _, _, _, rfl, _⟩ := h; rfl)) ⟨r_poly_scaled , (body_poly_scaled nb).c, k_poly_scaled⟩
  have g_poly_scaled : GFn W 1 "poly_scaled" P_poly_scaled (spScaled) := ⟨_, _, T.g_poly_scaled, d_poly_scaled⟩
  obtain ⟨f_poly_minus, F_poly_minus⟩ := T.t_poly_minus
  have d_poly_minus : DFn W 3 (He.fAd W.K ("poly_minus", none)) f_poly_minus P_poly_minus (spMinus) := dfn_mkD F_poly_minus sc_poly_minus (bd_poly_minus F_poly_minus) (fun ds M R h => by first | (obtain ⟨_, rfl, _⟩ := h; rfl) | (obtain ⟨_, _, rfl, _⟩ := h; rfl) | (obtain ⟨_, _, _, rfl, _⟩ := h; rfl) | (obtain ⟨_, _, _, _, rfl, _⟩ := h; rfl) | (obtain ⟨_, _, _, _, _, rfl, _⟩ := h; rfl) | (obtain ⟨_, _, _, _, _, _, rfl, _⟩ := h; rfl) | (obtain ⟨_, _, _, _, _, _, _, rfl, _⟩ := h; rfl) | (obtain ⟨_, _, _, _, _, _, _, _, rfl, _⟩ := h; rfl) | (obtain ⟨_, _, _, _, _, _, _, _, _, rfl, _⟩ := h; rfl)) ⟨r_poly_minus spPlus spScaled, (body_poly_minus (g_poly_plus.mono (by decide)) (g_poly_scaled.mono (by decide))).c, k_poly_minus⟩
  have g_poly_minus : GFn W 3 "poly_minus" P_poly_minus (spMinus) := ⟨_, _, T.g_poly_minus, d_poly_minus⟩
  obtain ⟨f_poly_raised, F_poly_raised⟩ := T.t_poly_raised
  have d_poly_raised : DFn W 1 (He.fAd W.K ("poly_raised", none)) f_poly_raised P_poly_raised (spRaised) := dfn_mkD F_poly_raised sc_poly_raised (bd_poly_raised F_poly_raised) (fun ds M R h => by first | (obtain ⟨_, rfl, _⟩ := h; rfl) | (obtain ⟨_, _, rfl, _⟩ := h; rfl) | (obtain ⟨_, _, _, rfl, _⟩ := h; rfl) | (obtain ⟨_, _, _, _, rfl, _⟩ := h; rfl) | (obtain ⟨_, _, _, _, _, rfl, _⟩ := h; rfl) | (obtain ⟨_, _, _, _, _, _, rfl, _⟩ := h; rfl) | (obtain ⟨_, _, _, _, _, _, _, rfl, _⟩ := h; rfl) | (obtain ⟨_, _, _, _, _, _, _, _, rfl, _⟩ := h; rfl) | (obtain ⟨_, _, _, _, _, _, _, _, _, rfl, _⟩ := h; rfl)) ⟨r_poly_raised , (body_poly_raised ).c, k_poly_raised⟩
  have g_poly_raised : GFn W 1 "poly_raised" P_poly_raised (spRaised) := ⟨_, _, T.g_poly_raised, d_poly_raised⟩
  obtain ⟨f_slope, F_slope⟩ := T.t_slope
  have d_slope : DFn W 1 (He.fAd W.K ("slope", none)) f_slope P_slope (spSlope) := dfn_mkD F_slope sc_slope (bd_slope F_slope) (fun ds M R h => by first | (obtain ⟨_, rfl, _⟩ := h; rfl) | (obtain ⟨_, _, rfl, _⟩ := h; rfl) | (obtain ⟨_, _, _, rfl, _⟩ := h; rfl) | (obtain ⟨_, _, _, _, rfl, _⟩ := h; rfl) | (obtain ⟨_, _, _, _, _, rfl, _⟩ := h; rfl) | (obtain ⟨_, _, _, _, _, _, rfl, _⟩ := h; rfl) | (obtain ⟨_, _, _, _, _, _, _, rfl, _⟩ := h; rfl) | (obtain ⟨_, _, _, _, _, _, _, _, rfl, _⟩ := h; rfl) | (obtain ⟨_, _, _, _, _, _, _, _, _, rfl, _⟩ := h; rfl)) ⟨r_slope , (body_slope nb).c, k_slope⟩
  have g_slope : GFn W 1 "slope" P_slope (spSlope) := ⟨_, _, T.g_slope, d_slope⟩
  obtain ⟨f_content, F_content⟩ := T.t_content
  have d_content : DFn W 2 (He.fAd W.K ("content", none)) f_content P_content (spCdv) := dfn_mkD F_content sc_content (bd_content F_content) (fun ds M R h => by first | (obtain ⟨_, rfl, _⟩ := h; rfl) | (obtain ⟨_, _, rfl, _⟩ := h; rfl) | (obtain ⟨_, _, _, rfl, _⟩ := h; rfl) | (obtain ⟨_, _, _, _, rfl, _⟩ := h; rfl) | (obtain ⟨_, _, _, _, _, rfl, _⟩ := h; rfl) | (obtain ⟨_, _, _, _, _, _, rfl, _⟩ := h; rfl) | (obtain ⟨_, _, _, _, _, _, _, rfl, _⟩ := h; rfl) | (obtain ⟨_, _, _, _, _, _, _, _, rfl, _⟩ := h; rfl) | (obtain ⟨_, _, _, _, _, _, _, _, _, rfl, _⟩ := h; rfl)) ⟨r_content spCdv, (body_content (g_common_divisor.mono (by decide))).c, k_content⟩
  have g_content : GFn W 2 "content" P_content (spCdv) := ⟨_, _, T.g_content, d_content⟩
  obtain ⟨f_reduced, F_reduced⟩ := T.t_reduced
  have d_reduced : DFn W 3 (He.fAd W.K ("reduced", none)) f_reduced P_reduced (spReduced) := dfn_mkD F_reduced sc_reduced (bd_reduced F_reduced) (fun ds M R h => by first | (obtain ⟨_, rfl, _⟩ := h; rfl) | (obtain ⟨_, _, rfl, _⟩ := h; rfl) | (obtain ⟨_, _, _, rfl, _⟩ := h; rfl) | (obtain ⟨_, _, _, _, rfl, _⟩ := h; rfl) | (obtain ⟨_, _, _, _, _, rfl, _⟩ := h; rfl) | (obtain ⟨_, _, _, _, _, _, rfl, _⟩ := h; rfl) | (obtain ⟨_, _, _, _, _, _, _, rfl, _⟩ := h; rfl) | (obtain ⟨_, _, _, _, _, _, _, _, rfl, _⟩ := h; rfl) | (obtain ⟨_, _, _, _, _, _, _, _, _, rfl, _⟩ := h; rfl)) ⟨r_reduced spCdv, (body_reduced (g_content.mono (by decide)) nb).c, k_reduced⟩
  have g_reduced : GFn W 3 "reduced" P_reduced (spReduced) := ⟨_, _, T.g_reduced, d_reduced⟩
  obtain ⟨f_primitive, F_primitive⟩ := T.t_primitive
  have d_primitive : DFn W 4 (He.fAd W.K ("primitive", none)) f_primitive P_primitive (spPrim) := dfn_mkD F_primitive sc_primitive (bd_primitive F_primitive) (fun ds M R h => by first | (obtain ⟨_, rfl, _⟩ := h; rfl) | (obtain ⟨_, _, rfl, _⟩ := h; rfl) | (obtain ⟨_, _, _, rfl, _⟩ := h; rfl) | (obtain ⟨_, _, _, _, rfl, _⟩ := h; rfl) | (obtain ⟨_, _, _, _, _, rfl, _⟩ := h; rfl) | (obtain ⟨_, _, _, _, _, _, rfl, _⟩ := h; rfl) | (obtain ⟨_, _, _, _, _, _, _, rfl, _⟩ := h; rfl) | (obtain ⟨_, _, _, _, _, _, _, _, rfl, _⟩ := h; rfl) | (obtain ⟨_, _, _, _, _, _, _, _, _, rfl, _⟩ := h; rfl)) ⟨r_primitive spReduced spScaled, (body_primitive (g_reduced.mono (by decide)) (g_poly_scaled.mono (by decide))).c, k_primitive⟩
  have g_primitive : GFn W 4 "primitive" P_primitive (spPrim) := ⟨_, _, T.g_primitive, d_primitive⟩
  obtain ⟨f_divided, F_divided⟩ := T.t_divided
  have d_divided : DFn W 4 (He.fAd W.K ("divided", none)) f_divided P_divided (spDivided) := dfn_mkD F_divided sc_divided (bd_divided F_divided) (fun ds M R h => by first | (obtain ⟨_, rfl, _⟩ := h; rfl) | (obtain ⟨_, _, rfl, _⟩ := h; rfl) | (obtain ⟨_, _, _, rfl, _⟩ := h; rfl) | (obtain ⟨_, _, _, _, rfl, _⟩ := h; rfl) | (obtain ⟨_, _, _, _, _, rfl, _⟩ := h; rfl) | (obtain ⟨_, _, _, _, _, _, rfl, _⟩ := h; rfl) | (obtain ⟨_, _, _, _, _, _, _, rfl, _⟩ := h; rfl) | (obtain ⟨_, _, _, _, _, _, _, _, rfl, _⟩ := h; rfl) | (obtain ⟨_, _, _, _, _, _, _, _, _, rfl, _⟩ := h; rfl)) ⟨r_divided spCdv spSign spMinus spScaled spRaised spTrimmed, (body_divided (g_common_divisor.mono (by decide)) (g_sign_of.mono (by decide)) (g_poly_minus.mono (by decide)) (g_poly_scaled.mono (by decide)) (g_poly_raised.mono (by decide)) (g_trimmed.mono (by decide)) nb).c, k_divided⟩
  have g_divided : GFn W 4 "divided" P_divided (spDivided) := ⟨_, _, T.g_divided, d_divided⟩
  obtain ⟨f_exact_over, F_exact_over⟩ := T.t_exact_over
  have d_exact_over : DFn W 2 (He.fAd W.K ("exact_over", none)) f_exact_over P_exact_over (spExact) := dfn_mkD F_exact_over sc_exact_over (bd_exact_over F_exact_over) (fun ds M R h => by first | (obtain ⟨_, rfl, _⟩ := h; rfl) | (obtain ⟨_, _, rfl, _⟩ := h; rfl) | (obtain ⟨_, _, _, rfl, _⟩ := h; rfl) | (obtain ⟨_, _, _, _, rfl, _⟩ := h; rfl) | (obtain ⟨_, _, _, _, _, rfl, _⟩ := h; rfl) | (obtain ⟨_, _, _, _, _, _, rfl, _⟩ := h; rfl) | (obtain ⟨_, _, _, _, _, _, _, rfl, _⟩ := h; rfl) | (obtain ⟨_, _, _, _, _, _, _, _, rfl, _⟩ := h; rfl) | (obtain ⟨_, _, _, _, _, _, _, _, _, rfl, _⟩ := h; rfl)) ⟨r_exact_over spTrimmed, (body_exact_over (g_trimmed.mono (by decide)) nb).c, k_exact_over⟩
  have g_exact_over : GFn W 2 "exact_over" P_exact_over (spExact) := ⟨_, _, T.g_exact_over, d_exact_over⟩
  obtain ⟨f_scaled_value, F_scaled_value⟩ := T.t_scaled_value
  have d_scaled_value : DFn W 1 (He.fAd W.K ("scaled_value", none)) f_scaled_value P_scaled_value (spScv) := dfn_mkD F_scaled_value sc_scaled_value (bd_scaled_value F_scaled_value) (fun ds M R h => by first | (obtain ⟨_, rfl, _⟩ := h; rfl) | (obtain ⟨_, _, rfl, _⟩ := h; rfl) | (obtain ⟨_, _, _, rfl, _⟩ := h; rfl) | (obtain ⟨_, _, _, _, rfl, _⟩ := h; rfl) | (obtain ⟨_, _, _, _, _, rfl, _⟩ := h; rfl) | (obtain ⟨_, _, _, _, _, _, rfl, _⟩ := h; rfl) | (obtain ⟨_, _, _, _, _, _, _, rfl, _⟩ := h; rfl) | (obtain ⟨_, _, _, _, _, _, _, _, rfl, _⟩ := h; rfl) | (obtain ⟨_, _, _, _, _, _, _, _, _, rfl, _⟩ := h; rfl)) ⟨r_scaled_value , (body_scaled_value nb).c, k_scaled_value⟩
  have g_scaled_value : GFn W 1 "scaled_value" P_scaled_value (spScv) := ⟨_, _, T.g_scaled_value, d_scaled_value⟩
  obtain ⟨f_value_at, F_value_at⟩ := T.t_value_at
  have d_value_at : DFn W 2 (He.fAd W.K ("value_at", none)) f_value_at P_value_at (spVal) := dfn_mkD F_value_at sc_value_at (bd_value_at F_value_at) (fun ds M R h => by first | (obtain ⟨_, rfl, _⟩ := h; rfl) | (obtain ⟨_, _, rfl, _⟩ := h; rfl) | (obtain ⟨_, _, _, rfl, _⟩ := h; rfl) | (obtain ⟨_, _, _, _, rfl, _⟩ := h; rfl) | (obtain ⟨_, _, _, _, _, rfl, _⟩ := h; rfl) | (obtain ⟨_, _, _, _, _, _, rfl, _⟩ := h; rfl) | (obtain ⟨_, _, _, _, _, _, _, rfl, _⟩ := h; rfl) | (obtain ⟨_, _, _, _, _, _, _, _, rfl, _⟩ := h; rfl) | (obtain ⟨_, _, _, _, _, _, _, _, _, rfl, _⟩ := h; rfl)) ⟨r_value_at spScv spFrac, (body_value_at (g_scaled_value.mono (by decide)) (g_frac.mono (by decide))).c, k_value_at⟩
  have g_value_at : GFn W 2 "value_at" P_value_at (spVal) := ⟨_, _, T.g_value_at, d_value_at⟩
  obtain ⟨f_common, F_common⟩ := T.t_common
  have d_common : DFn W 5 (He.fAd W.K ("common", none)) f_common P_common (spCommon) := dfn_mkD F_common sc_common (bd_common F_common) (fun ds M R h => by first | (obtain ⟨_, rfl, _⟩ := h; rfl) | (obtain ⟨_, _, rfl, _⟩ := h; rfl) | (obtain ⟨_, _, _, rfl, _⟩ := h; rfl) | (obtain ⟨_, _, _, _, rfl, _⟩ := h; rfl) | (obtain ⟨_, _, _, _, _, rfl, _⟩ := h; rfl) | (obtain ⟨_, _, _, _, _, _, rfl, _⟩ := h; rfl) | (obtain ⟨_, _, _, _, _, _, _, rfl, _⟩ := h; rfl) | (obtain ⟨_, _, _, _, _, _, _, _, rfl, _⟩ := h; rfl) | (obtain ⟨_, _, _, _, _, _, _, _, _, rfl, _⟩ := h; rfl)) ⟨r_common spPrim spDivided, (body_common (g_primitive.mono (by decide)) (g_divided.mono (by decide)) nb).c, k_common⟩
  have g_common : GFn W 5 "common" P_common (spCommon) := ⟨_, _, T.g_common, d_common⟩
  obtain ⟨f_square_free, F_square_free⟩ := T.t_square_free
  have d_square_free : DFn W 6 (He.fAd W.K ("square_free", none)) f_square_free P_square_free (spSqf) := dfn_mkD F_square_free sc_square_free (bd_square_free F_square_free) (fun ds M R h => by first | (obtain ⟨_, rfl, _⟩ := h; rfl) | (obtain ⟨_, _, rfl, _⟩ := h; rfl) | (obtain ⟨_, _, _, rfl, _⟩ := h; rfl) | (obtain ⟨_, _, _, _, rfl, _⟩ := h; rfl) | (obtain ⟨_, _, _, _, _, rfl, _⟩ := h; rfl) | (obtain ⟨_, _, _, _, _, _, rfl, _⟩ := h; rfl) | (obtain ⟨_, _, _, _, _, _, _, rfl, _⟩ := h; rfl) | (obtain ⟨_, _, _, _, _, _, _, _, rfl, _⟩ := h; rfl) | (obtain ⟨_, _, _, _, _, _, _, _, _, rfl, _⟩ := h; rfl)) ⟨r_square_free spPrim spCommon spSlope spExact spMinus, (body_square_free (g_primitive.mono (by decide)) (g_common.mono (by decide)) (g_slope.mono (by decide)) (g_exact_over.mono (by decide)) (g_poly_minus.mono (by decide)) nb).c, k_square_free⟩
  have g_square_free : GFn W 6 "square_free" P_square_free (spSqf) := ⟨_, _, T.g_square_free, d_square_free⟩
  obtain ⟨f_l_bag, F_l_bag⟩ := T.t_l_bag
  have d_l_bag : DFn W 1 (He.fAd W.K ("_law_bag", none)) f_l_bag P_l_bag (spBag) := dfn_mkD F_l_bag sc_l_bag (bd_l_bag F_l_bag) (fun ds M R h => by first | (obtain ⟨_, rfl, _⟩ := h; rfl) | (obtain ⟨_, _, rfl, _⟩ := h; rfl) | (obtain ⟨_, _, _, rfl, _⟩ := h; rfl) | (obtain ⟨_, _, _, _, rfl, _⟩ := h; rfl) | (obtain ⟨_, _, _, _, _, rfl, _⟩ := h; rfl) | (obtain ⟨_, _, _, _, _, _, rfl, _⟩ := h; rfl) | (obtain ⟨_, _, _, _, _, _, _, rfl, _⟩ := h; rfl) | (obtain ⟨_, _, _, _, _, _, _, _, rfl, _⟩ := h; rfl) | (obtain ⟨_, _, _, _, _, _, _, _, _, rfl, _⟩ := h; rfl)) ⟨r_l_bag , (body_l_bag nb).c, k_bag⟩
  have g_l_bag : GFn W 1 "_law_bag" P_l_bag (spBag) := ⟨_, _, T.g_l_bag, d_l_bag⟩
  obtain ⟨f_l_draw, F_l_draw⟩ := T.t_l_draw
  have d_l_draw : DFn W 1 (He.fAd W.K ("_law_draw", none)) f_l_draw P_l_draw (spDraw) := dfn_mkD F_l_draw sc_l_draw (bd_l_draw F_l_draw) (fun ds M R h => by first | (obtain ⟨_, rfl, _⟩ := h; rfl) | (obtain ⟨_, _, rfl, _⟩ := h; rfl) | (obtain ⟨_, _, _, rfl, _⟩ := h; rfl) | (obtain ⟨_, _, _, _, rfl, _⟩ := h; rfl) | (obtain ⟨_, _, _, _, _, rfl, _⟩ := h; rfl) | (obtain ⟨_, _, _, _, _, _, rfl, _⟩ := h; rfl) | (obtain ⟨_, _, _, _, _, _, _, rfl, _⟩ := h; rfl) | (obtain ⟨_, _, _, _, _, _, _, _, rfl, _⟩ := h; rfl) | (obtain ⟨_, _, _, _, _, _, _, _, _, rfl, _⟩ := h; rfl)) ⟨r_l_draw , (body_l_draw nb).c, k_draw⟩
  have g_l_draw : GFn W 1 "_law_draw" P_l_draw (spDraw) := ⟨_, _, T.g_l_draw, d_l_draw⟩
  obtain ⟨f_l_pick, F_l_pick⟩ := T.t_l_pick
  have d_l_pick : DFn W 2 (He.fAd W.K ("_law_pick", none)) f_l_pick P_l_pick (spPick) := dfn_mkD F_l_pick sc_l_pick (bd_l_pick F_l_pick) (fun ds M R h => by first | (obtain ⟨_, rfl, _⟩ := h; rfl) | (obtain ⟨_, _, rfl, _⟩ := h; rfl) | (obtain ⟨_, _, _, rfl, _⟩ := h; rfl) | (obtain ⟨_, _, _, _, rfl, _⟩ := h; rfl) | (obtain ⟨_, _, _, _, _, rfl, _⟩ := h; rfl) | (obtain ⟨_, _, _, _, _, _, rfl, _⟩ := h; rfl) | (obtain ⟨_, _, _, _, _, _, _, rfl, _⟩ := h; rfl) | (obtain ⟨_, _, _, _, _, _, _, _, rfl, _⟩ := h; rfl) | (obtain ⟨_, _, _, _, _, _, _, _, _, rfl, _⟩ := h; rfl)) ⟨r_l_pick spDraw, (body_l_pick (g_l_draw.mono (by decide)) nb).c, k_pick⟩
  have g_l_pick : GFn W 2 "_law_pick" P_l_pick (spPick) := ⟨_, _, T.g_l_pick, d_l_pick⟩
  obtain ⟨f_l_same, F_l_same⟩ := T.t_l_same
  have dS : ∀ n, DFn W (n + 1) (He.fAd W.K ("_law_same", none)) f_l_same P_l_same (spSame n) := by
    intro n
    induction n with
    | zero => exact dfn_mkD F_l_same sc_l_same (bd_l_same F_l_same) (len_same 0) ⟨r_l_same spNo, (body_l_same ⟨_, _, T.g_l_same, dfn_no F_l_same (bd_l_same F_l_same)⟩ nb).c, k_same 0 spNo (fun m h => by cases h)⟩
    | succ n ih => exact dfn_mkD F_l_same sc_l_same (bd_l_same F_l_same) (len_same (n + 1)) ⟨r_l_same (spSame n), (body_l_same ⟨_, _, T.g_l_same, ih⟩ nb).c, k_same (n + 1) (spSame n) (fun m h => by cases h; rfl)⟩
  have g_l_same : GFn W 9 "_law_same" P_l_same (spSame 8) := ⟨_, _, T.g_l_same, dS 8⟩
  obtain ⟨f_l_gcd, F_l_gcd⟩ := T.t_l_gcd
  have d_l_gcd : DFn W 1 (He.fAd W.K ("_law_gcd", none)) f_l_gcd P_l_gcd (spGcd) := dfn_mkD F_l_gcd sc_l_gcd (bd_l_gcd F_l_gcd) (fun ds M R h => by first | (obtain ⟨_, rfl, _⟩ := h; rfl) | (obtain ⟨_, _, rfl, _⟩ := h; rfl) | (obtain ⟨_, _, _, rfl, _⟩ := h; rfl) | (obtain ⟨_, _, _, _, rfl, _⟩ := h; rfl) | (obtain ⟨_, _, _, _, _, rfl, _⟩ := h; rfl) | (obtain ⟨_, _, _, _, _, _, rfl, _⟩ := h; rfl) | (obtain ⟨_, _, _, _, _, _, _, rfl, _⟩ := h; rfl) | (obtain ⟨_, _, _, _, _, _, _, _, rfl, _⟩ := h; rfl) | (obtain ⟨_, _, _, _, _, _, _, _, _, rfl, _⟩ := h; rfl)) ⟨r_l_gcd , (body_l_gcd nb).c, k_l_gcd⟩
  have g_l_gcd : GFn W 1 "_law_gcd" P_l_gcd (spGcd) := ⟨_, _, T.g_l_gcd, d_l_gcd⟩
  obtain ⟨f_l_fr, F_l_fr⟩ := T.t_l_fr
  have d_l_fr : DFn W 2 (He.fAd W.K ("_law_fr", none)) f_l_fr P_l_fr (spLfr) := dfn_mkD F_l_fr sc_l_fr (bd_l_fr F_l_fr) (fun ds M R h => by first | (obtain ⟨_, rfl, _⟩ := h; rfl) | (obtain ⟨_, _, rfl, _⟩ := h; rfl) | (obtain ⟨_, _, _, rfl, _⟩ := h; rfl) | (obtain ⟨_, _, _, _, rfl, _⟩ := h; rfl) | (obtain ⟨_, _, _, _, _, rfl, _⟩ := h; rfl) | (obtain ⟨_, _, _, _, _, _, rfl, _⟩ := h; rfl) | (obtain ⟨_, _, _, _, _, _, _, rfl, _⟩ := h; rfl) | (obtain ⟨_, _, _, _, _, _, _, _, rfl, _⟩ := h; rfl) | (obtain ⟨_, _, _, _, _, _, _, _, _, rfl, _⟩ := h; rfl)) ⟨r_l_fr spGcd, (body_l_fr (g_l_gcd.mono (by decide))).c, k_l_fr⟩
  have g_l_fr : GFn W 2 "_law_fr" P_l_fr (spLfr) := ⟨_, _, T.g_l_fr, d_l_fr⟩
  obtain ⟨f_l_add, F_l_add⟩ := T.t_l_add
  have d_l_add : DFn W 3 (He.fAd W.K ("_law_add", none)) f_l_add P_l_add (spLadd) := dfn_mkD F_l_add sc_l_add (bd_l_add F_l_add) (fun ds M R h => by first | (obtain ⟨_, rfl, _⟩ := h; rfl) | (obtain ⟨_, _, rfl, _⟩ := h; rfl) | (obtain ⟨_, _, _, rfl, _⟩ := h; rfl) | (obtain ⟨_, _, _, _, rfl, _⟩ := h; rfl) | (obtain ⟨_, _, _, _, _, rfl, _⟩ := h; rfl) | (obtain ⟨_, _, _, _, _, _, rfl, _⟩ := h; rfl) | (obtain ⟨_, _, _, _, _, _, _, rfl, _⟩ := h; rfl) | (obtain ⟨_, _, _, _, _, _, _, _, rfl, _⟩ := h; rfl) | (obtain ⟨_, _, _, _, _, _, _, _, _, rfl, _⟩ := h; rfl)) ⟨r_l_add spLfr, (body_l_add (g_l_fr.mono (by decide))).c, k_l_add⟩
  have g_l_add : GFn W 3 "_law_add" P_l_add (spLadd) := ⟨_, _, T.g_l_add, d_l_add⟩
  obtain ⟨f_l_mul, F_l_mul⟩ := T.t_l_mul
  have d_l_mul : DFn W 3 (He.fAd W.K ("_law_mul", none)) f_l_mul P_l_mul (spLmul) := dfn_mkD F_l_mul sc_l_mul (bd_l_mul F_l_mul) (fun ds M R h => by first | (obtain ⟨_, rfl, _⟩ := h; rfl) | (obtain ⟨_, _, rfl, _⟩ := h; rfl) | (obtain ⟨_, _, _, rfl, _⟩ := h; rfl) | (obtain ⟨_, _, _, _, rfl, _⟩ := h; rfl) | (obtain ⟨_, _, _, _, _, rfl, _⟩ := h; rfl) | (obtain ⟨_, _, _, _, _, _, rfl, _⟩ := h; rfl) | (obtain ⟨_, _, _, _, _, _, _, rfl, _⟩ := h; rfl) | (obtain ⟨_, _, _, _, _, _, _, _, rfl, _⟩ := h; rfl) | (obtain ⟨_, _, _, _, _, _, _, _, _, rfl, _⟩ := h; rfl)) ⟨r_l_mul spLfr, (body_l_mul (g_l_fr.mono (by decide))).c, k_l_mul⟩
  have g_l_mul : GFn W 3 "_law_mul" P_l_mul (spLmul) := ⟨_, _, T.g_l_mul, d_l_mul⟩
  obtain ⟨f_l_poly_mul, F_l_poly_mul⟩ := T.t_l_poly_mul
  have d_l_poly_mul : DFn W 1 (He.fAd W.K ("_law_poly_mul", none)) f_l_poly_mul P_l_poly_mul (spLpm) := dfn_mkD F_l_poly_mul sc_l_poly_mul (bd_l_poly_mul F_l_poly_mul) (fun ds M R h => by first | (obtain ⟨_, rfl, _⟩ := h; rfl) | (obtain ⟨_, _, rfl, _⟩ := h; rfl) | (obtain ⟨_, _, _, rfl, _⟩ := h; rfl) | (obtain ⟨_, _, _, _, rfl, _⟩ := h; rfl) | (obtain ⟨_, _, _, _, _, rfl, _⟩ := h; rfl) | (obtain ⟨_, _, _, _, _, _, rfl, _⟩ := h; rfl) | (obtain ⟨_, _, _, _, _, _, _, rfl, _⟩ := h; rfl) | (obtain ⟨_, _, _, _, _, _, _, _, rfl, _⟩ := h; rfl) | (obtain ⟨_, _, _, _, _, _, _, _, _, rfl, _⟩ := h; rfl)) ⟨r_l_poly_mul , (body_l_poly_mul nb).c, k_l_poly_mul⟩
  have g_l_poly_mul : GFn W 1 "_law_poly_mul" P_l_poly_mul (spLpm) := ⟨_, _, T.g_l_poly_mul, d_l_poly_mul⟩
  obtain ⟨f_l_poly_at, F_l_poly_at⟩ := T.t_l_poly_at
  have d_l_poly_at : DFn W 4 (He.fAd W.K ("_law_poly_at", none)) f_l_poly_at P_l_poly_at (spLat) := dfn_mkD F_l_poly_at sc_l_poly_at (bd_l_poly_at F_l_poly_at) (fun ds M R h => by first | (obtain ⟨_, rfl, _⟩ := h; rfl) | (obtain ⟨_, _, rfl, _⟩ := h; rfl) | (obtain ⟨_, _, _, rfl, _⟩ := h; rfl) | (obtain ⟨_, _, _, _, rfl, _⟩ := h; rfl) | (obtain ⟨_, _, _, _, _, rfl, _⟩ := h; rfl) | (obtain ⟨_, _, _, _, _, _, rfl, _⟩ := h; rfl) | (obtain ⟨_, _, _, _, _, _, _, rfl, _⟩ := h; rfl) | (obtain ⟨_, _, _, _, _, _, _, _, rfl, _⟩ := h; rfl) | (obtain ⟨_, _, _, _, _, _, _, _, _, rfl, _⟩ := h; rfl)) ⟨r_l_poly_at spLadd spLmul, (body_l_poly_at (g_l_add.mono (by decide)) (g_l_mul.mono (by decide)) nb).c, k_l_poly_at⟩
  have g_l_poly_at : GFn W 4 "_law_poly_at" P_l_poly_at (spLat) := ⟨_, _, T.g_l_poly_at, d_l_poly_at⟩
  obtain ⟨f_l_trim, F_l_trim⟩ := T.t_l_trim
  have d_l_trim : DFn W 1 (He.fAd W.K ("_law_trim", none)) f_l_trim P_l_trim (spTrimmed) := dfn_mkD F_l_trim sc_l_trim (bd_l_trim F_l_trim) (fun ds M R h => by first | (obtain ⟨_, rfl, _⟩ := h; rfl) | (obtain ⟨_, _, rfl, _⟩ := h; rfl) | (obtain ⟨_, _, _, rfl, _⟩ := h; rfl) | (obtain ⟨_, _, _, _, rfl, _⟩ := h; rfl) | (obtain ⟨_, _, _, _, _, rfl, _⟩ := h; rfl) | (obtain ⟨_, _, _, _, _, _, rfl, _⟩ := h; rfl) | (obtain ⟨_, _, _, _, _, _, _, rfl, _⟩ := h; rfl) | (obtain ⟨_, _, _, _, _, _, _, _, rfl, _⟩ := h; rfl) | (obtain ⟨_, _, _, _, _, _, _, _, _, rfl, _⟩ := h; rfl)) ⟨r_l_trim , (body_l_trim nb).c, k_l_trim⟩
  have g_l_trim : GFn W 1 "_law_trim" P_l_trim (spTrimmed) := ⟨_, _, T.g_l_trim, d_l_trim⟩
  obtain ⟨f_l_content, F_l_content⟩ := T.t_l_content
  have d_l_content : DFn W 2 (He.fAd W.K ("_law_content", none)) f_l_content P_l_content (spLcont) := dfn_mkD F_l_content sc_l_content (bd_l_content F_l_content) (fun ds M R h => by first | (obtain ⟨_, rfl, _⟩ := h; rfl) | (obtain ⟨_, _, rfl, _⟩ := h; rfl) | (obtain ⟨_, _, _, rfl, _⟩ := h; rfl) | (obtain ⟨_, _, _, _, rfl, _⟩ := h; rfl) | (obtain ⟨_, _, _, _, _, rfl, _⟩ := h; rfl) | (obtain ⟨_, _, _, _, _, _, rfl, _⟩ := h; rfl) | (obtain ⟨_, _, _, _, _, _, _, rfl, _⟩ := h; rfl) | (obtain ⟨_, _, _, _, _, _, _, _, rfl, _⟩ := h; rfl) | (obtain ⟨_, _, _, _, _, _, _, _, _, rfl, _⟩ := h; rfl)) ⟨r_l_content spGcd, (body_l_content (g_l_gcd.mono (by decide))).c, k_l_content⟩
  have g_l_content : GFn W 2 "_law_content" P_l_content (spLcont) := ⟨_, _, T.g_l_content, d_l_content⟩
  obtain ⟨f_l_primitive, F_l_primitive⟩ := T.t_l_primitive
  have d_l_primitive : DFn W 3 (He.fAd W.K ("_law_primitive", none)) f_l_primitive P_l_primitive (spLprim) := dfn_mkD F_l_primitive sc_l_primitive (bd_l_primitive F_l_primitive) (fun ds M R h => by first | (obtain ⟨_, rfl, _⟩ := h; rfl) | (obtain ⟨_, _, rfl, _⟩ := h; rfl) | (obtain ⟨_, _, _, rfl, _⟩ := h; rfl) | (obtain ⟨_, _, _, _, rfl, _⟩ := h; rfl) | (obtain ⟨_, _, _, _, _, rfl, _⟩ := h; rfl) | (obtain ⟨_, _, _, _, _, _, rfl, _⟩ := h; rfl) | (obtain ⟨_, _, _, _, _, _, _, rfl, _⟩ := h; rfl) | (obtain ⟨_, _, _, _, _, _, _, _, rfl, _⟩ := h; rfl) | (obtain ⟨_, _, _, _, _, _, _, _, _, rfl, _⟩ := h; rfl)) ⟨r_l_primitive spLcont, (body_l_primitive (g_l_content.mono (by decide)) nb).c, k_l_primitive⟩
  have g_l_primitive : GFn W 3 "_law_primitive" P_l_primitive (spLprim) := ⟨_, _, T.g_l_primitive, d_l_primitive⟩
  obtain ⟨f_l_poly_power, F_l_poly_power⟩ := T.t_l_poly_power
  have d_l_poly_power : DFn W 2 (He.fAd W.K ("_law_poly_power", none)) f_l_poly_power P_l_poly_power (spLpow) := dfn_mkD F_l_poly_power sc_l_poly_power (bd_l_poly_power F_l_poly_power) (fun ds M R h => by first | (obtain ⟨_, rfl, _⟩ := h; rfl) | (obtain ⟨_, _, rfl, _⟩ := h; rfl) | (obtain ⟨_, _, _, rfl, _⟩ := h; rfl) | (obtain ⟨_, _, _, _, rfl, _⟩ := h; rfl) | (obtain ⟨_, _, _, _, _, rfl, _⟩ := h; rfl) | (obtain ⟨_, _, _, _, _, _, rfl, _⟩ := h; rfl) | (obtain ⟨_, _, _, _, _, _, _, rfl, _⟩ := h; rfl) | (obtain ⟨_, _, _, _, _, _, _, _, rfl, _⟩ := h; rfl) | (obtain ⟨_, _, _, _, _, _, _, _, _, rfl, _⟩ := h; rfl)) ⟨r_l_poly_power spLpm, (body_l_poly_power (g_l_poly_mul.mono (by decide)) nb).c, k_l_poly_power⟩
  have g_l_poly_power : GFn W 2 "_law_poly_power" P_l_poly_power (spLpow) := ⟨_, _, T.g_l_poly_power, d_l_poly_power⟩
  obtain ⟨f_l_poly_sum, F_l_poly_sum⟩ := T.t_l_poly_sum
  have d_l_poly_sum : DFn W 2 (He.fAd W.K ("_law_poly_sum", none)) f_l_poly_sum P_l_poly_sum (spLsum) := dfn_mkD F_l_poly_sum sc_l_poly_sum (bd_l_poly_sum F_l_poly_sum) (fun ds M R h => by first | (obtain ⟨_, rfl, _⟩ := h; rfl) | (obtain ⟨_, _, rfl, _⟩ := h; rfl) | (obtain ⟨_, _, _, rfl, _⟩ := h; rfl) | (obtain ⟨_, _, _, _, rfl, _⟩ := h; rfl) | (obtain ⟨_, _, _, _, _, rfl, _⟩ := h; rfl) | (obtain ⟨_, _, _, _, _, _, rfl, _⟩ := h; rfl) | (obtain ⟨_, _, _, _, _, _, _, rfl, _⟩ := h; rfl) | (obtain ⟨_, _, _, _, _, _, _, _, rfl, _⟩ := h; rfl) | (obtain ⟨_, _, _, _, _, _, _, _, _, rfl, _⟩ := h; rfl)) ⟨r_l_poly_sum spTrimmed, (body_l_poly_sum (g_l_trim.mono (by decide)) nb).c, k_l_poly_sum⟩
  have g_l_poly_sum : GFn W 2 "_law_poly_sum" P_l_poly_sum (spLsum) := ⟨_, _, T.g_l_poly_sum, d_l_poly_sum⟩
  obtain ⟨f_l_moved, F_l_moved⟩ := T.t_l_moved
  have d_l_moved : DFn W 3 (He.fAd W.K ("_law_moved", none)) f_l_moved P_l_moved (spLmov) := dfn_mkD F_l_moved sc_l_moved (bd_l_moved F_l_moved) (fun ds M R h => by first | (obtain ⟨_, rfl, _⟩ := h; rfl) | (obtain ⟨_, _, rfl, _⟩ := h; rfl) | (obtain ⟨_, _, _, rfl, _⟩ := h; rfl) | (obtain ⟨_, _, _, _, rfl, _⟩ := h; rfl) | (obtain ⟨_, _, _, _, _, rfl, _⟩ := h; rfl) | (obtain ⟨_, _, _, _, _, _, rfl, _⟩ := h; rfl) | (obtain ⟨_, _, _, _, _, _, _, rfl, _⟩ := h; rfl) | (obtain ⟨_, _, _, _, _, _, _, _, rfl, _⟩ := h; rfl) | (obtain ⟨_, _, _, _, _, _, _, _, _, rfl, _⟩ := h; rfl)) ⟨r_l_moved spLsum spLpm, (body_l_moved (g_l_poly_sum.mono (by decide)) (g_l_poly_mul.mono (by decide)) nb).c, k_l_moved⟩
  have g_l_moved : GFn W 3 "_law_moved" P_l_moved (spLmov) := ⟨_, _, T.g_l_moved, d_l_moved⟩
  obtain ⟨f_l_factor, F_l_factor⟩ := T.t_l_factor
  have d_l_factor : DFn W 4 (He.fAd W.K ("_law_factor", none)) f_l_factor P_l_factor (spFactor) := dfn_mkD F_l_factor sc_l_factor (bd_l_factor F_l_factor) (fun ds M R h => by first | (obtain ⟨_, rfl, _⟩ := h; rfl) | (obtain ⟨_, _, rfl, _⟩ := h; rfl) | (obtain ⟨_, _, _, rfl, _⟩ := h; rfl) | (obtain ⟨_, _, _, _, rfl, _⟩ := h; rfl) | (obtain ⟨_, _, _, _, _, rfl, _⟩ := h; rfl) | (obtain ⟨_, _, _, _, _, _, rfl, _⟩ := h; rfl) | (obtain ⟨_, _, _, _, _, _, _, rfl, _⟩ := h; rfl) | (obtain ⟨_, _, _, _, _, _, _, _, rfl, _⟩ := h; rfl) | (obtain ⟨_, _, _, _, _, _, _, _, _, rfl, _⟩ := h; rfl)) ⟨r_l_factor spDraw spLprim spLmov spPick, (body_l_factor (g_l_draw.mono (by decide)) (g_l_primitive.mono (by decide)) (g_l_moved.mono (by decide)) (g_l_pick.mono (by decide))).c, k_l_factor⟩
  have g_l_factor : GFn W 4 "_law_factor" P_l_factor (spFactor) := ⟨_, _, T.g_l_factor, d_l_factor⟩
  obtain ⟨f_l_factors_of, F_l_factors_of⟩ := T.t_l_factors_of
  have d_l_factors_of : DFn W 5 (He.fAd W.K ("_law_factors_of", none)) f_l_factors_of P_l_factors_of (spLots) := dfn_mkD F_l_factors_of sc_l_factors_of (bd_l_factors_of F_l_factors_of) (fun ds M R h => by first | (obtain ⟨_, rfl, _⟩ := h; rfl) | (obtain ⟨_, _, rfl, _⟩ := h; rfl) | (obtain ⟨_, _, _, rfl, _⟩ := h; rfl) | (obtain ⟨_, _, _, _, rfl, _⟩ := h; rfl) | (obtain ⟨_, _, _, _, _, rfl, _⟩ := h; rfl) | (obtain ⟨_, _, _, _, _, _, rfl, _⟩ := h; rfl) | (obtain ⟨_, _, _, _, _, _, _, rfl, _⟩ := h; rfl) | (obtain ⟨_, _, _, _, _, _, _, _, rfl, _⟩ := h; rfl) | (obtain ⟨_, _, _, _, _, _, _, _, _, rfl, _⟩ := h; rfl)) ⟨r_l_factors_of spDraw spFactor spPick, (body_l_factors_of (g_l_draw.mono (by decide)) (g_l_factor.mono (by decide)) (g_l_pick.mono (by decide)) nb).c, k_l_factors_of⟩
  have g_l_factors_of : GFn W 5 "_law_factors_of" P_l_factors_of (spLots) := ⟨_, _, T.g_l_factors_of, d_l_factors_of⟩
  obtain ⟨f_l_product, F_l_product⟩ := T.t_l_product
  have d_l_product : DFn W 3 (He.fAd W.K ("_law_product", none)) f_l_product P_l_product (spProd) := dfn_mkD F_l_product sc_l_product (bd_l_product F_l_product) (fun ds M R h => by first | (obtain ⟨_, rfl, _⟩ := h; rfl) | (obtain ⟨_, _, rfl, _⟩ := h; rfl) | (obtain ⟨_, _, _, rfl, _⟩ := h; rfl) | (obtain ⟨_, _, _, _, rfl, _⟩ := h; rfl) | (obtain ⟨_, _, _, _, _, rfl, _⟩ := h; rfl) | (obtain ⟨_, _, _, _, _, _, rfl, _⟩ := h; rfl) | (obtain ⟨_, _, _, _, _, _, _, rfl, _⟩ := h; rfl) | (obtain ⟨_, _, _, _, _, _, _, _, rfl, _⟩ := h; rfl) | (obtain ⟨_, _, _, _, _, _, _, _, _, rfl, _⟩ := h; rfl)) ⟨r_l_product spLpm spLpow, (body_l_product (g_l_poly_mul.mono (by decide)) (g_l_poly_power.mono (by decide))).c, k_l_product⟩
  have g_l_product : GFn W 3 "_law_product" P_l_product (spProd) := ⟨_, _, T.g_l_product, d_l_product⟩
  obtain ⟨f_l_is_small, F_l_is_small⟩ := T.t_l_is_small
  have d_l_is_small : DFn W 1 (He.fAd W.K ("_law_is_small", none)) f_l_is_small P_l_is_small (spSmall) := dfn_mkD F_l_is_small sc_l_is_small (bd_l_is_small F_l_is_small) (fun ds M R h => by first | (obtain ⟨_, rfl, _⟩ := h; rfl) | (obtain ⟨_, _, rfl, _⟩ := h; rfl) | (obtain ⟨_, _, _, rfl, _⟩ := h; rfl) | (obtain ⟨_, _, _, _, rfl, _⟩ := h; rfl) | (obtain ⟨_, _, _, _, _, rfl, _⟩ := h; rfl) | (obtain ⟨_, _, _, _, _, _, rfl, _⟩ := h; rfl) | (obtain ⟨_, _, _, _, _, _, _, rfl, _⟩ := h; rfl) | (obtain ⟨_, _, _, _, _, _, _, _, rfl, _⟩ := h; rfl) | (obtain ⟨_, _, _, _, _, _, _, _, _, rfl, _⟩ := h; rfl)) ⟨r_l_is_small , (body_l_is_small nb).c, k_l_is_small⟩
  have g_l_is_small : GFn W 1 "_law_is_small" P_l_is_small (spSmall) := ⟨_, _, T.g_l_is_small, d_l_is_small⟩
  obtain ⟨f_l_shared, F_l_shared⟩ := T.t_l_shared
  have d_l_shared : DFn W 4 (He.fAd W.K ("_law_shared", none)) f_l_shared P_l_shared (spShared) := dfn_mkD F_l_shared sc_l_shared (bd_l_shared F_l_shared) (fun ds M R h => by first | (obtain ⟨_, rfl, _⟩ := h; rfl) | (obtain ⟨_, _, rfl, _⟩ := h; rfl) | (obtain ⟨_, _, _, rfl, _⟩ := h; rfl) | (obtain ⟨_, _, _, _, rfl, _⟩ := h; rfl) | (obtain ⟨_, _, _, _, _, rfl, _⟩ := h; rfl) | (obtain ⟨_, _, _, _, _, _, rfl, _⟩ := h; rfl) | (obtain ⟨_, _, _, _, _, _, _, rfl, _⟩ := h; rfl) | (obtain ⟨_, _, _, _, _, _, _, _, rfl, _⟩ := h; rfl) | (obtain ⟨_, _, _, _, _, _, _, _, _, rfl, _⟩ := h; rfl)) ⟨r_l_shared spLpm spLpow spLprim, (body_l_shared (g_l_poly_mul.mono (by decide)) (g_l_poly_power.mono (by decide)) (g_l_primitive.mono (by decide)) nb).c, k_l_shared⟩
  have g_l_shared : GFn W 4 "_law_shared" P_l_shared (spShared) := ⟨_, _, T.g_l_shared, d_l_shared⟩
  obtain ⟨f_l_parted, F_l_parted⟩ := T.t_l_parted
  have d_l_parted : DFn W 4 (He.fAd W.K ("_law_parted", none)) f_l_parted P_l_parted (spParted) := dfn_mkD F_l_parted sc_l_parted (bd_l_parted F_l_parted) (fun ds M R h => by first | (obtain ⟨_, rfl, _⟩ := h; rfl) | (obtain ⟨_, _, rfl, _⟩ := h; rfl) | (obtain ⟨_, _, _, rfl, _⟩ := h; rfl) | (obtain ⟨_, _, _, _, rfl, _⟩ := h; rfl) | (obtain ⟨_, _, _, _, _, rfl, _⟩ := h; rfl) | (obtain ⟨_, _, _, _, _, _, rfl, _⟩ := h; rfl) | (obtain ⟨_, _, _, _, _, _, _, rfl, _⟩ := h; rfl) | (obtain ⟨_, _, _, _, _, _, _, _, rfl, _⟩ := h; rfl) | (obtain ⟨_, _, _, _, _, _, _, _, _, rfl, _⟩ := h; rfl)) ⟨r_l_parted spLpm spLprim, (body_l_parted (g_l_poly_mul.mono (by decide)) (g_l_primitive.mono (by decide)) nb).c, k_l_parted⟩
  have g_l_parted : GFn W 4 "_law_parted" P_l_parted (spParted) := ⟨_, _, T.g_l_parted, d_l_parted⟩
  obtain ⟨f_l_two_lots, F_l_two_lots⟩ := T.t_l_two_lots
  have d_l_two_lots : DFn W 6 (He.fAd W.K ("_law_two_lots", none)) f_l_two_lots P_l_two_lots (spTwo) := dfn_mkD F_l_two_lots sc_l_two_lots (bd_l_two_lots F_l_two_lots) (fun ds M R h => by first | (obtain ⟨_, rfl, _⟩ := h; rfl) | (obtain ⟨_, _, rfl, _⟩ := h; rfl) | (obtain ⟨_, _, _, rfl, _⟩ := h; rfl) | (obtain ⟨_, _, _, _, rfl, _⟩ := h; rfl) | (obtain ⟨_, _, _, _, _, rfl, _⟩ := h; rfl) | (obtain ⟨_, _, _, _, _, _, rfl, _⟩ := h; rfl) | (obtain ⟨_, _, _, _, _, _, _, rfl, _⟩ := h; rfl) | (obtain ⟨_, _, _, _, _, _, _, _, rfl, _⟩ := h; rfl) | (obtain ⟨_, _, _, _, _, _, _, _, _, rfl, _⟩ := h; rfl)) ⟨r_l_two_lots spLots spDraw spPick, (body_l_two_lots (g_l_factors_of.mono (by decide)) (g_l_draw.mono (by decide)) (g_l_pick.mono (by decide)) nb).c, k_l_two_lots⟩
  have g_l_two_lots : GFn W 6 "_law_two_lots" P_l_two_lots (spTwo) := ⟨_, _, T.g_l_two_lots, d_l_two_lots⟩
  obtain ⟨f_l_is_told, F_l_is_told⟩ := T.t_l_is_told
  have d_l_is_told : DFn W 10 (He.fAd W.K ("_law_is_told", none)) f_l_is_told P_l_is_told (spTold) := dfn_mkD F_l_is_told sc_l_is_told (bd_l_is_told F_l_is_told) (fun ds M R h => by first | (obtain ⟨_, rfl, _⟩ := h; rfl) | (obtain ⟨_, _, rfl, _⟩ := h; rfl) | (obtain ⟨_, _, _, rfl, _⟩ := h; rfl) | (obtain ⟨_, _, _, _, rfl, _⟩ := h; rfl) | (obtain ⟨_, _, _, _, _, rfl, _⟩ := h; rfl) | (obtain ⟨_, _, _, _, _, _, rfl, _⟩ := h; rfl) | (obtain ⟨_, _, _, _, _, _, _, rfl, _⟩ := h; rfl) | (obtain ⟨_, _, _, _, _, _, _, _, rfl, _⟩ := h; rfl) | (obtain ⟨_, _, _, _, _, _, _, _, _, rfl, _⟩ := h; rfl)) ⟨r_l_is_told spTwo spProd spPick spSmall spShared spCommon (spSame 8) spLprim spSqf spParted spLfr spDraw spVal spLat, (body_l_is_told (g_l_two_lots.mono (by decide)) (g_l_product.mono (by decide)) (g_l_pick.mono (by decide)) (g_l_is_small.mono (by decide)) (g_l_shared.mono (by decide)) (g_common.mono (by decide)) ⟨_, _, T.g_common, d_common.mono (by decide), bindsK F_common fun _ _ _ _ _ _ ws hl => match ws, hl with | [_, _], _ => rfl⟩ (g_l_same.mono (by decide)) (g_l_primitive.mono (by decide)) (g_square_free.mono (by decide)) ⟨_, _, T.g_square_free, d_square_free.mono (by decide), bindsK F_square_free fun _ _ _ _ _ _ ws hl => match ws, hl with | [_], _ => rfl⟩ (g_l_parted.mono (by decide)) (g_l_fr.mono (by decide)) (g_l_draw.mono (by decide)) (g_value_at.mono (by decide)) ⟨_, _, T.g_value_at, d_value_at.mono (by decide), bindsK F_value_at fun _ _ _ _ _ _ ws hl => match ws, hl with | [_, _], _ => rfl⟩ (g_l_poly_at.mono (by decide)) nb).c, k_l_is_told⟩
  have g_l_is_told : GFn W 10 "_law_is_told" P_l_is_told (spTold) := ⟨_, _, T.g_l_is_told, d_l_is_told⟩
  exact dfn_mkD Fl sc_law (bd_law Fl) (fun ds M R h => by obtain ⟨d, c, rfl, _⟩ := h; rfl) ⟨r_law spBag spTold, (body_law (g_l_bag.mono (by decide)) (g_l_is_told.mono (by decide)) nb).c, k_law⟩
end DD
open PySem PySem.W PySem.Calls PyProof.Rows
theorem PySem.Challenge.cw_wayorring_k01_values_common_square_free_holds : PySem.Challenge.rw_wayorring_k01_values_common_square_free.Holds := by
  w_on; o_law
  refine HandSHeadRun.head_imp (r := OpenLaw.row PySem.Challenge.rw_wayorring_k01_values_common_square_free) (q := view (OpenLaw.row PySem.Challenge.rw_wayorring_k01_values_common_square_free).prog [0, 46]) (H := DD.hkAll) (ob := DD.obAll) (M := 20000) (loose := DD.looseAll) (d := HandSHeadRun.topDef (OpenLaw.row PySem.Challenge.rw_wayorring_k01_values_common_square_free).prog 46) (kwd := []) DD.obAll_eq
    DD.runAll (by kernel_rfl) (by kernel_rfl) (by kernel_rfl) (by rfl) (by first | assumption | decide +kernel) (by decide +kernel) ⟨rfl, rfl, rfl, rfl, rfl, by decide +kernel⟩ ?hw ?hc
  case hw => w_witness2
  case hc =>
    refine LamX.walk_ofTsE (l := PySem.Challenge.rw_wayorring_k01_values_common_square_free) (n := 63) (k := 11) (x := "script") (CX := fun _ => L2.CX0) rfl (by decide) (by kernel_rfl) ⟨rfl, by decide, by decide⟩ ?F (fun _ _ _ _ _ z => z)
    intro w mg fa h Y G hmg0
    obtain ⟨K, KX, Y⟩ := Y
    have hmg : mg ("law" : PySem.Str) = some (.ref fa) := by
      have e : (HandSHeadRun.topDef (OpenLaw.row PySem.Challenge.rw_wayorring_k01_values_common_square_free).prog 46).name = ("law" : PySem.Str) := by kernel_rfl
      rw [← e]
      exact hmg0
    have T := DD.told KX G Y.t.d
    have e := hmg.symm.trans T.g_law
    cases e
    obtain ⟨fl, Fl⟩ := T.t_law
    exact ⟨K, KX, DD.lawAt Y KX (fun s u => L2.FunD.bindsA (ps := ["script"]) Fl (fun _ _ _ _ _ _ us hl => match us, hl with | [_], _ => rfl) s [u] rfl)
      fun base hK hN hT => DD.all01 (W := ⟨(PySem.Challenge.rw_wayorring_k01_values_common_square_free).prog, w, K, mg, base⟩) T (DD.told_gcd KX G Y.more) Fl⟩
end
