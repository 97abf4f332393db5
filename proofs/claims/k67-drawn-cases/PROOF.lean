import PyProof.Rows.All
import Wide.All
import OpenK.AllK
import Wide.FinOn
import HandS.ForMost
import HandS.Conv
import HandS.Style
import HandS.Flow
import HandS.TupAny
import HandS.Wide
import HandS.Gcd
import HandS.IsInst
import HandS.Zip
import HandS.Rev
import HandS.NoneIn
import KE.SortData
import HandS.SortOrd
import HandS.AnyAll
import HandS.Defaults
import HandS.HeadHook1
import HandS.HeadHook2
import HandS.HeadHook3
import HandS.HeadHook4
import HandS.EndTab
import HandS.HeadWalk
import HandS.Head0
import HandS.Head1
import HandS.Head2
import HandS.HeadEnd
import PySem.Challenge.RW_wayorring_k67_drawn_cases
set_option Elab.async false
set_option linter.all false
set_option maxRecDepth 100000
set_option maxHeartbeats 4000000
namespace DD
open PySem PySem.Spec PyProof.Rows L2

/-- data as values: tuples are values, what can change stands at an address -/
inductive D where
  | non | bl (b : Bool) | int (i : Int) | str (s : Str) | tup (xs : List D) | ref (a : Addr) | ty (n : String)
  /-- a list that is only read (the script) -/
  | rol (xs : List D)
  deriving Inhabited
/-- what stands at an address -/
inductive MO where
  | lst (xs : List D)
  | dK (kvs : List (Key × D))
  /-- an instance of the class at C: the names of its attributes in their order, the values of the first of them -/
  | ins (C : Addr) (ns : List Str) (ds : List D)
  /-- a table of code objects: what is in it is not told -/
  | tbl
  deriving Inhabited
abbrev Mem := Addr → Option MO
def updM (M : Mem) (a : Addr) (o : MO) : Mem := fun b => if b = a then some o else M b
theorem updM_same {M : Mem} {a : Addr} {o : MO} : updM M a o a = some o := by unfold updM; rw [if_pos rfl]
theorem updM_ne {M : Mem} {a b : Addr} {o : MO} (h : b ≠ a) : updM M a o b = M b := by unfold updM; rw [if_neg h]
theorem updM_upd {M : Mem} {a : Addr} {o u : MO} : updM (updM M a o) a u = updM M a u := by
  funext b; unfold updM; split <;> rfl
/-- less is known -/
def Sub (M M' : Mem) : Prop := ∀ a o, M a = some o → M' a = some o
theorem Sub.refl (M : Mem) : Sub M M := fun _ _ h => h
theorem Sub.trans {M M1 M2 : Mem} (a : Sub M M1) (b : Sub M1 M2) : Sub M M2 := fun x o h => b x o (a x o h)
theorem Sub.new {M : Mem} {p : Addr} {o : MO} (h : M p = none) : Sub M (updM M p o) := fun a u e => by
  have : a ≠ p := fun z => by rw [z, h] at e; cases e
  rw [updM_ne this]; exact e

/-- a list that is only read -/
def RoL (K : PySem.W.Frag) (H : Hp) (a : Addr) (vs : List V) : Prop := (∃ o, H a = some (.frz o (.lst vs))) ∨
  ∃ (o : Obj) (its : Array Value) (n : Nat), K.lookup a = some o ∧ o.cls = .type "list" ∧ o.dict = none ∧ o.data = .seq its n ∧ its.size ≤ sizeLine ∧ Vals vs its.toList
theorem RoL.sq {K : PySem.W.Frag} {H : Hp} {a : Addr} {vs : List V} (h : RoL K H a vs) : SqL K H a vs := by
  rcases h with h | h
  · exact .inl (.inr h)
  · exact .inr h
section
variable (K : PySem.W.Frag) (H : Hp)
mutual
def RV : D → V → Prop
  | .non, v => v = .non
  | .bl b, v => v = .bl b
  | .int i, v => v = .int i
  | .str s, v => v = .str s
  | .ref a, v => v = .ref a
  | .ty n, v => v = .ty n
  | .tup ds, v => ∃ a vs, v = .ref a ∧ SqT K H a vs ∧ RVs ds vs
  | .rol ds, v => ∃ a vs, v = .ref a ∧ RoL K H a vs ∧ RVs ds vs
def RVs : List D → List V → Prop
  | [], vs => vs = []
  | d :: ds, vs => ∃ v ws, vs = v :: ws ∧ RV d v ∧ RVs ds ws
end
/-- how a thing of the memory stands -/
def RO (a : Addr) : MO → Prop
  | .lst ds => ∃ vs, H a = some (.lst vs) ∧ RVs K H ds vs
  | .dK kvs => ∃ ws : List (Key × V), H a = some (.dK ws) ∧ kvs.map (·.1) = ws.map (·.1) ∧ RVs K H (kvs.map (·.2)) (ws.map (·.2))
  | .ins C ns ds => ∃ (dx : Addr) (ws : List (Str × V)), H a = some (.ins C dx ws) ∧ ws.map (·.1) = ns.take ds.length ∧ RVs K H ds (ws.map (·.2))
  | .tbl => ∃ ps : Array Value, H a = some (.tbl ps) ∧ TriplesOk ps.toList
def RM (M : Mem) : Prop := ∀ a o, M a = some o → RO K H a o
end
/-- tuples are kept -/
structure Ext (K : PySem.W.Frag) (H H' : Hp) : Prop where
  t : ∀ a xs, H a = some (.tup xs) → H' a = some (.tup xs)
  f : ∀ a o xs, H a = some (.frz o xs) → H' a = some (.frz o xs)
theorem Ext.refl {K : PySem.W.Frag} (H : Hp) : Ext K H H := ⟨fun _ _ h => h, fun _ _ _ h => h⟩
theorem Ext.trans {K : PySem.W.Frag} {H H1 H2 : Hp} (a : Ext K H H1) (b : Ext K H1 H2) : Ext K H H2 := ⟨fun x o h => b.t x o (a.t x o h), fun x o u h => b.f x o u (a.f x o u h)⟩
theorem Ext.sqT {K : PySem.W.Frag} {H H' : Hp} (e : Ext K H H') {a : Addr} {xs : List V} (h : SqT K H a xs) : SqT K H' a xs := by
  rcases h with (h | ⟨u, h⟩) | h
  · exact .inl (.inl (e.t _ _ h))
  · exact .inl (.inr ⟨u, e.f _ _ _ h⟩)
  · exact .inr h
theorem Ext.rol {K : PySem.W.Frag} {H H' : Hp} (e : Ext K H H') {a : Addr} {xs : List V} (h : RoL K H a xs) : RoL K H' a xs := by
  rcases h with ⟨u, h⟩ | h
  · exact .inl ⟨u, e.f _ _ _ h⟩
  · exact .inr h
theorem Ext.new {K : PySem.W.Frag} {H : Hp} {p : Addr} {o : HO} (h : H p = none) : Ext K H (upd H p o) :=
  ⟨fun a xs e => by rw [upd_ne (ne_of_none e h)]; exact e, fun a u xs e => by rw [upd_ne (ne_of_none e h)]; exact e⟩
/-- a thing that is no tuple is changed -/
theorem Ext.mut {K : PySem.W.Frag} {H : Hp} {p : Addr} {u o : HO} (h : H p = some u) (n1 : ∀ xs, u ≠ .tup xs) (n2 : ∀ o xs, u ≠ .frz o xs) : Ext K H (upd H p o) :=
  ⟨fun a xs e => by rw [upd_ne (ne_of e h (fun q => n1 _ q.symm))]; exact e, fun a z xs e => by rw [upd_ne (ne_of e h (fun q => n2 _ _ q.symm))]; exact e⟩
section
variable {K : PySem.W.Frag} {H H' : Hp}
mutual
theorem RV.ext (e : Ext K H H') : ∀ {d : D} {v : V}, RV K H d v → RV K H' d v
  | .non, _, h => h
  | .bl _, _, h => h
  | .int _, _, h => h
  | .str _, _, h => h
  | .ref _, _, h => h
  | .ty _, _, h => h
  | .tup ds, v, h => by
    obtain ⟨a, vs, r, s, q⟩ := h
    exact ⟨a, vs, r, e.sqT s, RVs.ext e q⟩
  | .rol ds, v, h => by
    obtain ⟨a, vs, r, s, q⟩ := h
    exact ⟨a, vs, r, e.rol s, RVs.ext e q⟩
theorem RVs.ext (e : Ext K H H') : ∀ {ds : List D} {vs : List V}, RVs K H ds vs → RVs K H' ds vs
  | [], _, h => h
  | d :: ds, _, h => by
    obtain ⟨v, ws, r, q, t⟩ := h
    exact ⟨v, ws, r, RV.ext e q, RVs.ext e t⟩
end
theorem RVs.nil : RVs K H [] [] := rfl
theorem RVs.cons {d : D} {v : V} {ds : List D} {vs : List V} (h : RV K H d v) (t : RVs K H ds vs) : RVs K H (d :: ds) (v :: vs) := ⟨v, vs, rfl, h, t⟩
theorem RVs.length : ∀ {ds : List D} {vs : List V}, RVs K H ds vs → ds.length = vs.length
  | [], _, h => by cases h; rfl
  | _ :: _, _, h => by
    obtain ⟨v, ws, rfl, _, t⟩ := h
    simp [RVs.length t]
theorem RVs.get : ∀ {ds : List D} {vs : List V} {i : Nat} {d : D}, RVs K H ds vs → ds[i]? = some d → ∃ v, vs[i]? = some v ∧ RV K H d v
  | [], _, _, _, _, e => by simp at e
  | _ :: _, _, 0, _, h, e => by
    obtain ⟨v, ws, rfl, q, t⟩ := h
    simp at e; subst e
    exact ⟨v, rfl, q⟩
  | _ :: _, _, i + 1, _, h, e => by
    obtain ⟨v, ws, rfl, q, t⟩ := h
    obtain ⟨v', a, b⟩ := RVs.get (i := i) t (by simpa using e)
    exact ⟨v', by simpa using a, b⟩
theorem RVs.append : ∀ {ds es : List D} {vs ws : List V}, RVs K H ds vs → RVs K H es ws → RVs K H (ds ++ es) (vs ++ ws)
  | [], _, _, _, h, t => by cases h; exact t
  | _ :: _, _, _, _, h, t => by
    obtain ⟨v, ws, rfl, q, r⟩ := h
    exact .cons q (RVs.append r t)
theorem RVs.take : ∀ {ds : List D} {vs : List V} (n : Nat), RVs K H ds vs → RVs K H (ds.take n) (vs.take n)
  | _, _, 0, _ => .nil
  | [], _, _ + 1, h => by cases h; exact .nil
  | _ :: _, _, n + 1, h => by
    obtain ⟨v, ws, rfl, q, r⟩ := h
    exact .cons q (RVs.take n r)
theorem RVs.drop : ∀ {ds : List D} {vs : List V} (n : Nat), RVs K H ds vs → RVs K H (ds.drop n) (vs.drop n)
  | _, _, 0, h => h
  | [], _, _ + 1, h => by cases h; exact .nil
  | _ :: _, _, n + 1, h => by
    obtain ⟨v, ws, rfl, q, r⟩ := h
    exact RVs.drop n r
theorem RVs.set : ∀ {ds : List D} {vs : List V} {d : D} {v : V} (i : Nat), RVs K H ds vs → RV K H d v → RVs K H (ds.set i d) (vs.set i v)
  | [], _, _, _, _, h, _ => by cases h; exact .nil
  | _ :: _, _, _, _, 0, h, r => by
    obtain ⟨v, ws, rfl, q, t⟩ := h
    exact .cons r t
  | _ :: _, _, _, _, i + 1, h, r => by
    obtain ⟨v, ws, rfl, q, t⟩ := h
    exact .cons q (RVs.set i t r)
theorem RVs.reverse : ∀ {ds : List D} {vs : List V}, RVs K H ds vs → RVs K H ds.reverse vs.reverse
  | [], _, h => by cases h; exact .nil
  | _ :: _, _, h => by
    obtain ⟨v, ws, rfl, q, t⟩ := h
    rw [List.reverse_cons, List.reverse_cons]
    exact RVs.append (RVs.reverse t) (.cons q .nil)
theorem RVs.eraseIdx : ∀ {ds : List D} {vs : List V} (i : Nat), RVs K H ds vs → RVs K H (ds.eraseIdx i) (vs.eraseIdx i)
  | [], _, _, h => by cases h; exact .nil
  | _ :: _, _, 0, h => by
    obtain ⟨v, ws, rfl, q, t⟩ := h
    exact t
  | _ :: _, _, i + 1, h => by
    obtain ⟨v, ws, rfl, q, t⟩ := h
    exact .cons q (RVs.eraseIdx i t)
theorem RVs.dropLast {ds : List D} {vs : List V} (h : RVs K H ds vs) : RVs K H ds.dropLast vs.dropLast := by
  rw [List.dropLast_eq_take, List.dropLast_eq_take, ← h.length]
  exact h.take _
/-- ints -/
theorem RVs.ints : ∀ {ns : List Int} {vs : List V}, RVs K H (ns.map D.int) vs → vs = ns.map V.int
  | [], _, h => h
  | _ :: _, _, h => by
    obtain ⟨v, ws, rfl, q, t⟩ := h
    have q : v = .int _ := q
    rw [q, RVs.ints t]
    rfl
theorem RVs.of_ints : ∀ ns : List Int, RVs K H (ns.map D.int) (ns.map V.int)
  | [] => .nil
  | _ :: r => .cons rfl (RVs.of_ints r)
theorem RVs.bls : ∀ {ns : List Bool} {vs : List V}, RVs K H (ns.map D.bl) vs → vs = ns.map V.bl
  | [], _, h => h
  | _ :: _, _, h => by
    obtain ⟨v, ws, rfl, q, t⟩ := h
    have q : v = .bl _ := q
    rw [q, RVs.bls t]
    rfl

/-! ### the memory through a change -/
theorem ro_some {a : Addr} {o : MO} (h : RO K H a o) : ∃ u, H a = some u ∧ (∀ xs, u ≠ .tup xs) ∧ (∀ o xs, u ≠ .frz o xs) := by
  cases o with
  | lst ds => obtain ⟨vs, h1, h2⟩ := h; exact ⟨_, h1, fun _ z => (by cases z), fun _ _ z => (by cases z)⟩
  | dK kvs => obtain ⟨vs, h1, h2⟩ := h; exact ⟨_, h1, fun _ z => (by cases z), fun _ _ z => (by cases z)⟩
  | ins C ns ds => obtain ⟨dx, vs, h1, h2⟩ := h; exact ⟨_, h1, fun _ z => (by cases z), fun _ _ z => (by cases z)⟩
  | tbl => obtain ⟨ps, h1, h2⟩ := h; exact ⟨_, h1, fun _ z => (by cases z), fun _ _ z => (by cases z)⟩
/-- what it leans on is as it was -/
theorem ro_stay {a : Addr} {o : MO} (e : Ext K H H') (k : H' a = H a) (h : RO K H a o) : RO K H' a o := by
  cases o with
  | lst ds => obtain ⟨vs, h1, h2⟩ := h; exact ⟨vs, by rw [k]; exact h1, h2.ext e⟩
  | dK kvs => obtain ⟨vs, h1, h2, h3⟩ := h; exact ⟨vs, by rw [k]; exact h1, h2, h3.ext e⟩
  | ins C ns ds => obtain ⟨dx, vs, h1, h2, h3⟩ := h; exact ⟨dx, vs, by rw [k]; exact h1, h2, h3.ext e⟩
  | tbl => obtain ⟨ps, h1, h2⟩ := h; exact ⟨ps, by rw [k]; exact h1, h2⟩
theorem rm_none {M : Mem} {p : Addr} (h : RM K H M) (hp : H p = none) : M p = none := by
  cases e : M p with
  | none => rfl
  | some o =>
    obtain ⟨u, q, _⟩ := ro_some (h p o e)
    rw [hp] at q; cases q
theorem rm_sub {M M' : Mem} (h : RM K H M') (s : Sub M M') : RM K H M := fun a o e => h a o (s a o e)
/-- a thing that the memory doesn't tell of is made -/
theorem rm_skip {M : Mem} {p : Addr} {u : HO} (h : RM K H M) (hp : H p = none) : RM K (upd H p u) M := fun a o e => by
  obtain ⟨w, q, _⟩ := ro_some (h a o e)
  exact ro_stay (Ext.new hp) (upd_ne (ne_of_none q hp)) (h a o e)
theorem rm_new {M : Mem} {p : Addr} {u : HO} {o : MO} (h : RM K H M) (hp : H p = none) (ho : RO K (upd H p u) p o) : RM K (upd H p u) (updM M p o) := fun a o' e => by
  by_cases ha : a = p
  · subst ha; rw [updM_same] at e; cases e; exact ho
  · rw [updM_ne ha] at e
    exact rm_skip h hp a o' e
theorem rm_put {M : Mem} {p : Addr} {w u : HO} {o : MO} (h : RM K H M) (hp : H p = some w) (e : Ext K H (upd H p u)) (ho : RO K (upd H p u) p o) : RM K (upd H p u) (updM M p o) := fun a o' q => by
  by_cases ha : a = p
  · subst ha; rw [updM_same] at q; cases q; exact ho
  · rw [updM_ne ha] at q
    exact ro_stay e (upd_ne ha) (h a o' q)
theorem ro_lst {p : Addr} {ds : List D} {vs : List V} (h : H p = some (.lst vs)) (r : RVs K H ds vs) : RO K H p (.lst ds) := ⟨vs, h, r⟩
theorem rm_newL {M : Mem} {p : Addr} {ds : List D} {vs : List V} (h : RM K H M) (hp : H p = none) (r : RVs K H ds vs) : RM K (upd H p (.lst vs)) (updM M p (.lst ds)) := rm_new h hp ⟨vs, upd_same, r.ext (Ext.new hp)⟩
theorem ext_lst {p : Addr} {vs : List V} {u : HO} (hp : H p = some (.lst vs)) : Ext K H (upd H p u) := Ext.mut hp (fun _ z => by cases z) (fun _ _ z => by cases z)
theorem rm_putL {M : Mem} {p : Addr} {ds : List D} {ws vs : List V} (h : RM K H M) (hp : H p = some (.lst ws)) (r : RVs K H ds vs) : RM K (upd H p (.lst vs)) (updM M p (.lst ds)) := rm_put h hp (ext_lst hp) ⟨vs, upd_same, r.ext (ext_lst hp)⟩
end

/-! ### the slots -/
abbrev DSt := List (Option D)
structure Sl (K : PySem.W.Frag) (σ : L2.St) (H : Hp) (δ : DSt) : Prop where
  len : δ.length = σ.length
  at_ : ∀ (i : Nat) (d : D), δ[i]? = some (some d) → ∃ v, σ[i]? = some (some v) ∧ RV K H d v
section
variable {K : PySem.W.Frag} {H H' : Hp} {σ : L2.St} {δ : DSt}
theorem Sl.ext (e : Ext K H H') (h : Sl K σ H δ) : Sl K σ H' δ := ⟨h.len, fun i d q => by
  obtain ⟨v, a, b⟩ := h.at_ i d q
  exact ⟨v, a, b.ext e⟩⟩
theorem Sl.set {i : Nat} {d : D} {v : V} (h : Sl K σ H δ) (r : RV K H d v) : Sl K (σ.set i (some v)) H (δ.set i (some d)) := ⟨by simp [h.len], fun j d' q => by
  by_cases hj : i = j
  · subst hj
    by_cases hi : i < δ.length
    · rw [List.getElem?_set_self hi] at q
      cases q
      exact ⟨v, List.getElem?_set_self (by rw [← h.len]; exact hi), r⟩
    · rw [List.getElem?_eq_none (by simpa using hi)] at q; cases q
  · rw [List.getElem?_set_ne hj] at q ⊢
    exact h.at_ j d' q⟩
def wipeD (δ : DSt) : List Nat → DSt
  | [] => δ
  | v :: vs => (wipeD δ vs).set v none
theorem Sl.wipe (h : Sl K σ H δ) : ∀ vs : List Nat, Sl K (wipe σ vs) H (wipeD δ vs)
  | [] => h
  | v :: vs => by
    have ih := h.wipe vs
    refine ⟨?_, fun j d' q => ?_⟩
    · show ((wipeD δ vs).set v none).length = ((L2.wipe σ vs).set v none).length
      simp [ih.len]
    · have q : ((wipeD δ vs).set v none)[j]? = some (some d') := q
      show ∃ w, ((L2.wipe σ vs).set v none)[j]? = some (some w) ∧ _
      by_cases hj : v = j
      · subst hj
        by_cases hi : v < (wipeD δ vs).length
        · rw [List.getElem?_set_self hi] at q; cases q
        · rw [List.getElem?_eq_none (by simpa using hi)] at q; cases q
      · rw [List.getElem?_set_ne hj] at q ⊢
        exact ih.at_ j d' q
end

/-! ### readings over data -/
abbrev DK := D → Mem → Prop
abbrev DE := DSt → Mem → DK → Prop
abbrev DT := DSt → Mem → (Bool → Mem → Prop) → Prop
abbrev DA := DSt → Mem → (List D → Mem → Prop) → Prop
structure DEnds where
  nx : DSt → Mem → Prop
  rt : DK
  bk : DSt → Mem → Prop := fun _ _ => False
  ct : DSt → Mem → Prop := fun _ _ => False
abbrev DS := DEnds → DSt → Mem → Prop
section
variable (K : PySem.W.Frag)
/-- what is wanted of a value behind a reading -/
def KQ (H : Hp) (R : DK) (Q : VK) : Prop := ∀ d M' v H', R d M' → Ext K H H' → RV K H' d v → RM K H' M' → Q v H'
def lift (t : DE) : TE := fun σ H Q => ∃ δ M R, Sl K σ H δ ∧ RM K H M ∧ t δ M R ∧ KQ K H R Q
def liftT (t : DT) : TT := fun σ H Q => ∃ δ M R, Sl K σ H δ ∧ RM K H M ∧ t δ M R ∧ ∀ b M' H', R b M' → Ext K H H' → RM K H' M' → Q b H'
def liftA (t : DA) : TA := fun σ H Q => ∃ δ M R, Sl K σ H δ ∧ RM K H M ∧ t δ M R ∧ ∀ ds M' vs H', R ds M' → Ext K H H' → RVs K H' ds vs → RM K H' M' → Q vs H'
structure EndsOk (H : Hp) (R : DEnds) (Dd : Ends) : Prop where
  nx : ∀ δ M σ H', R.nx δ M → Ext K H H' → Sl K σ H' δ → RM K H' M → Dd.nx σ H'
  bk : ∀ δ M σ H', R.bk δ M → Ext K H H' → Sl K σ H' δ → RM K H' M → Dd.bk σ H'
  ct : ∀ δ M σ H', R.ct δ M → Ext K H H' → Sl K σ H' δ → RM K H' M → Dd.ct σ H'
  rt : KQ K H R.rt Dd.rt
def liftS (t : DS) : TS := fun Dd σ H => ∃ δ M R, Sl K σ H δ ∧ RM K H M ∧ t R δ M ∧ EndsOk K H R Dd
end
theorem KQ.ext {K : PySem.W.Frag} {H H1 : Hp} {R : DK} {Q : VK} (k : KQ K H R Q) (e : Ext K H H1) : KQ K H1 R Q := fun d M' v H' r e' rv rm => k d M' v H' r (e.trans e') rv rm
theorem EndsOk.ext {K : PySem.W.Frag} {H H1 : Hp} {R : DEnds} {Dd : Ends} (k : EndsOk K H R Dd) (e : Ext K H H1) : EndsOk K H1 R Dd :=
  ⟨fun δ M σ H' r e' s m => k.nx δ M σ H' r (e.trans e') s m, fun δ M σ H' r e' s m => k.bk δ M σ H' r (e.trans e') s m, fun δ M σ H' r e' s m => k.ct δ M σ H' r (e.trans e') s m, k.rt.ext e⟩
structure PD (X : Cx) (e : Expr) (t : DE) : Prop where
  pe : PE X e (lift X.K t)
structure PDT (X : Cx) (e : Expr) (t : DT) : Prop where
  pt : PT X e (liftT X.K t)
structure PDA (X : Cx) (es : List Expr) (t : DA) : Prop where
  pa : PA X es (liftA X.K t)
structure PDS (X : Cx) (st : Stmt) (t : DS) : Prop where
  ps : PS X st (liftS X.K t)
structure PDSs (X : Cx) (st : List Stmt) (t : DS) : Prop where
  ps : PSs X st (liftS X.K t)
section
variable {X : Cx} {e : Expr} {es : List Expr} {st : Stmt} {sts : List Stmt}
theorem PE_imp {t t' : TE} (h : PE X e t) (f : ∀ σ H Q, t' σ H Q → t σ H Q) : PE X e t' := ⟨fun pins s σ H Q I q => h.run pins s σ H Q I (f _ _ _ q)⟩
theorem PT_imp {t t' : TT} (h : PT X e t) (f : ∀ σ H Q, t' σ H Q → t σ H Q) : PT X e t' := ⟨fun pins s σ H Q I q => h.run pins s σ H Q I (f _ _ _ q)⟩
theorem PA_imp {t t' : TA} (h : PA X es t) (f : ∀ σ H Q, t' σ H Q → t σ H Q) : PA X es t' := ⟨fun pos pins s σ H Q I q => h.run pos pins s σ H Q I (f _ _ _ q)⟩
theorem PS_imp {t t' : TS} (h : PS X st t) (f : ∀ Dd σ H, t' Dd σ H → t Dd σ H) : PS X st t' := ⟨fun pins s σ H Q I q => h.run pins s σ H Q I (f _ _ _ q)⟩
theorem PSs_imp {t t' : TS} (h : PSs X sts t) (f : ∀ Dd σ H, t' Dd σ H → t Dd σ H) : PSs X sts t' := ⟨fun pins s σ H Q I q => h.run pins s σ H Q I (f _ _ _ q)⟩
end

/-! ### names, constants -/
def dVar (i : Nat) : DE := fun δ M R => match δ[i]? with
  | some (some d) => R d M
  | _ => False
def dC (d : D) : DE := fun _ M R => R d M
section
variable {X : Cx} {pos : Pos}
theorem pd_var {i : Nat} {e : Expr} (h : PE X e (tVar i)) : PD X e (dVar i) := ⟨PE_imp h fun σ H Q q => by
  obtain ⟨δ, M, R, S, m, h, k⟩ := q
  unfold dVar at h
  split at h
  · rename_i d hd
    obtain ⟨v, a, b⟩ := S.at_ i d hd
    exact ⟨v, a, k d M v H h (Ext.refl H) b m⟩
  · exact h.elim⟩
theorem pd_c {e : Expr} {d : D} {v : V} (h : PE X e (tC v)) (r : ∀ H, RV X.K H d v) : PD X e (dC d) := ⟨PE_imp h fun σ H Q q => by
  obtain ⟨δ, M, R, S, m, h, k⟩ := q
  exact k d M v H h (Ext.refl H) (r H) m⟩
theorem pd_int {i : Int} {j : Nat} : PD X (.Constant (.int i) j pos) (dC (.int i)) := pd_c pe_int fun _ => rfl
theorem pd_bl {b : Bool} {j : Nat} : PD X (.Constant (.bool b) j pos) (dC (.bl b)) := pd_c pe_bl fun _ => rfl
theorem pd_non {j : Nat} : PD X (.Constant .none j pos) (dC .non) := pd_c pe_non fun _ => rfl
theorem pd_str {x : Str} {j : Nat} : PD X (.Constant (.str x) j pos) (dC (.str x)) := pd_c pe_str fun _ => rfl
end

/-! ### operators -/
/-- what an operator gives over data -/
abbrev D2 := D → D → Mem → DK → Prop
def OpD (K : PySem.W.Frag) (r : R2) (g : D2) : Prop := ∀ x y M R H v w Q, g x y M R → RM K H M → RV K H x v → RV K H y w → KQ K H R Q → r v w H Q
def dBin (g : D2) (ta tb : DE) : DE := fun δ M R => ta δ M fun x M1 => tb δ M1 fun y M2 => g x y M2 R
theorem bin_imp {K : PySem.W.Frag} {r : R2} {g : D2} {ta tb : DE} (hg : OpD K r g) (σ : L2.St) (H : Hp) (Q : VK) (h : lift K (dBin g ta tb) σ H Q) : tOp r (lift K ta) (lift K tb) σ H Q := by
  obtain ⟨δ, M, R, S, m, h, k⟩ := h
  refine ⟨δ, M, _, S, m, h, fun x M1 v H1 h1 e1 r1 m1 => ?_⟩
  refine ⟨δ, M1, _, S.ext e1, m1, h1, fun y M2 w H2 h2 e2 r2 m2 => ?_⟩
  exact hg x y M2 R H2 v w Q h2 m2 (r1.ext e2) r2 (k.ext (e1.trans e2))
section
variable {X : Cx} {a b : Expr} {ta tb : DE} {pos : Pos}
theorem pd_op {op : Operator} {r : R2} {g : D2} (ho : OpR X (binaryOp op) r) (hg : OpD X.K r g) (ha : PD X a ta) (hb : PD X b tb) : PD X (.BinOp a op b pos) (dBin g ta tb) := ⟨PE_imp (pe_op ho ha.pe hb.pe) (bin_imp hg)⟩
theorem pd_cmp {op : CmpOp} {r : R2} {g : D2} (ho : OpR X (compareOp op) r) (hg : OpD X.K r g) (ha : PD X a ta) (hb : PD X b tb) (hm : behindInMarks op b = false) : PD X (.Compare a [op] [b] pos) (dBin g ta tb) := ⟨PE_imp (pe_cmpR ho ha.pe hb.pe hm) (bin_imp hg)⟩
/-- an expression as a test: its value is a bool -/
def dTest (t : DE) : DT := fun δ M R => t δ M fun d M1 => match d with
  | .bl b => R b M1
  | _ => False
theorem test_imp {K : PySem.W.Frag} {t : DE} (σ : L2.St) (H : Hp) (Q : Bool → Hp → Prop) (h : liftT K (dTest t) σ H Q) : tB (lift K t) σ H Q := by
  obtain ⟨δ, M, R, S, m, h, k⟩ := h
  refine ⟨δ, M, _, S, m, h, fun d M1 v H1 h1 e1 r1 m1 => ?_⟩
  split at h1
  · exact ⟨_, r1, k _ M1 H1 h1 e1 m1⟩
  · exact h1.elim
theorem pdt_val {e : Expr} {t : DE} (h : PD X e t) (he : ∀ whole, isTrue e X.env whole = (do let v ← whole; standAt e.pos; holding [v] (truthy v)) := by intro _; rfl) : PDT X e (dTest t) := ⟨PT_imp (pt_val h.pe he) test_imp⟩
theorem pdt_cmp {op : CmpOp} {r : R2} {g : D2} (ho : OpR X (compareOp op) r) (hg : OpD X.K r g) (ha : PD X a ta) (hb : PD X b tb) (hm : behindInMarks op b = false) : PDT X (.Compare a [op] [b] pos) (dTest (dBin g ta tb)) :=
  ⟨PT_imp (pt_cmpR ho ha.pe hb.pe hm) fun σ H Q h => by
    obtain ⟨δ, M, R, S, m, h, k⟩ := h
    have q := bin_imp hg σ H (fun x H' => ∃ k, x = .bl k ∧ Q k H') ⟨δ, M, _, S, m, h, fun d M1 v H1 h1 e1 r1 m1 => by
      split at h1
      · exact ⟨_, r1, k _ M1 H1 h1 e1 m1⟩
      · exact h1.elim⟩
    exact q⟩
end
end DD
namespace DD
open PySem PySem.Spec PyProof.Rows L2

section
variable {X : Cx}
theorem opr_or {f : Value → Value → Sem Value} {r1 r2 : R2} (h1 : OpR X f r1) (h2 : OpR X f r2) : OpR X f (fun x y H Q => r1 x y H Q ∨ r2 x y H Q) := by
  intro pins s σ H x y v u Q I rx ry h
  rcases h with h | h
  · exact h1 pins s σ H x y v u Q I rx ry h
  · exact h2 pins s σ H x y v u Q I rx ry h
theorem kq_keep {K : PySem.W.Frag} {R : DK} {Q : VK} {H : Hp} {M : Mem} {d : D} {v : V} (k : KQ K H R Q) (m : RM K H M) (r : R d M) (rv : RV K H d v) : Q v H := k d M v H r (Ext.refl H) rv m
theorem kq_new {K : PySem.W.Frag} {R : DK} {Q : VK} {H : Hp} {M : Mem} {p : Addr} {ds : List D} {vs : List V} (k : KQ K H R Q) (m : RM K H M) (hp : H p = none) (rv : RVs K H ds vs) (r : R (.ref p) (updM M p (.lst ds))) : Q (.ref p) (upd H p (.lst vs)) :=
  k _ _ _ _ r (Ext.new hp) rfl (rm_newL m hp rv)
theorem kq_newT {K : PySem.W.Frag} {R : DK} {Q : VK} {H : Hp} {M : Mem} {p : Addr} {ds : List D} {vs : List V} (k : KQ K H R Q) (m : RM K H M) (hp : H p = none) (rv : RVs K H ds vs) (r : R (.tup ds) M) : Q (.ref p) (upd H p (.tup vs)) :=
  k _ _ _ _ r (Ext.new hp) ⟨p, vs, rfl, .inl (.inl upd_same), rv.ext (Ext.new hp)⟩ (rm_skip m hp)
theorem kq_put {K : PySem.W.Frag} {R : DK} {Q : VK} {H : Hp} {M : Mem} {p : Addr} {d : D} {v : V} {ds : List D} {ws vs : List V} (k : KQ K H R Q) (m : RM K H M) (hp : H p = some (.lst ws)) (rd : RV K H d v) (rv : RVs K H ds vs) (r : R d (updM M p (.lst ds))) : Q v (upd H p (.lst vs)) :=
  k _ _ _ _ r (ext_lst hp) (rd.ext (ext_lst hp)) (rm_putL m hp rv)
theorem rm_lst {K : PySem.W.Frag} {H : Hp} {M : Mem} {a : Addr} {ds : List D} (m : RM K H M) (h : M a = some (.lst ds)) : ∃ vs, H a = some (.lst vs) ∧ RVs K H ds vs := m a _ h

/-! ### + - * // % ** -/
def gAdd : D2 := fun x y M R => match x, y with
  | .int i, .int j => R (.int (i + j)) M
  | .int i, .bl b => R (.int (i + b2i b)) M
  | .str s, .str t => s.length + t.length ≤ sizeLine ∧ R (.str (s ++ t)) M
  | .tup xs, .tup ys => xs.length + ys.length ≤ sizeLine ∧ R (.tup (xs ++ ys)) M
  | .ref a, .ref b => match M a, M b with
    | some (.lst xs), some (.lst ys) => xs.length + ys.length ≤ sizeLine ∧ ∀ p, M p = none → R (.ref p) (updM M p (.lst (xs ++ ys)))
    | _, _ => False
  | _, _ => False
def rAddA (K : PySem.W.Frag) : R2 := fun x y H Q => (rI0 fun i j => V.int (i + j)) x y H Q ∨ (∃ i k, x = .int i ∧ y = .bl k ∧ Q (.int (i + b2i k)) H) ∨
  (∃ i j, x = .str i ∧ y = .str j ∧ i.length + j.length ≤ sizeLine ∧ Q (.str (i ++ j)) H) ∨ rCatA K x y H Q ∨ rCat x y H Q
theorem op_addA : OpR X (binaryOp .Add) (rAddA X.K) := opr_or op_add (opr_or op_add_ib (opr_or op_add_str (opr_or op_catA op_cat)))
theorem od_add {K : PySem.W.Frag} : OpD K (rAddA K) gAdd := by
  intro x y M R H v w Q g m rx ry k
  unfold gAdd at g
  split at g
  · cases rx; cases ry
    exact .inl ⟨_, _, rfl, rfl, kq_keep k m g rfl⟩
  · cases rx; cases ry
    exact .inr (.inl ⟨_, _, rfl, rfl, kq_keep k m g rfl⟩)
  · cases rx; cases ry
    exact .inr (.inr (.inl ⟨_, _, rfl, rfl, g.1, kq_keep k m g.2 rfl⟩))
  · obtain ⟨a, vs, rfl, s1, q1⟩ := rx
    obtain ⟨b, ws, rfl, s2, q2⟩ := ry
    refine .inr (.inr (.inr (.inl ⟨a, b, vs, ws, rfl, rfl, s1, s2, by rw [← q1.length, ← q2.length]; exact g.1, fun e => ?_, fun e1 e2 => ?_, fun e1 e2 p hp => ?_⟩)))
    · subst e
      have : _ = [] := List.length_eq_zero_iff.mp (q1.length.trans rfl)
      subst this
      exact kq_keep k m g.2 ⟨b, ws, rfl, s2, q2⟩
    · subst e2
      have : _ = [] := List.length_eq_zero_iff.mp (q2.length.trans rfl)
      subst this
      rw [List.append_nil] at g
      exact kq_keep k m g.2 ⟨a, vs, rfl, s1, q1⟩
    · exact kq_newT k m hp (q1.append q2) g.2
  · cases rx; cases ry
    split at g
    · rename_i xs ys h1 h2
      obtain ⟨vs, a1, q1⟩ := rm_lst m h1
      obtain ⟨ws, a2, q2⟩ := rm_lst m h2
      exact .inr (.inr (.inr (.inr ⟨_, _, vs, ws, rfl, rfl, a1, a2, by rw [← q1.length, ← q2.length]; exact g.1, fun p hp => kq_new k m hp (q1.append q2) (g.2 p (rm_none m hp))⟩)))
    · exact g.elim
  · exact g.elim
/-- ints in, under C, a value out -/
def gI (C : Int → Int → Prop) (f : Int → Int → D) : D2 := fun x y M R => match x, y with
  | .int i, .int j => C i j ∧ R (f i j) M
  | _, _ => False
def gI0 (f : Int → Int → D) : D2 := fun x y M R => match x, y with
  | .int i, .int j => R (f i j) M
  | _, _ => False
theorem od_I {K : PySem.W.Frag} {C : Int → Int → Prop} {g : Int → Int → V} {f : Int → Int → D} (h : ∀ H i j, RV K H (f i j) (g i j)) : OpD K (rI C g) (gI C f) := by
  intro x y M R H v w Q q m rx ry k
  unfold gI at q
  split at q
  · cases rx; cases ry
    exact ⟨_, _, rfl, rfl, q.1, kq_keep k m q.2 (h H _ _)⟩
  · exact q.elim
theorem od_I0 {K : PySem.W.Frag} {g : Int → Int → V} {f : Int → Int → D} (h : ∀ H i j, RV K H (f i j) (g i j)) : OpD K (rI0 g) (gI0 f) := by
  intro x y M R H v w Q q m rx ry k
  unfold gI0 at q
  split at q
  · cases rx; cases ry
    exact ⟨_, _, rfl, rfl, kq_keep k m q (h H _ _)⟩
  · exact q.elim
def MulOk (i j : Int) : Prop := i.natAbs.log2 + j.natAbs.log2 < 100000000
theorem MulOk.ok {i j : Int} (h : MulOk i j) : IntMulOk i j := by
  have b : ∀ x : Int, Builtin.Int.intBits x ≤ x.natAbs.log2 + 1 := fun x => by
    unfold Builtin.Int.intBits
    split <;> omega
  have h1 := b i
  have h2 := b j
  have h3 : i.natAbs.log2 + j.natAbs.log2 < 100000000 := h
  have e : bitsLine = 134217728 := by decide
  unfold IntMulOk
  intro z
  rw [Bool.and_eq_true] at z
  have z2 := z.2
  unfold Builtin.Int.intTooBig at z2
  have z3 := of_decide_eq_true z2
  rw [e] at z3
  omega
theorem op_mulG : OpR X (binaryOp .Mult) (rI MulOk fun i j => .int (i * j)) := opI fun _ _ _ _ _ _ _ hc q => mul_int q hc.ok
theorem iop_mulG : OpR X (inplaceOp .Mult) (rI MulOk fun i j => .int (i * j)) := opI fun _ _ _ _ _ _ _ hc q => imul_int q hc.ok
def DivOk (_ j : Int) : Prop := j ≠ 0 ∧ j.natAbs.log2 < 9000
theorem op_fdivG : OpR X (binaryOp .FloorDiv) (rI DivOk fun i j => .int (i.fdiv j)) := opI fun _ _ _ _ _ _ _ hc q => floordiv_int hc.1 q (.inl (PyProof.noPylong_of_log2 hc.2))
theorem iop_fdivG : OpR X (inplaceOp .FloorDiv) (rI DivOk fun i j => .int (i.fdiv j)) := opI fun _ _ _ _ _ _ _ hc q => ifloordiv_int hc.1 q (.inl (PyProof.noPylong_of_log2 hc.2))
abbrev gSub : D2 := gI0 fun i j => .int (i - j)
abbrev gMul : D2 := gI MulOk fun i j => .int (i * j)
abbrev gDiv : D2 := gI DivOk fun i j => .int (i.fdiv j)
abbrev gMod : D2 := gI (fun _ j => j ≠ 0) fun i j => .int (i.fmod j)
abbrev gPow : D2 := gI CPow fun i j => .int (i ^ j.toNat)
theorem od_sub {K : PySem.W.Frag} : OpD K (rI0 fun i j => .int (i - j)) gSub := od_I0 fun _ _ _ => rfl
theorem od_mul {K : PySem.W.Frag} : OpD K (rI MulOk fun i j => .int (i * j)) gMul := od_I fun _ _ _ => rfl
theorem od_div {K : PySem.W.Frag} : OpD K (rI DivOk fun i j => .int (i.fdiv j)) gDiv := od_I fun _ _ _ => rfl
theorem od_mod {K : PySem.W.Frag} : OpD K (rI (fun _ j => j ≠ 0) fun i j => .int (i.fmod j)) gMod := od_I fun _ _ _ => rfl
theorem od_pow {K : PySem.W.Frag} : OpD K (rI CPow fun i j => .int (i ^ j.toNat)) gPow := od_I fun _ _ _ => rfl
/-! ### < <= > >= of ints -/
abbrev gLt : D2 := gI0 fun i j => .bl (decide (i < j))
abbrev gLe : D2 := gI0 fun i j => .bl (decide (i ≤ j))
abbrev gGt : D2 := gI0 fun i j => .bl (decide (j < i))
abbrev gGe : D2 := gI0 fun i j => .bl (decide (j ≤ i))
theorem od_lt {K : PySem.W.Frag} : OpD K (rI0 fun i j => .bl (decide (i < j))) gLt := od_I0 fun _ _ _ => rfl
theorem od_le {K : PySem.W.Frag} : OpD K (rI0 fun i j => .bl (decide (i ≤ j))) gLe := od_I0 fun _ _ _ => rfl
theorem od_gt {K : PySem.W.Frag} : OpD K (rI0 fun i j => .bl (decide (j < i))) gGt := od_I0 fun _ _ _ => rfl
theorem od_ge {K : PySem.W.Frag} : OpD K (rI0 fun i j => .bl (decide (j ≤ i))) gGe := od_I0 fun _ _ _ => rfl

/-! ### == != of data -/
mutual
def pyd : D → Option PyData
  | .non => some .none
  | .bl b => some (.bool b)
  | .int i => some (.int i)
  | .str s => some (.str s)
  | .tup ds => (pyds ds).map .tuple
  | .rol ds => (pyds ds).map .list
  | .ref _ => none
  | .ty _ => none
def pyds : List D → Option (List PyData)
  | [] => some []
  | d :: ds => match pyd d, pyds ds with
    | some x, some xs => some (x :: xs)
    | _, _ => none
end
/-- a list's items are looked up -/
def pydM (M : Mem) : D → Option PyData
  | .ref a => match M a with
    | some (.lst xs) => (pyds xs).map .list
    | _ => none
  | d => pyd d
mutual
theorem pyd_dp {K : PySem.W.Frag} {H : Hp} : ∀ {d : D} {x : PyData} {v : V}, pyd d = some x → RV K H d v → Dp K H v x
  | .non, _, _, e, h => by cases e; cases h; exact .non
  | .bl b, _, _, e, h => by cases e; cases h; exact .bl b
  | .int i, _, _, e, h => by cases e; cases h; exact .int i
  | .str s, _, _, e, h => by cases e; cases h; exact .str s
  | .tup ds, x, v, e, h => by
    obtain ⟨a, vs, rfl, s, q⟩ := h
    cases z : pyds ds with
    | none => simp [pyd, z] at e
    | some xs =>
      simp [pyd, z] at e
      subst e
      exact .tup s (pyds_dp z q)
  | .rol ds, x, v, e, h => by
    obtain ⟨a, vs, rfl, s, q⟩ := h
    cases z : pyds ds with
    | none => simp [pyd, z] at e
    | some xs =>
      simp [pyd, z] at e
      subst e
      exact .lst s.sq (pyds_dp z q)
  | .ref _, _, _, e, _ => by cases e
  | .ty _, _, _, e, _ => by cases e
theorem pyds_dp {K : PySem.W.Frag} {H : Hp} : ∀ {ds : List D} {xs : List PyData} {vs : List V}, pyds ds = some xs → RVs K H ds vs → DpAll K H vs xs
  | [], _, _, e, h => by cases e; cases h; exact .nil
  | d :: ds, xs, vs, e, h => by
    obtain ⟨v, ws, rfl, q, t⟩ := h
    unfold pyds at e
    split at e
    · rename_i x xs' e1 e2
      cases e
      exact .cons (pyd_dp e1 q) (pyds_dp e2 t)
    · cases e
end
theorem pydM_dp {K : PySem.W.Frag} {H : Hp} {M : Mem} {d : D} {x : PyData} {v : V} (m : RM K H M) (e : pydM M d = some x) (h : RV K H d v) : Dp K H v x := by
  unfold pydM at e
  split at e
  · cases h
    split at e
    · rename_i xs he
      obtain ⟨vs, a1, q1⟩ := rm_lst m he
      cases z : pyds xs with
      | none => simp [z] at e
      | some ys =>
        simp [z] at e
        subst e
        exact .lst (.inl (.inl a1)) (pyds_dp z q1)
    · cases e
  · exact pyd_dp e h
def gEq : D2 := fun x y M R => match pydM M x, pydM M y with
  | some a, some b => SeqAt.shaped a = true ∧ SeqAt.shaped b = true ∧ R (.bl (PyData.eqv a b)) M
  | _, _ => False
def gNe : D2 := fun x y M R => match pydM M x, pydM M y with
  | some a, some b => SeqAt.shaped a = true ∧ SeqAt.shaped b = true ∧ R (.bl (!PyData.eqv a b)) M
  | _, _ => False
theorem od_eq {K : PySem.W.Frag} : OpD K (rEqD K) gEq := by
  intro x y M R H v w Q q m rx ry k
  unfold gEq at q
  split at q
  · rename_i a b e1 e2
    exact ⟨a, b, pydM_dp m e1 rx, pydM_dp m e2 ry, q.1, q.2.1, kq_keep k m q.2.2 rfl⟩
  · exact q.elim
theorem od_ne {K : PySem.W.Frag} : OpD K (rNeD K) gNe := by
  intro x y M R H v w Q q m rx ry k
  unfold gNe at q
  split at q
  · rename_i a b e1 e2
    exact ⟨a, b, pydM_dp m e1 rx, pydM_dp m e2 ry, q.1, q.2.1, kq_keep k m q.2.2 rfl⟩
  · exact q.elim
/-! ### is None -/
def isNon : D → Bool
  | .non => true
  | _ => false
def gIsN : D2 := fun x y M R => match y with
  | .non => R (.bl (isNon x)) M
  | _ => False
def gNotN : D2 := fun x y M R => match y with
  | .non => R (.bl (!isNon x)) M
  | _ => False
theorem isNon_rv {K : PySem.W.Frag} {H : Hp} {x : D} {v : V} (h : RV K H x v) : isNon x = decide (v = .non) := by
  cases x with
  | tup ds => obtain ⟨a, vs, rfl, _⟩ := h; rfl
  | rol ds => obtain ⟨a, vs, rfl, _⟩ := h; rfl
  | non => cases h; rfl
  | bl b => cases h; rfl
  | int b => cases h; rfl
  | str b => cases h; rfl
  | ref b => cases h; rfl
  | ty b => cases h; rfl
theorem od_isN {K : PySem.W.Frag} : OpD K (fun x y H Q => y = .non ∧ Q (.bl (decide (x = .non))) H) gIsN := by
  intro x y M R H v w Q q m rx ry k
  unfold gIsN at q
  split at q
  · cases ry
    rw [isNon_rv rx] at q
    exact ⟨rfl, kq_keep k m q rfl⟩
  · exact q.elim
theorem od_notN {K : PySem.W.Frag} : OpD K (fun x y H Q => y = .non ∧ Q (.bl (!decide (x = .non))) H) gNotN := by
  intro x y M R H v w Q q m rx ry k
  unfold gNotN at q
  split at q
  · cases ry
    rw [isNon_rv rx] at q
    exact ⟨rfl, kq_keep k m q rfl⟩
  · exact q.elim

/-! ### one-place -/
abbrev D1 := D → Mem → DK → Prop
def UnD (K : PySem.W.Frag) (r : V → Hp → VK → Prop) (g : D1) : Prop := ∀ x M R H v Q, g x M R → RM K H M → RV K H x v → KQ K H R Q → r v H Q
def dUn (g : D1) (ta : DE) : DE := fun δ M R => ta δ M fun x M1 => g x M1 R
theorem un_imp {K : PySem.W.Frag} {r : V → Hp → VK → Prop} {g : D1} {ta : DE} (hg : UnD K r g) (σ : L2.St) (H : Hp) (Q : VK) (h : lift K (dUn g ta) σ H Q) : tUn r (lift K ta) σ H Q := by
  obtain ⟨δ, M, R, S, m, h, k⟩ := h
  exact ⟨δ, M, _, S, m, h, fun x M1 v H1 h1 e1 r1 m1 => hg x M1 R H1 v Q h1 m1 r1 (k.ext e1)⟩
theorem pd_un {op : UnaryOp} {r : V → Hp → VK → Prop} {g : D1} {a : Expr} {ta : DE} {pos : Pos} (ho : UnR X (unaryOp op) r) (hg : UnD X.K r g) (ha : PD X a ta) : PD X (.UnaryOp op a pos) (dUn g ta) := ⟨PE_imp (pe_un ho ha.pe) (un_imp hg)⟩
def gNeg : D1 := fun x M R => match x with
  | .int i => R (.int (-i)) M
  | _ => False
theorem ud_neg {K : PySem.W.Frag} : UnD K (rU fun i => .int (-i)) gNeg := by
  intro x M R H v Q q m rx k
  unfold gNeg at q
  split at q
  · cases rx
    exact ⟨_, rfl, kq_keep k m q rfl⟩
  · exact q.elim

/-! ### tuples, lists, argument lists -/
def aNil : DA := fun _ M R => R [] M
def aCons (ta : DE) (tr : DA) : DA := fun δ M R => ta δ M fun x M1 => tr δ M1 fun xs M2 => R (x :: xs) M2
theorem pda_nil : PDA X [] aNil := ⟨PA_imp pa_nil fun σ H Q h => by
  obtain ⟨δ, M, R, S, m, h, k⟩ := h
  exact k [] M [] H h (Ext.refl H) .nil m⟩
theorem pda_cons {e : Expr} {es : List Expr} {te : DE} {t : DA} (ha : PD X e te) (hr : PDA X es t) (hs : starEach (e :: es) X.env = (false, eval e X.env) :: starEach es X.env := by rfl) : PDA X (e :: es) (aCons te t) := ⟨PA_imp (pa_cons ha.pe hr.pa hs) fun σ H Q h => by
  obtain ⟨δ, M, R, S, m, h, k⟩ := h
  refine ⟨δ, M, _, S, m, h, fun x M1 v H1 h1 e1 r1 m1 => ?_⟩
  refine ⟨δ, M1, _, S.ext e1, m1, h1, fun xs M2 vs H2 h2 e2 r2 m2 => ?_⟩
  exact k _ M2 _ H2 h2 (e1.trans e2) (.cons (r1.ext e2) r2) m2⟩
def dTup (t : DA) : DE := fun δ M R => t δ M fun xs M1 => xs.length ≤ sizeLine ∧ R (.tup xs) M1
def dLst (t : DA) : DE := fun δ M R => t δ M fun xs M1 => xs.length ≤ sizeLine ∧ ∀ p, M1 p = none → R (.ref p) (updM M1 p (.lst xs))
theorem pd_tup {es : List Expr} {t : DA} {x1 : Nat} {pos : Pos} (h : PDA X es t) : PD X (.Tuple es x1 pos) (dTup t) := ⟨PE_imp (pe_tup h.pa) fun σ H Q h => by
  obtain ⟨δ, M, R, S, m, h, k⟩ := h
  exact ⟨δ, M, _, S, m, h, fun xs M1 vs H1 h1 e1 r1 m1 => ⟨by rw [← r1.length]; exact h1.1, fun p hp => kq_newT (k.ext e1) m1 hp r1 h1.2⟩⟩⟩
theorem pd_lst {es : List Expr} {t : DA} {pos : Pos} (h : PDA X es t) : PD X (.List es pos) (dLst t) := ⟨PE_imp (pe_lst h.pa) fun σ H Q h => by
  obtain ⟨δ, M, R, S, m, h, k⟩ := h
  exact ⟨δ, M, _, S, m, h, fun xs M1 vs H1 h1 e1 r1 m1 => ⟨by rw [← r1.length]; exact h1.1, fun p hp => kq_new (k.ext e1) m1 hp r1 (h1.2 p (rm_none m1 hp))⟩⟩⟩

/-! ### subscripts -/
theorem atI_rv {K : PySem.W.Frag} {H : Hp} {ds : List D} {vs : List V} {i : Int} {d : D} (r : RVs K H ds vs) (h : atI ds i = some d) : ∃ v, atI vs i = some v ∧ RV K H d v := by
  unfold atI at h ⊢
  rw [← r.length]
  cases e : ixN ds.length i with
  | none => rw [e] at h; cases h
  | some j =>
    rw [e] at h
    obtain ⟨v, a, b⟩ := r.get (i := j) h
    exact ⟨v, a, b⟩
def gIx : D2 := fun x y M R => match x, y with
  | .tup xs, .int i => match atI xs i with
    | some d => R d M
    | none => False
  | .rol xs, .int i => match atI xs i with
    | some d => R d M
    | none => False
  | .ref a, .int i => match M a with
    | some (.lst xs) => match atI xs i with
      | some d => R d M
      | none => False
    | _ => False
  | .str z, .int i => match atI z.cps.toList i with
    | some c => z.length ≤ sizeLine ∧ R (.str ⟨#[c]⟩) M
    | none => False
  | _, _ => False
theorem od_ix {K : PySem.W.Frag} : OpD K (rIx K) gIx := by
  intro x y M R H v w Q q m rx ry k
  unfold gIx at q
  split at q
  · obtain ⟨a, vs, rfl, s, r⟩ := rx
    cases ry
    split at q
    · rename_i d hd
      obtain ⟨u, h1, h2⟩ := atI_rv r hd
      exact .inr (.inl ⟨a, vs, _, u, rfl, rfl, s, h1, kq_keep k m q h2⟩)
    · exact q.elim
  · obtain ⟨a, vs, rfl, s, r⟩ := rx
    cases ry
    split at q
    · rename_i d hd
      obtain ⟨u, h1, h2⟩ := atI_rv r hd
      exact .inl ⟨a, vs, _, u, rfl, rfl, s.sq, h1, kq_keep k m q h2⟩
    · exact q.elim
  · cases rx; cases ry
    split at q
    · rename_i xs hx
      obtain ⟨vs, a1, q1⟩ := rm_lst m hx
      split at q
      · rename_i d hd
        obtain ⟨u, h1, h2⟩ := atI_rv q1 hd
        exact .inl ⟨_, vs, _, u, rfl, rfl, .inl (.inl a1), h1, kq_keep k m q h2⟩
      · exact q.elim
    · exact q.elim
  · cases rx; cases ry
    split at q
    · rename_i c hc
      exact .inr (.inr ⟨_, _, c, rfl, rfl, q.1, hc, kq_keep k m q.2 rfl⟩)
    · exact q.elim
  · exact q.elim
theorem pd_ix {a b : Expr} {ta tb : DE} {pos : Pos} (ha : PD X a ta) (hb : PD X b tb) (hs : PlainIx b := by intro _ _; rfl) : PD X (.Subscript a b pos) (dBin gIx ta tb) := ⟨PE_imp (pe_ix ix_seq ha.pe hb.pe hs) (bin_imp od_ix)⟩
end
end DD
namespace DD
open PySem PySem.Spec PyProof.Rows L2
section
variable {X : Cx}
/-! ### slices -/
abbrev DO := DSt → Mem → (Option Int → Mem → Prop) → Prop
def liftO (K : PySem.W.Frag) (t : DO) : TO := fun σ H Q => ∃ δ M R, Sl K σ H δ ∧ RM K H M ∧ t δ M R ∧ ∀ o M' H', R o M' → Ext K H H' → RM K H' M' → Q o H'
structure PDO (X : Cx) (e : Option Expr) (t : DO) : Prop where
  po : PO X e (liftO X.K t)
theorem PO_imp {e : Option Expr} {t t' : TO} (h : PO X e t) (f : ∀ σ H Q, t' σ H Q → t σ H Q) : PO X e t' := ⟨fun pins s σ H Q I q => h.run pins s σ H Q I (f _ _ _ q)⟩
def oNone : DO := fun _ M R => R none M
def oSome (t : DE) : DO := fun δ M R => t δ M fun d M1 => match d with
  | .int i => R (some i) M1
  | _ => False
theorem pdo_none : PDO X none oNone := ⟨PO_imp po_none fun σ H Q h => by
  obtain ⟨δ, M, R, S, m, h, k⟩ := h
  exact k none M H h (Ext.refl H) m⟩
theorem pdo_some {e : Expr} {t : DE} (h : PD X e t) : PDO X (some e) (oSome t) := ⟨PO_imp (po_some h.pe) fun σ H Q h => by
  obtain ⟨δ, M, R, S, m, h, k⟩ := h
  refine ⟨δ, M, _, S, m, h, fun d M1 v H1 h1 e1 r1 m1 => ?_⟩
  split at h1
  · exact ⟨_, r1, k _ M1 H1 h1 e1 m1⟩
  · exact h1.elim⟩
def cutD {α : Type} (xs : List α) (lo hi : Option Int) : List α := (xs.drop (HT.sIx xs.length 0 lo)).take (HT.sIx xs.length xs.length hi - HT.sIx xs.length 0 lo)
theorem RVs.cut {K : PySem.W.Frag} {H : Hp} {ds : List D} {vs : List V} (lo hi : Option Int) (h : RVs K H ds vs) : RVs K H (cutD ds lo hi) (cutV vs lo hi) := by
  unfold cutD cutV
  rw [← h.length]
  exact (h.drop _).take _
def gSl (x : D) (lo hi : Option Int) (M : Mem) (R : DK) : Prop := match x with
  | .tup xs => R (.tup (cutD xs lo hi)) M
  | .rol xs => ∀ p, M p = none → R (.ref p) (updM M p (.lst (cutD xs lo hi)))
  | .str z => z.length ≤ sizeLine ∧ R (.str (cutS z lo hi)) M
  | .ref a => match M a with
    | some (.lst xs) => ∀ p, M p = none → R (.ref p) (updM M p (.lst (cutD xs lo hi)))
    | _ => False
  | _ => False
def dSl (te : DE) (tl th : DO) : DE := fun δ M R => te δ M fun x M1 => tl δ M1 fun lo M2 => th δ M2 fun hi M3 => gSl x lo hi M3 R
def rSlAll (K : PySem.W.Frag) : V → Option Int → Option Int → Hp → VK → Prop := fun x lo hi H Q => rSlA K x lo hi H Q ∨ (rSlL K x lo hi H Q ∨ rSlS x lo hi H Q)
theorem sl_all : SlR X (rSlAll X.K) := sl_tupA.or (sl_list.or sl_str)
theorem cutD_whole {α : Type} {xs : List α} {lo hi : Option Int} (h : HT.sIx xs.length 0 lo = 0 ∧ HT.sIx xs.length xs.length hi = xs.length) : cutD xs lo hi = xs := by
  unfold cutD
  rw [h.1, h.2]
  simp
theorem sl_imp {K : PySem.W.Frag} {x : D} {lo hi : Option Int} {M : Mem} {R : DK} {H : Hp} {v : V} {Q : VK} (g : gSl x lo hi M R) (m : RM K H M) (rx : RV K H x v) (k : KQ K H R Q) : rSlAll K v lo hi H Q := by
  unfold gSl at g
  split at g
  · obtain ⟨a, vs, rfl, s, r⟩ := rx
    refine .inl ⟨a, vs, rfl, s, fun e => ?_, fun e p hp => kq_newT k m hp (r.cut lo hi) g⟩
    rw [← r.length] at e
    rw [cutD_whole e] at g
    exact kq_keep k m g ⟨a, vs, rfl, s, r⟩
  · obtain ⟨a, vs, rfl, s, r⟩ := rx
    exact .inr (.inl ⟨a, vs, rfl, s.sq, fun p hp => kq_new k m hp (r.cut lo hi) (g p (rm_none m hp))⟩)
  · cases rx
    exact .inr (.inr ⟨_, rfl, g.1, kq_keep k m g.2 rfl⟩)
  · cases rx
    split at g
    · rename_i xs hx
      obtain ⟨vs, a1, q1⟩ := rm_lst m hx
      exact .inr (.inl ⟨_, vs, rfl, .inl (.inl a1), fun p hp => kq_new k m hp (q1.cut lo hi) (g p (rm_none m hp))⟩)
    · exact g.elim
  · exact g.elim
theorem pd_slice {e : Expr} {te : DE} {lo hi : Option Expr} {tl th : DO} {pos p2 : Pos} (he : PD X e te) (hl : PDO X lo tl) (hu : PDO X hi th) : PD X (.Subscript e (.Slice lo hi none p2) pos) (dSl te tl th) :=
  ⟨PE_imp (pe_slice sl_all he.pe hl.po hu.po) fun σ H Q h => by
    obtain ⟨δ, M, R, S, m, h, k⟩ := h
    refine ⟨δ, M, _, S, m, h, fun x M1 v H1 h1 e1 r1 m1 => ?_⟩
    refine ⟨δ, M1, _, S.ext e1, m1, h1, fun l M2 H2 h2 e2 m2 => ?_⟩
    refine ⟨δ, M2, _, S.ext (e1.trans e2), m2, h2, fun u M3 H3 h3 e3 m3 => ?_⟩
    exact sl_imp h3 m3 (r1.ext (e2.trans e3)) (k.ext ((e1.trans e2).trans e3))⟩

/-! ### calls of built-ins -/
abbrev DC1 := List D → Mem → DK → Prop
def CallD (K : PySem.W.Frag) (r : List V → Hp → VK → Prop) (g : DC1) : Prop := ∀ xs M R H vs Q, g xs M R → RM K H M → RVs K H xs vs → KQ K H R Q → r vs H Q
def dCB (g : DC1) (t : DA) : DE := fun δ M R => t δ M fun xs M1 => g xs M1 R
theorem cb_imp {K : PySem.W.Frag} {r : List V → Hp → VK → Prop} {g : DC1} {t : DA} (hg : CallD K r g) (σ : L2.St) (H : Hp) (Q : VK) (h : lift K (dCB g t) σ H Q) : tCB r (liftA K t) σ H Q := by
  obtain ⟨δ, M, R, S, m, h, k⟩ := h
  exact ⟨δ, M, _, S, m, h, fun xs M1 vs H1 h1 e1 r1 m1 => hg xs M1 R H1 vs Q h1 m1 r1 (k.ext e1)⟩
theorem callr_or {f : Value} {r1 r2 : List V → Hp → VK → Prop} (h1 : CallR X f r1) (h2 : CallR X f r2) : CallR X f (fun xs H Q => r1 xs H Q ∨ r2 xs H Q) := by
  intro pins s σ H xs us Q I r h
  rcases h with h | h
  · exact h1 pins s σ H xs us Q I r h
  · exact h2 pins s σ H xs us Q I r h
section
variable {x : Str} {p pos : Pos} {e : Expr} {es : List Expr} {t : DA} {id T : String} {r : List V → Hp → VK → Prop} {g : DC1}
theorem pd_callB (hc : CallR X (.builtin id) r) (hg : CallD X.K r g) (hgl : Gl X x) (hm : X.mg x = none) (hv : bootBuiltins x = some (.builtin id)) (ha : PDA X (e :: es) t) (hn : x ≠ "__name__" := by decide) (hdb : (x == ("__debug__" : Str)) = false := by decide)
    (he : starEach (e :: es) X.env = (false, eval e X.env) :: starEach es X.env := by rfl) (hpl : (backTo pos (starEach es X.env)).any (·.1) = false := by rfl) : PD X (.Call (.Name x p) (e :: es) [] pos) (dCB g t) :=
  ⟨PE_imp (pe_callB hc hgl hm hv ha.pa hn hdb he hpl) (cb_imp hg)⟩
theorem pd_callTy (hc : CallR X (.type T) r) (hg : CallD X.K r g) (hgl : Gl X x) (hm : X.mg x = none) (hv : bootBuiltins x = some (.type T)) (ha : PDA X (e :: es) t) (hn : x ≠ "__name__" := by decide) (hdb : (x == ("__debug__" : Str)) = false := by decide)
    (he : starEach (e :: es) X.env = (false, eval e X.env) :: starEach es X.env := by rfl) (hpl : (backTo pos (starEach es X.env)).any (·.1) = false := by rfl) : PD X (.Call (.Name x p) (e :: es) [] pos) (dCB g t) :=
  ⟨PE_imp (pe_callTy hc hgl hm hv ha.pa hn hdb he hpl) (cb_imp hg)⟩
theorem pd_callF (hc : CallR X (.builtin id) r) (hg : CallD X.K r g) (hgl : Gl X x) (hm : X.mg x = some (.builtin id)) (ha : PDA X (e :: es) t) (hdb : (x == ("__debug__" : Str)) = false := by decide)
    (he : starEach (e :: es) X.env = (false, eval e X.env) :: starEach es X.env := by rfl) (hpl : (backTo pos (starEach es X.env)).any (·.1) = false := by rfl) : PD X (.Call (.Name x p) (e :: es) [] pos) (dCB g t) :=
  ⟨PE_imp (pe_callBfun hc hgl hm ha.pa hdb he hpl) (cb_imp hg)⟩
end
/-- the items of a list or a tuple -/
def itemsD (M : Mem) : D → Option (List D)
  | .tup xs => some xs
  | .rol xs => some xs
  | .ref a => match M a with
    | some (.lst xs) => some xs
    | _ => none
  | _ => none
theorem items_sq {K : PySem.W.Frag} {H : Hp} {M : Mem} {d : D} {xs : List D} {v : V} (m : RM K H M) (e : itemsD M d = some xs) (h : RV K H d v) : ∃ p vs, v = .ref p ∧ (SqL K H p vs ∨ SqT K H p vs) ∧ RVs K H xs vs := by
  unfold itemsD at e
  split at e
  · cases e
    obtain ⟨a, vs, rfl, s, r⟩ := h
    exact ⟨a, vs, rfl, .inr s, r⟩
  · cases e
    obtain ⟨a, vs, rfl, s, r⟩ := h
    exact ⟨a, vs, rfl, .inl s.sq, r⟩
  · cases h
    split at e
    · rename_i xs' he
      cases e
      obtain ⟨vs, a1, q1⟩ := rm_lst m he
      exact ⟨_, vs, rfl, .inl (.inl (.inl a1)), q1⟩
    · cases e
  · cases e
/-- an object of the dict kind -/
def dictD (M : Mem) : D → Option (List (Key × D))
  | .ref a => match M a with
    | some (.dK kvs) => some kvs
    | _ => none
  | _ => none
def gLen : DC1 := fun xs M R => match xs with
  | [.str z] => z.length ≤ sizeLine ∧ R (.int z.length) M
  | [d] => match itemsD M d with
    | some ys => R (.int ys.length) M
    | none => False
  | _ => False
theorem cd_len {K : PySem.W.Frag} : CallD K (fun xs H Q => (∃ p ys, xs = [V.ref p] ∧ (SqL K H p ys ∨ SqT K H p ys) ∧ Q (.int ys.length) H) ∨ (∃ z, xs = [V.str z] ∧ z.length ≤ sizeLine ∧ Q (.int z.length) H)) gLen := by
  intro xs M R H vs Q g m r k
  unfold gLen at g
  split at g
  · obtain ⟨v, ws, rfl, q, t⟩ := r
    cases t; cases q
    exact .inr ⟨_, rfl, g.1, kq_keep k m g.2 rfl⟩
  · obtain ⟨v, ws, rfl, q, t⟩ := r
    cases t
    split at g
    · rename_i ys he
      obtain ⟨p, us, rfl, s, r2⟩ := items_sq m he q
      exact .inl ⟨p, us, rfl, s, kq_keep k m g (by show V.int _ = V.int _; rw [r2.length])⟩
    · exact g.elim
  · exact g.elim
theorem call_lenA : CallR X (.builtin "len") (fun xs H Q => (∃ p ys, xs = [V.ref p] ∧ (SqL X.K H p ys ∨ SqT X.K H p ys) ∧ Q (.int ys.length) H) ∨ (∃ z, xs = [V.str z] ∧ z.length ≤ sizeLine ∧ Q (.int z.length) H)) := callr_or call_len_seq call_len_str
def gAbs : DC1 := fun xs M R => match xs with
  | [.int i] => R (.int (if i < 0 then -i else i)) M
  | _ => False
theorem cd_abs {K : PySem.W.Frag} : CallD K (fun xs H Q => ∃ i, xs = [V.int i] ∧ Q (.int (if i < 0 then -i else i)) H) gAbs := by
  intro xs M R H vs Q g m r k
  unfold gAbs at g
  split at g
  · obtain ⟨v, ws, rfl, q, t⟩ := r
    cases t; cases q
    exact ⟨_, rfl, kq_keep k m g rfl⟩
  · exact g.elim
def gInt : DC1 := fun xs M R => match xs with
  | [.int i] => R (.int i) M
  | [.bl b] => R (.int (if b then 1 else 0)) M
  | _ => False
theorem cd_int {K : PySem.W.Frag} : CallD K (fun xs H Q => (∃ i, xs = [V.int i] ∧ Q (.int i) H) ∨ ∃ k, xs = [V.bl k] ∧ Q (.int (if k then 1 else 0)) H) gInt := by
  intro xs M R H vs Q g m r k
  unfold gInt at g
  split at g
  · obtain ⟨v, ws, rfl, q, t⟩ := r
    cases t; cases q
    exact .inl ⟨_, rfl, kq_keep k m g rfl⟩
  · obtain ⟨v, ws, rfl, q, t⟩ := r
    cases t; cases q
    exact .inr ⟨_, rfl, kq_keep k m g rfl⟩
  · exact g.elim
def gMax2 : DC1 := fun xs M R => match xs with
  | [.int i, .int j] => R (.int (if j > i then j else i)) M
  | _ => False
def gMin2 : DC1 := fun xs M R => match xs with
  | [.int i, .int j] => R (.int (if j < i then j else i)) M
  | _ => False
theorem cd_max2 {K : PySem.W.Frag} : CallD K (fun xs H Q => ∃ i j, xs = [V.int i, V.int j] ∧ Q (.int (if j > i then j else i)) H) gMax2 := by
  intro xs M R H vs Q g m r k
  unfold gMax2 at g
  split at g
  · obtain ⟨v, ws, rfl, q, v2, w2, rfl, q2, t⟩ := r
    cases t; cases q; cases q2
    exact ⟨_, _, rfl, kq_keep k m g rfl⟩
  · exact g.elim
theorem cd_min2 {K : PySem.W.Frag} : CallD K (fun xs H Q => ∃ i j, xs = [V.int i, V.int j] ∧ Q (.int (if j < i then j else i)) H) gMin2 := by
  intro xs M R H vs Q g m r k
  unfold gMin2 at g
  split at g
  · obtain ⟨v, ws, rfl, q, v2, w2, rfl, q2, t⟩ := r
    cases t; cases q; cases q2
    exact ⟨_, _, rfl, kq_keep k m g rfl⟩
  · exact g.elim
def gList : DC1 := fun xs M R => match xs with
  | [d] => match itemsD M d with
    | some ys => ∀ p, M p = none → R (.ref p) (updM M p (.lst ys))
    | none => False
  | _ => False
theorem cd_list {K : PySem.W.Frag} : CallD K (fun xs H Q => ∃ p ys, xs = [.ref p] ∧ (SqL K H p ys ∨ SqT K H p ys) ∧ ∀ l, H l = none → Q (.ref l) (upd H l (.lst ys))) gList := by
  intro xs M R H vs Q g m r k
  unfold gList at g
  split at g
  · obtain ⟨v, ws, rfl, q, t⟩ := r
    cases t
    split at g
    · rename_i ys he
      obtain ⟨p, us, rfl, s, r2⟩ := items_sq m he q
      exact ⟨p, us, rfl, s, fun l hl => kq_new k m hl r2 (g l (rm_none m hl))⟩
    · exact g.elim
  · exact g.elim
/-- tuple(x): a list's items; what was new may be forgotten -/
def gTuple : DC1 := fun xs M R => match xs with
  | [d] => match itemsD M d with
    | some ys => ∃ M0, Sub M0 M ∧ R (.tup ys) M0
    | none => False
  | _ => False
theorem cd_tuple {K : PySem.W.Frag} : CallD K (fun xs H Q => ∃ p ys, xs = [.ref p] ∧ ((SqL K H p ys ∧ ∀ l, H l = none → Q (.ref l) (upd H l (.tup ys))) ∨ (SqT K H p ys ∧ Q (.ref p) H))) gTuple := by
  intro xs M R H vs Q g m r k
  unfold gTuple at g
  split at g
  · obtain ⟨v, ws, rfl, q, t⟩ := r
    cases t
    split at g
    · rename_i ys he
      obtain ⟨p, us, rfl, s, r2⟩ := items_sq m he q
      obtain ⟨M0, hs, g⟩ := g
      rcases s with s | s
      · exact ⟨p, us, rfl, .inl ⟨s, fun l hl => kq_newT k (rm_sub m hs) hl r2 g⟩⟩
      · exact ⟨p, us, rfl, .inr ⟨s, kq_keep k (rm_sub m hs) g ⟨p, us, rfl, s, r2⟩⟩⟩
    · exact g.elim
  · exact g.elim
def intsD : List D → Option (List Int)
  | [] => some []
  | .int i :: r => (intsD r).map (i :: ·)
  | _ => none
theorem intsD_eq : ∀ {xs : List D} {ns : List Int}, intsD xs = some ns → xs = ns.map D.int
  | [], _, e => by cases e; rfl
  | .int i :: r, ns, e => by
    unfold intsD at e
    cases z : intsD r with
    | none => rw [z] at e; cases e
    | some ms =>
      rw [z] at e
      cases e
      rw [intsD_eq z]
      rfl
  | .non :: _, _, e => by cases e
  | .bl _ :: _, _, e => by cases e
  | .str _ :: _, _, e => by cases e
  | .tup _ :: _, _, e => by cases e
  | .rol _ :: _, _, e => by cases e
  | .ref _ :: _, _, e => by cases e
  | .ty _ :: _, _, e => by cases e
theorem intsD_map : ∀ ns : List Int, intsD (ns.map D.int) = some ns
  | [] => rfl
  | n :: r => by
    show (intsD (r.map D.int)).map (n :: ·) = some (n :: r)
    rw [intsD_map r]; rfl
/-- sum of a list of ints (a list that stands by itself) -/
def gSum : DC1 := fun xs M R => match xs with
  | [.ref a] => match M a with
    | some (.lst ys) => match intsD ys with
      | some ns => ∃ M0, Sub M0 M ∧ R (.int ns.sum) M0
      | none => False
    | _ => False
  | _ => False
theorem cd_sum {K : PySem.W.Frag} : CallD K (rSum K) gSum := by
  intro xs M R H vs Q g m r k
  unfold gSum at g
  split at g
  · obtain ⟨v, ws, rfl, q, t⟩ := r
    cases t; cases q
    split at g
    · rename_i ys he
      split at g
      · rename_i ns hn
        obtain ⟨M0, hs, g⟩ := g
        obtain ⟨us, a1, r2⟩ := rm_lst m he
        rw [intsD_eq hn] at r2
        rw [r2.ints] at a1
        exact ⟨_, ns, rfl, .inl (.inl a1), kq_keep k (rm_sub m hs) g rfl⟩
      · exact g.elim
    · exact g.elim
  · exact g.elim

/-! ### methods of lists -/
abbrev DM := D → List D → Mem → DK → Prop
def MtD (K : PySem.W.Frag) (T : String) (r : V → List V → Hp → VK → Prop) (ty : D → Mem → Prop) (g : DM) : Prop :=
  (∀ x M H v, ty x M → RM K H M → RV K H x v → tyV K T v H) ∧
  ∀ x xs M R H v vs Q, g x xs M R → RM K H M → RV K H x v → RVs K H xs vs → KQ K H R Q → r v vs H Q
def dBM (ty : D → Mem → Prop) (g : DM) (to : DE) (t : DA) : DE := fun δ M R => to δ M fun x M1 => ty x M1 ∧ t δ M1 fun xs M2 => g x xs M2 R
def dBM0 (ty : D → Mem → Prop) (g : DM) (to : DE) : DE := fun δ M R => to δ M fun x M1 => ty x M1 ∧ g x [] M1 R
section
variable {o e : Expr} {es : List Expr} {to : DE} {t : DA} {name : Str} {apos cpos : Pos} {T id : String} {r : V → List V → Hp → VK → Prop} {ty : D → Mem → Prop} {g : DM}
theorem pd_bm0 (pa : PlainAttrs T) (slot : Slot T name id) (hty : typeOf (.builtin id) = pure (.type "method_descriptor")) (hm : MtR X id r) (hg : MtD X.K T r ty g) (ho : PD X o to)
    (hbase : attributeBase o name X.env (eval o X.env) = eval o X.env := by rfl) (hline : (apos.endLine == cpos.line) = true := by rfl) : PD X (.Call (.Attribute o name apos) [] [] cpos) (dBM0 ty g to) :=
  ⟨PE_imp (pe_bm0 pa slot hty hm ho.pe hbase hline) fun σ H Q h => by
    obtain ⟨δ, M, R, S, m, h, k⟩ := h
    exact ⟨δ, M, _, S, m, h, fun x M1 v H1 h1 e1 r1 m1 => ⟨hg.1 x M1 H1 v h1.1 m1 r1, hg.2 x [] M1 R H1 v [] Q h1.2 m1 r1 .nil (k.ext e1)⟩⟩⟩
theorem pd_bm (pa : PlainAttrs T) (slot : Slot T name id) (hty : typeOf (.builtin id) = pure (.type "method_descriptor")) (hm : MtR X id r) (hg : MtD X.K T r ty g) (ho : PD X o to) (ha : PDA X (e :: es) t)
    (hbase : attributeBase o name X.env (eval o X.env) = eval o X.env := by rfl)
    (hfew : ((backTo cpos (starEach (e :: es) X.env)).all (fun x => !x.1) && (backToKw cpos (keywordEach [] X.env)).all (fun x => x.1.isSome)
      && decide ((e :: es).length + ([] : List Keyword).length + (if ([] : List Keyword).isEmpty then 0 else 1) < 30)) = true := by rfl)
    (hline : (apos.endLine == cpos.line) = true := by rfl) (hs : starEach (e :: es) X.env = (false, eval e X.env) :: starEach es X.env := by rfl) (hplain : (backTo cpos (starEach es X.env)).any (·.1) = false := by rfl) :
    PD X (.Call (.Attribute o name apos) (e :: es) [] cpos) (dBM ty g to t) :=
  ⟨PE_imp (pe_bm pa slot hty hm ho.pe ha.pa hbase hfew hline hs hplain) fun σ H Q h => by
    obtain ⟨δ, M, R, S, m, h, k⟩ := h
    refine ⟨δ, M, _, S, m, h, fun x M1 v H1 h1 e1 r1 m1 => ⟨hg.1 x M1 H1 v h1.1 m1 r1, ?_⟩⟩
    exact ⟨δ, M1, _, S.ext e1, m1, h1.2, fun xs M2 vs H2 h2 e2 r2 m2 => hg.2 x xs M2 R H2 v vs Q h2 m2 (r1.ext e2) r2 (k.ext (e1.trans e2))⟩⟩
end
def isLst (d : D) (M : Mem) : Prop := match d with
  | .ref a => match M a with
    | some (.lst _) => True
    | _ => False
  | _ => False
theorem isLst_ty {K : PySem.W.Frag} {x : D} {M : Mem} {H : Hp} {v : V} (h : isLst x M) (m : RM K H M) (r : RV K H x v) : tyV K "list" v H := by
  unfold isLst at h
  split at h
  · cases r
    split at h
    · rename_i xs he
      obtain ⟨us, a1, r2⟩ := rm_lst m he
      exact .inl ⟨rfl, us, .inl (.inl a1)⟩
    · exact h.elim
  · exact h.elim
/-- the list at a -/
def onLst (x : D) (M : Mem) (f : Addr → List D → Prop) : Prop := match x with
  | .ref a => match M a with
    | some (.lst xs) => f a xs
    | _ => False
  | _ => False
theorem onLst_imp {K : PySem.W.Frag} {x : D} {M : Mem} {H : Hp} {v : V} {f : Addr → List D → Prop} (h : onLst x M f) (m : RM K H M) (r : RV K H x v) : ∃ a xs vs, v = .ref a ∧ H a = some (.lst vs) ∧ RVs K H xs vs ∧ f a xs := by
  unfold onLst at h
  split at h
  · cases r
    split at h
    · rename_i xs he
      obtain ⟨us, a1, r2⟩ := rm_lst m he
      exact ⟨_, xs, us, rfl, a1, r2, h⟩
    · exact h.elim
  · exact h.elim
def gAppend : DM := fun x vs M R => match vs with
  | [y] => onLst x M fun a xs => xs.length < sizeLine ∧ R .non (updM M a (.lst (xs ++ [y])))
  | _ => False
theorem md_append {K : PySem.W.Frag} : MtD K "list" rAppend isLst gAppend := ⟨fun _ _ _ _ => isLst_ty, fun x xs M R H v vs Q g m r rs k => by
  unfold gAppend at g
  split at g
  · obtain ⟨w, ws, rfl, q, t⟩ := rs
    cases t
    obtain ⟨a, ys, us, rfl, a1, r2, g1, g2⟩ := onLst_imp g m r
    exact ⟨a, us, w, rfl, rfl, a1, by rw [← r2.length]; exact g1, kq_put k m a1 (d := .non) rfl (r2.append (.cons q .nil)) g2⟩
  · exact g.elim⟩
def gPop : DM := fun x vs M R => match vs with
  | [] => onLst x M fun a xs => match xs[xs.length - 1]? with
    | some y => R y (updM M a (.lst xs.dropLast))
    | none => False
  | _ => False
theorem md_pop {K : PySem.W.Frag} : MtD K "list" rPop isLst gPop := ⟨fun _ _ _ _ => isLst_ty, fun x xs M R H v vs Q g m r rs k => by
  unfold gPop at g
  split at g
  · cases rs
    obtain ⟨a, ys, us, rfl, a1, r2, g⟩ := onLst_imp g m r
    split at g
    · rename_i y hy
      obtain ⟨u, h1, h2⟩ := r2.get hy
      rw [r2.length] at h1
      exact ⟨a, us, u, rfl, rfl, a1, h1, kq_put k m a1 h2 r2.dropLast g⟩
    · exact g.elim
  · exact g.elim⟩
def gPopAt : DM := fun x vs M R => match vs with
  | [.int i] => onLst x M fun a xs => -(2 ^ 63) ≤ i ∧ i < 2 ^ 63 ∧ match seqIndex? i xs.length with
    | some k => match xs[k]? with
      | some y => R y (updM M a (.lst (xs.eraseIdx k)))
      | none => False
    | none => False
  | _ => False
theorem md_popAt {K : PySem.W.Frag} : MtD K "list" rPopAt isLst gPopAt := ⟨fun _ _ _ _ => isLst_ty, fun x xs M R H v vs Q g m r rs k => by
  unfold gPopAt at g
  split at g
  · obtain ⟨w, ws, rfl, q, t⟩ := rs
    cases t; cases q
    obtain ⟨a, ys, us, rfl, a1, r2, b1, b2, g⟩ := onLst_imp g m r
    split at g
    · rename_i j hj
      split at g
      · rename_i y hy
        obtain ⟨u, h1, h2⟩ := r2.get hy
        rw [r2.length] at hj
        exact ⟨a, us, _, j, u, rfl, rfl, a1, b1, b2, hj, h1, kq_put k m a1 h2 (r2.eraseIdx j) g⟩
      · exact g.elim
    · exact g.elim
  · exact g.elim⟩
def gReverse : DM := fun x vs M R => match vs with
  | [] => onLst x M fun a xs => R .non (updM M a (.lst xs.reverse))
  | _ => False
theorem md_reverse {K : PySem.W.Frag} : MtD K "list" rReverse isLst gReverse := ⟨fun _ _ _ _ => isLst_ty, fun x xs M R H v vs Q g m r rs k => by
  unfold gReverse at g
  split at g
  · cases rs
    obtain ⟨a, ys, us, rfl, a1, r2, g⟩ := onLst_imp g m r
    exact ⟨a, us, rfl, rfl, a1, kq_put k m a1 (d := .non) rfl r2.reverse g⟩
  · exact g.elim⟩
def gExtend : DM := fun x vs M R => match vs with
  | [y] => onLst x M fun a xs => onLst y M fun b zs => xs.length + zs.length ≤ sizeLine ∧ R .non (updM M a (.lst (xs ++ zs)))
  | _ => False
theorem md_extend {K : PySem.W.Frag} : MtD K "list" rExtend isLst gExtend := ⟨fun _ _ _ _ => isLst_ty, fun x xs M R H v vs Q g m r rs k => by
  unfold gExtend at g
  split at g
  · obtain ⟨w, ws, rfl, q, t⟩ := rs
    cases t
    obtain ⟨a, ys, us, rfl, a1, r2, g⟩ := onLst_imp g m r
    obtain ⟨b, zs, ts, rfl, b1, r3, g1, g2⟩ := onLst_imp g m q
    exact ⟨a, b, us, ts, rfl, rfl, a1, b1, by rw [← r2.length, ← r3.length]; exact g1, kq_put k m a1 (d := .non) rfl (r2.append r3) g2⟩
  · exact g.elim⟩
end
end DD
namespace DD
open PySem PySem.Spec PyProof.Rows L2
section
variable {X : Cx}
/-! ### truth -/
def truD (M : Mem) : D → Option Bool
  | .non => some false
  | .bl b => some b
  | .int i => some (i != 0)
  | .str z => if z.length ≤ sizeLine then some ((z.length : Int) != 0) else none
  | .tup xs => some (!xs.isEmpty)
  | .rol xs => some (!xs.isEmpty)
  | .ref a => match M a with
    | some (.lst xs) => some (!xs.isEmpty)
    | some (.dK kvs) => some (!kvs.isEmpty)
    | _ => none
  | .ty _ => none
theorem isEmpty_rvs {K : PySem.W.Frag} {H : Hp} {ds : List D} {vs : List V} (r : RVs K H ds vs) : (!ds.isEmpty) = !vs.isEmpty := by
  cases ds with
  | nil => cases r; rfl
  | cons d ds => obtain ⟨v, ws, rfl, _⟩ := r; rfl
theorem tru_rv {K : PySem.W.Frag} {H : Hp} {M : Mem} {d : D} {b : Bool} {v : V} (m : RM K H M) (e : truD M d = some b) (r : RV K H d v) : TruV K v H b := by
  cases d with
  | non => cases r; cases e; rfl
  | bl c => cases r; cases e; rfl
  | int i => cases r; cases e; rfl
  | str z =>
    cases r
    have e : (if z.length ≤ sizeLine then some ((z.length : Int) != 0) else none) = some b := e
    by_cases hz : z.length ≤ sizeLine
    · rw [if_pos hz] at e
      cases e; exact ⟨hz, rfl⟩
    · rw [if_neg hz] at e
      cases e
  | tup xs =>
    obtain ⟨a, vs, rfl, s, q⟩ := r
    cases e
    exact .inr (.inl ⟨vs, s, isEmpty_rvs q⟩)
  | rol xs =>
    obtain ⟨a, vs, rfl, s, q⟩ := r
    cases e
    exact .inl ⟨vs, s.sq, isEmpty_rvs q⟩
  | ref a =>
    cases r
    have e : (match M a with
      | some (.lst xs) => some (!xs.isEmpty)
      | some (.dK kvs) => some (!kvs.isEmpty)
      | _ => none) = some b := e
    split at e
    · rename_i xs he
      cases e
      obtain ⟨us, a1, q⟩ := rm_lst m he
      exact .inl ⟨us, .inl (.inl a1), isEmpty_rvs q⟩
    · rename_i kvs he
      cases e
      obtain ⟨ws, a1, q1, q2⟩ := m _ _ he
      refine .inr (.inr ⟨ws, a1, ?_⟩)
      cases kvs with
      | nil =>
        cases ws with
        | nil => rfl
        | cons w ws => cases q1
      | cons k kvs =>
        cases ws with
        | nil => cases q1
        | cons w ws => rfl
    · cases e
  | ty n => cases e
def dTru (t : DE) : DT := fun δ M R => t δ M fun d M1 => match truD M1 d with
  | some b => R b M1
  | none => False
theorem pdt_tru {a : Expr} {ta : DE} (ha : PD X a ta) (he : ∀ whole, isTrue a X.env whole = (do let v ← whole; standAt a.pos; holding [v] (truthy v)) := by intro _; rfl) : PDT X a (dTru ta) :=
  ⟨PT_imp (pt_truth ha.pe he) fun σ H Q h => by
    obtain ⟨δ, M, R, S, m, h, k⟩ := h
    refine ⟨δ, M, _, S, m, h, fun d M1 v H1 h1 e1 r1 m1 => ?_⟩
    split at h1
    · rename_i b hb
      exact ⟨b, tru_rv m1 hb r1, k b M1 H1 h1 e1 m1⟩
    · exact h1.elim⟩
structure PDW (X : Cx) (e : Expr) (t : DT) : Prop where
  pw : PW X e (liftT X.K t)
theorem PW_imp {e : Expr} {t t' : TT} (h : PW X e t) (f : ∀ σ H Q, t' σ H Q → t σ H Q) : PW X e t' := ⟨fun wh pins s σ H Q I q => h.run wh pins s σ H Q I (f _ _ _ q)⟩
theorem PDW.pt {e : Expr} {t : DT} (h : PDW X e t) : PDT X e t := ⟨h.pw.pt⟩
def dAnd (t u : DT) : DT := fun δ M R => t δ M fun b M1 => if b = true then u δ M1 R else R false M1
def dOr (t u : DT) : DT := fun δ M R => t δ M fun b M1 => if b = true then R true M1 else u δ M1 R
def dNot (t : DT) : DT := fun δ M R => t δ M fun b M1 => R (!b) M1
section
variable {a b : Expr} {rest : List Expr} {pos : Pos} {ta tb : DT}
theorem pdw_and1 (h : PDT X a ta) : PDW X (.BoolOp .And [a] pos) ta := ⟨pw_and1 h.pt⟩
theorem pdw_or1 (h : PDT X a ta) : PDW X (.BoolOp .Or [a] pos) ta := ⟨pw_or1 h.pt⟩
theorem pdw_and (h : PDT X a ta) (h2 : PDW X (.BoolOp .And (b :: rest) pos) tb) : PDW X (.BoolOp .And (a :: b :: rest) pos) (dAnd ta tb) := ⟨PW_imp (pw_and h.pt h2.pw) fun σ H Q q => by
  obtain ⟨δ, M, R, S, m, h, k⟩ := q
  refine ⟨δ, M, _, S, m, h, fun c M1 H1 h1 e1 m1 => ?_⟩
  cases c with
  | true => exact ⟨δ, M1, R, S.ext e1, m1, h1, fun b' M' H' r e' m' => k b' M' H' r (e1.trans e') m'⟩
  | false => exact k false M1 H1 h1 e1 m1⟩
theorem pdw_or (h : PDT X a ta) (h2 : PDW X (.BoolOp .Or (b :: rest) pos) tb) : PDW X (.BoolOp .Or (a :: b :: rest) pos) (dOr ta tb) := ⟨PW_imp (pw_or h.pt h2.pw) fun σ H Q q => by
  obtain ⟨δ, M, R, S, m, h, k⟩ := q
  refine ⟨δ, M, _, S, m, h, fun c M1 H1 h1 e1 m1 => ?_⟩
  cases c with
  | true => exact k true M1 H1 h1 e1 m1
  | false => exact ⟨δ, M1, R, S.ext e1, m1, h1, fun b' M' H' r e' m' => k b' M' H' r (e1.trans e') m'⟩⟩
theorem pdt_not (h : PDT X a ta) : PDT X (.UnaryOp .Not a pos) (dNot ta) := ⟨PT_imp (pt_not h.pt) fun σ H Q q => by
  obtain ⟨δ, M, R, S, m, h, k⟩ := q
  exact ⟨δ, M, _, S, m, h, fun c M1 H1 h1 e1 m1 => k (!c) M1 H1 h1 e1 m1⟩⟩
def dIf (t : DT) (ta tb : DE) : DE := fun δ M R => t δ M fun b M1 => if b = true then ta δ M1 R else tb δ M1 R
theorem pd_ifExp {c : Expr} {tc : DT} {ua ub : DE} (hc : PDT X c tc) (ha : PD X a ua) (hb : PD X b ub) : PD X (.IfExp c a b pos) (dIf tc ua ub) := ⟨PE_imp (pe_ifExp hc.pt ha.pe hb.pe) fun σ H Q q => by
  obtain ⟨δ, M, R, S, m, h, k⟩ := q
  refine ⟨δ, M, _, S, m, h, fun c M1 H1 h1 e1 m1 => ?_⟩
  cases c with
  | true => exact ⟨δ, M1, R, S.ext e1, m1, h1, k.ext e1⟩
  | false => exact ⟨δ, M1, R, S.ext e1, m1, h1, k.ext e1⟩⟩
/-- x and y, x or y, not x as values, by truth -/
def dAndV (ta tb : DE) : DE := fun δ M R => ta δ M fun d M1 => match truD M1 d with
  | some true => tb δ M1 R
  | some false => R d M1
  | none => False
def dOrV (ta tb : DE) : DE := fun δ M R => ta δ M fun d M1 => match truD M1 d with
  | some true => R d M1
  | some false => tb δ M1 R
  | none => False
def dNotV (ta : DE) : DE := fun δ M R => ta δ M fun d M1 => match truD M1 d with
  | some b => R (.bl (!b)) M1
  | none => False
variable {ua ub : DE}
theorem pd_one {op : BoolOp} (h : PD X a ua) : PD X (.BoolOp op [a] pos) ua := ⟨pe_one h.pe⟩
theorem pd_and (ha : PD X a ua) (hb : PD X (.BoolOp .And (b :: rest) pos) ub) : PD X (.BoolOp .And (a :: b :: rest) pos) (dAndV ua ub) := ⟨PE_imp (pe_andT ha.pe hb.pe) fun σ H Q q => by
  obtain ⟨δ, M, R, S, m, h, k⟩ := q
  refine ⟨δ, M, _, S, m, h, fun d M1 v H1 h1 e1 r1 m1 => ?_⟩
  split at h1
  · rename_i hb
    exact ⟨true, tru_rv m1 hb r1, by rw [if_pos rfl]; exact ⟨δ, M1, R, S.ext e1, m1, h1, k.ext e1⟩⟩
  · rename_i hb
    exact ⟨false, tru_rv m1 hb r1, by rw [if_neg Bool.false_ne_true]; exact k d M1 v H1 h1 e1 r1 m1⟩
  · exact h1.elim⟩
theorem pd_or (ha : PD X a ua) (hb : PD X (.BoolOp .Or (b :: rest) pos) ub) : PD X (.BoolOp .Or (a :: b :: rest) pos) (dOrV ua ub) := ⟨PE_imp (pe_orT ha.pe hb.pe) fun σ H Q q => by
  obtain ⟨δ, M, R, S, m, h, k⟩ := q
  refine ⟨δ, M, _, S, m, h, fun d M1 v H1 h1 e1 r1 m1 => ?_⟩
  split at h1
  · rename_i hb
    exact ⟨true, tru_rv m1 hb r1, by rw [if_pos rfl]; exact k d M1 v H1 h1 e1 r1 m1⟩
  · rename_i hb
    exact ⟨false, tru_rv m1 hb r1, by rw [if_neg Bool.false_ne_true]; exact ⟨δ, M1, R, S.ext e1, m1, h1, k.ext e1⟩⟩
  · exact h1.elim⟩
theorem pd_not (ha : PD X a ua) : PD X (.UnaryOp .Not a pos) (dNotV ua) := ⟨PE_imp (pe_notT ha.pe) fun σ H Q q => by
  obtain ⟨δ, M, R, S, m, h, k⟩ := q
  refine ⟨δ, M, _, S, m, h, fun d M1 v H1 h1 e1 r1 m1 => ?_⟩
  split at h1
  · rename_i c hb
    exact ⟨c, tru_rv m1 hb r1, k _ M1 _ H1 h1 e1 rfl m1⟩
  · exact h1.elim⟩
end

/-! ### statements -/
def sNext : DS := fun E δ M => E.nx δ M
def sSeq (t u : DS) : DS := fun E δ M => t { E with nx := u E } δ M
def sDrop (te : DE) : DS := fun E δ M => te δ M fun _ M1 => E.nx δ M1
def sRet (te : DE) : DS := fun E δ M => te δ M E.rt
def sRetN : DS := fun E _ M => E.rt .non M
def sIf (c : DT) (t u : DS) : DS := fun E δ M => c δ M fun b M1 => if b = true then t E δ M1 else u E δ M1
def sBreak : DS := fun E δ M => E.bk δ M
def sCont : DS := fun E δ M => E.ct δ M
section
variable {st : Stmt} {rest : List Stmt} {t u : DS} {e : Expr} {te : DE} {pos : Pos}
theorem pdss_nil : PDSs X [] sNext := ⟨PSs_imp pss_nil fun Dd σ H q => by
  obtain ⟨δ, M, R, S, m, h, k⟩ := q
  exact k.nx δ M σ H h (Ext.refl H) S m⟩
theorem pdss_cons (h1 : PDS X st t) (h2 : PDSs X rest u) : PDSs X (st :: rest) (sSeq t u) := ⟨PSs_imp (pss_cons h1.ps h2.ps) fun Dd σ H q => by
  obtain ⟨δ, M, R, S, m, h, k⟩ := q
  refine ⟨δ, M, { R with nx := u R }, S, m, h, ⟨fun δ' M' σ' H' h' e' S' m' => ?_, k.bk, k.ct, k.rt⟩⟩
  exact ⟨δ', M', R, S', m', h', k.ext e'⟩⟩
theorem pdss_one (h1 : PDS X st t) : PDSs X [st] t := ⟨PSs_imp (pss_cons h1.ps (pdss_nil (X := X)).ps) fun Dd σ H q => by
  obtain ⟨δ, M, R, S, m, h, k⟩ := q
  refine ⟨δ, M, R, S, m, h, ⟨fun δ' M' σ' H' h' e' S' m' => ?_, k.bk, k.ct, k.rt⟩⟩
  exact ⟨δ', M', R, S', m', h', k.ext e'⟩⟩
theorem pds_expr (he : PD X e te) (hs : swapsWith e none pos.line X.env = pure false := by rfl) : PDS X (.Expr e pos) (sDrop te) := ⟨PS_imp (ps_expr he.pe hs) fun Dd σ H q => by
  obtain ⟨δ, M, R, S, m, h, k⟩ := q
  exact ⟨δ, M, _, S, m, h, fun d M1 v H1 h1 e1 r1 m1 => k.nx δ M1 σ H1 h1 e1 (S.ext e1) m1⟩⟩
theorem pds_ret (he : PD X e te) : PDS X (.Return (some e) pos) (sRet te) := ⟨PS_imp (ps_ret he.pe) fun Dd σ H q => by
  obtain ⟨δ, M, R, S, m, h, k⟩ := q
  exact ⟨δ, M, _, S, m, h, k.rt⟩⟩
theorem pds_retN : PDS X (.Return none pos) sRetN := ⟨PS_imp ps_retN fun Dd σ H q => by
  obtain ⟨δ, M, R, S, m, h, k⟩ := q
  exact k.rt .non M .non H h (Ext.refl H) rfl m⟩
theorem pds_pass : PDS X (.Pass pos) sNext := ⟨PS_imp ps_pass fun Dd σ H q => by
  obtain ⟨δ, M, R, S, m, h, k⟩ := q
  exact k.nx δ M σ H h (Ext.refl H) S m⟩
theorem pds_break : PDS X (.Break pos) sBreak := ⟨PS_imp ps_break fun Dd σ H q => by
  obtain ⟨δ, M, R, S, m, h, k⟩ := q
  exact k.bk δ M σ H h (Ext.refl H) S m⟩
theorem pds_cont : PDS X (.Continue pos) sCont := ⟨PS_imp ps_continue fun Dd σ H q => by
  obtain ⟨δ, M, R, S, m, h, k⟩ := q
  exact k.ct δ M σ H h (Ext.refl H) S m⟩
theorem pds_if {c : Expr} {a b : List Stmt} {tc : DT} (hc : PDT X c tc) (ha : PDSs X a t) (hb : PDSs X b u) : PDS X (.If c a b pos) (sIf tc t u) := ⟨PS_imp (ps_if hc.pt ha.ps hb.ps) fun Dd σ H q => by
  obtain ⟨δ, M, R, S, m, h, k⟩ := q
  refine ⟨δ, M, _, S, m, h, fun c M1 H1 h1 e1 m1 => ?_⟩
  cases c with
  | true => exact ⟨δ, M1, R, S.ext e1, m1, h1, k.ext e1⟩
  | false => exact ⟨δ, M1, R, S.ext e1, m1, h1, k.ext e1⟩⟩
end

/-! ### targets -/
abbrev DG := D → DSt → Mem → (DSt → Mem → Prop) → Prop
abbrev DGs := List D → DSt → Mem → (DSt → Mem → Prop) → Prop
/-- the slots but those at is are as they were -/
def Out (is : List Nat) (σ σ' : L2.St) : Prop := σ'.length = σ.length ∧ ∀ j, j ∉ is → σ'[j]? = σ[j]?
theorem Out.refl {is : List Nat} (σ : L2.St) : Out is σ σ := ⟨rfl, fun _ _ => rfl⟩
theorem Out.trans {is js : List Nat} {σ σ1 σ2 : L2.St} (a : Out is σ σ1) (b : Out js σ1 σ2) : Out (is ++ js) σ σ2 :=
  ⟨b.1.trans a.1, fun j hj => (b.2 j fun z => hj (List.mem_append_right _ z)).trans (a.2 j fun z => hj (List.mem_append_left _ z))⟩
theorem Out.wipe {is : List Nat} {σ σ' : L2.St} (h : Out is σ σ') {vs : List Nat} (hs : ∀ j ∈ is, j ∈ vs) : L2.wipe σ' vs = L2.wipe σ vs := by
  have at_ : ∀ (vs : List Nat) (σ : L2.St) (j : Nat), (L2.wipe σ vs)[j]? = if j ∈ vs then (if j < σ.length then some none else none) else σ[j]? := by
    intro vs
    induction vs with
    | nil => intro σ j; simp [L2.wipe]
    | cons v vs ih =>
      intro σ j
      unfold L2.wipe
      by_cases hj : v = j
      · subst hj
        rw [List.getElem?_set_self', ih]
        have : v ∈ v :: vs := List.mem_cons_self
        rw [if_pos this]
        by_cases hv : v ∈ vs
        · rw [if_pos hv]; split <;> simp
        · rw [if_neg hv]
          by_cases hl : v < σ.length
          · rw [if_pos hl, List.getElem?_eq_getElem hl]; simp
          · rw [if_neg hl, List.getElem?_eq_none (by omega)]; simp
      · rw [List.getElem?_set_ne hj, ih]
        by_cases hv : j ∈ vs
        · rw [if_pos hv, if_pos (List.mem_cons_of_mem _ hv)]
        · rw [if_neg hv, if_neg (by simp only [List.mem_cons, not_or]; exact ⟨fun z => hj z.symm, hv⟩)]
  refine List.ext_getElem? fun j => ?_
  rw [at_, at_, h.1]
  by_cases hj : j ∈ vs
  · rw [if_pos hj, if_pos hj]
  · rw [if_neg hj, if_neg hj]
    exact h.2 j fun z => hj (hs j z)
section
variable (K : PySem.W.Frag)
def liftG (is : List Nat) (g : DG) : TG := fun v σ H Q => ∃ d δ M R, RV K H d v ∧ Sl K σ H δ ∧ RM K H M ∧ g d δ M R ∧ ∀ δ' M' σ' H', R δ' M' → Ext K H H' → Sl K σ' H' δ' → RM K H' M' → Out is σ σ' → Q σ' H'
def liftGs (is : List Nat) (g : DGs) : TGs := fun vs σ H Q => ∃ ds δ M R, RVs K H ds vs ∧ Sl K σ H δ ∧ RM K H M ∧ g ds δ M R ∧ ∀ δ' M' σ' H', R δ' M' → Ext K H H' → Sl K σ' H' δ' → RM K H' M' → Out is σ σ' → Q σ' H'
end
structure PDG (X : Cx) (e : Expr) (is : List Nat) (g : DG) : Prop where
  pg : PG X e (liftG X.K is g)
structure PDGs (X : Cx) (es : List Expr) (is : List Nat) (g : DGs) : Prop where
  pg : PGs X es (liftGs X.K is g)
theorem PG_imp {e : Expr} {t t' : TG} (h : PG X e t) (f : ∀ v σ H Q, t' v σ H Q → t v σ H Q) : PG X e t' := ⟨fun pins s σ H v u Q I r q => h.run pins s σ H v u Q I r (f _ _ _ _ q)⟩
theorem PGs_imp {e : List Expr} {t t' : TGs} (h : PGs X e t) (f : ∀ v σ H Q, t' v σ H Q → t v σ H Q) : PGs X e t' := ⟨fun pins s σ H v u Q I r q => h.run pins s σ H v u Q I r (f _ _ _ _ q)⟩
def gNm (i : Nat) : DG := fun d δ M Q => Q (δ.set i (some d)) M
def gsNil : DGs := fun ds δ M Q => match ds with
  | [] => Q δ M
  | _ => False
def gsCons (t : DG) (u : DGs) : DGs := fun ds δ M Q => match ds with
  | d :: r => t d δ M fun δ' M' => u r δ' M' Q
  | _ => False
def gUnp (n : Nat) (t : DGs) : DG := fun d δ M Q => match itemsD M d with
  | some xs => xs.length = n ∧ t xs δ M Q
  | none => False
section
variable {pos : Pos}
theorem out_set {i : Nat} {v : Option V} {σ : L2.St} : Out [i] σ (σ.set i v) := ⟨by simp, fun j hj => by
  rw [List.getElem?_set_ne (by intro z; exact hj (by simp [z]))]⟩
theorem pdg_name {i : Nat} {e : Expr} (h : PG X e (gName i)) : PDG X e [i] (gNm i) := ⟨PG_imp h fun v σ H Q q => by
  obtain ⟨d, δ, M, R, rv, S, m, h, k⟩ := q
  exact k _ M _ H h (Ext.refl H) (S.set rv) m out_set⟩
theorem pdgs_nil : PDGs X [] [] gsNil := ⟨PGs_imp pgs_nil fun v σ H Q q => by
  obtain ⟨ds, δ, M, R, rv, S, m, h, k⟩ := q
  unfold gsNil at h
  split at h
  · cases rv
    exact ⟨rfl, k δ M σ H h (Ext.refl H) S m (Out.refl σ)⟩
  · exact h.elim⟩
theorem pdgs_cons {e : Expr} {es : List Expr} {is js : List Nat} {t : DG} {u : DGs} (h1 : PDG X e is t) (h2 : PDGs X es js u)
    (hs : (assignEach (e :: es) X.env).map (·.2) = assign e X.env :: (assignEach es X.env).map (·.2) := by rfl) : PDGs X (e :: es) (is ++ js) (gsCons t u) := ⟨PGs_imp (pgs_cons h1.pg h2.pg hs) fun v σ H Q q => by
  obtain ⟨ds, δ, M, R, rv, S, m, h, k⟩ := q
  unfold gsCons at h
  split at h
  · rename_i d r
    obtain ⟨v, ws, rfl, q1, q2⟩ := rv
    refine ⟨v, ws, rfl, d, δ, M, _, q1, S, m, h, fun δ' M' σ' H' h' e' S' m' o' => ?_⟩
    exact ⟨r, δ', M', R, q2.ext e', S', m', h', fun δ2 M2 σ2 H2 h2 e2 S2 m2 o2 => k δ2 M2 σ2 H2 h2 (e'.trans e2) S2 m2 (o'.trans o2)⟩
  · exact h.elim⟩
theorem PG_or {e : Expr} {t t' : TG} (h : PG X e t) (h' : PG X e t') : PG X e (fun v σ H Q => t v σ H Q ∨ t' v σ H Q) := ⟨fun pins s σ H v u Q I r q => by
  rcases q with q | q
  · exact h.run pins s σ H v u Q I r q
  · exact h'.run pins s σ H v u Q I r q⟩
theorem pdg_tup {es : List Expr} {k : Nat} {is : List Nat} {t : DGs} {n : Nat} (hc : X.calm = true) (h : PDGs X es is t)
    (hn : (assignEach es X.env).length = n := by rfl) (hst : (assignEach es X.env).findIdx? (·.1) = none := by rfl) : PDG X (.Tuple es k pos) is (gUnp n t) :=
  ⟨PG_imp (PG_or (pg_tup hc h.pg hn hst) (pg_unl hc h.pg hn hst)) fun v σ H Q q => by
    obtain ⟨d, δ, M, R, rv, S, m, h, kk⟩ := q
    unfold gUnp at h
    split at h
    · rename_i xs he
      obtain ⟨p, vs, rfl, s, r2⟩ := items_sq m he rv
      rcases s with s | s
      · exact .inr ⟨p, vs, rfl, s, by rw [← r2.length]; exact h.1, xs, δ, M, R, r2, S, m, h.2, kk⟩
      · exact .inl ⟨p, vs, rfl, s, by rw [← r2.length]; exact h.1, xs, δ, M, R, r2, S, m, h.2, kk⟩
    · exact h.elim⟩
end
/-- o[i] = v -/
abbrev DSet := D → D → D → Mem → (Mem → Prop) → Prop
def SetD (K : PySem.W.Frag) (r : TSet) (g : DSet) : Prop := ∀ x y z M R H v w u (Q : Hp → Prop), g x y z M R → RM K H M → RV K H x v → RV K H y w → RV K H z u → (∀ M' H', R M' → Ext K H H' → RM K H' M' → Q H') → r v w u H Q
def gSetL : DSet := fun x y z M R => match y with
  | .int i => onLst x M fun a xs => match ixN xs.length i with
    | some j => R (updM M a (.lst (xs.set j z)))
    | none => False
  | _ => False
theorem sd_lst {K : PySem.W.Frag} : SetD K rSetL gSetL := by
  intro x y z M R H v w u Q g m rx ry rz k
  unfold gSetL at g
  split at g
  · cases ry
    obtain ⟨a, ys, us, rfl, a1, r2, g⟩ := onLst_imp g m rx
    split at g
    · rename_i j hj
      rw [r2.length] at hj
      exact ⟨a, us, _, j, rfl, rfl, a1, hj, k _ _ g (ext_lst a1) (rm_putL m a1 (r2.set j rz))⟩
    · exact g.elim
  · exact g.elim
def gSubD (to ti : DE) (t : DSet) : DG := fun d δ M Q => to δ M fun o M1 => ti δ M1 fun i M2 => t o i d M2 fun M3 => Q δ M3
section
variable {pos : Pos}
theorem pdg_sub {o i : Expr} {to ti : DE} {r : TSet} {g : DSet} (ho : PD X o to) (hi : PD X i ti) (hs : PSet X r) (hg : SetD X.K r g)
    (ha : ∀ v, assign (.Subscript o i pos) X.env v = (do
      let ov ← holding [v] (eval o X.env)
      let iv ← holding [v, ov] (eval i X.env)
      standAt pos
      holding [v, ov, iv] (setItem ov iv v)
      release [v, ov, iv] []) := by intro _; rfl) : PDG X (.Subscript o i pos) [] (gSubD to ti g) := ⟨PG_imp (pg_sub ho.pe hi.pe hs ha) fun v σ H Q q => by
  obtain ⟨d, δ, M, R, rv, S, m, h, k⟩ := q
  refine ⟨δ, M, _, S, m, h, fun x M1 v1 H1 h1 e1 r1 m1 => ?_⟩
  refine ⟨δ, M1, _, S.ext e1, m1, h1, fun y M2 v2 H2 h2 e2 r2 m2 => ?_⟩
  refine hg x y d M2 _ H2 v1 v2 v _ h2 m2 (r1.ext e2) r2 (rv.ext (e1.trans e2)) fun M3 H3 h3 e3 m3 => ?_
  exact k δ M3 σ H3 h3 ((e1.trans e2).trans e3) (S.ext ((e1.trans e2).trans e3)) m3 (Out.refl σ)⟩
end
/-- target = value -/
def sAsg (te : DE) (g : DG) : DS := fun E δ M => te δ M fun d M1 => g d δ M1 E.nx
theorem asg_imp {K : PySem.W.Frag} {te : DE} {is : List Nat} {g : DG} (Dd : Ends) (σ : L2.St) (H : Hp) (q : liftS K (sAsg te g) Dd σ H) : tAsg (lift K te) (liftG K is g) Dd σ H := by
  obtain ⟨δ, M, R, S, m, h, k⟩ := q
  refine ⟨δ, M, _, S, m, h, fun d M1 v H1 h1 e1 r1 m1 => ?_⟩
  exact ⟨d, δ, M1, _, r1, S.ext e1, m1, h1, fun δ' M' σ' H' h' e' S' m' _ => k.nx δ' M' σ' H' h' (e1.trans e') S' m'⟩
section
variable {pos : Pos} {tg e : Expr} {te : DE} {is : List Nat} {g : DG}
theorem pds_asg (he : PD X e te) (hg : PDG X tg is g) (hs : swapsWithSole [tg] e pos.line X.env = pure false := by rfl) (hw : swappedStores [tg] e X.env = pure none := by rfl)
    (h1 : (assignEach [tg] X.env).map (·.2) = [assign tg X.env] := by rfl) : PDS X (.Assign [tg] e pos) (sAsg te g) := ⟨PS_imp (ps_asg he.pe hg.pg hs hw h1) asg_imp⟩
theorem gName_imp {K : PySem.W.Frag} {i : Nat} {te : DE} (Dd : Ends) (σ : L2.St) (H : Hp) (q : liftS K (sAsg te (gNm i)) Dd σ H) : tAsg (lift K te) (gName i) Dd σ H := by
  obtain ⟨δ, M, R, S, m, h, k⟩ := q
  refine ⟨δ, M, _, S, m, h, fun d M1 v H1 h1 e1 r1 m1 => ?_⟩
  exact k.nx _ M1 _ H1 h1 e1 ((S.ext e1).set r1) m1
theorem pds_set {i : Nat} {x : Str} {pos' : Pos} (hN : X.N.Nodup) (hi : X.N[i]? = some x) (hx : Loc X.env.scope x) (he : PD X e te) (hs : swapsWith e (some (.Name x pos')) pos.line X.env = pure false := by rfl) (hf : X.fn x = true ∨ X.env.scope.names.lookup x = some .local := by first | exact .inl rfl | exact .inr rfl | assumption) :
    PDS X (.Assign [.Name x pos'] e pos) (sAsg te (gNm i)) := ⟨PS_imp (ps_set hN hi hx he.pe hs hf) gName_imp⟩
/-- a, b = x, y -/
def sPar (i j : Nat) (ta : DA) : DS := fun E δ M => ta δ M fun ds M1 => match ds with
  | [v, w] => E.nx ((δ.set i (some v)).set j (some w)) M1
  | _ => False
theorem pds_par {i j : Nat} {x y : Str} {a b : Expr} {ta : DA} {px py pt : Pos} {kt k2 : Nat} {pt2 : Pos} (hc : X.calm = true) (hN : X.N.Nodup) (hi : X.N[i]? = some x) (hj : X.N[j]? = some y) (hij : i ≠ j)
    (hx : X.env.scope.names.lookup x = some .local) (hy : X.env.scope.names.lookup y = some .local) (ha : PDA X [a, b] ta)
    (hw : swappedStores [.Tuple [.Name x px, .Name y py] kt pt] (.Tuple [a, b] k2 pt2) X.env = pure (some [x, y]) := by rfl)
    (hs : swapsWithSole [.Tuple [.Name x px, .Name y py] kt pt] (.Tuple [a, b] k2 pt2) pos.line X.env = pure false := by rfl) :
    PDS X (.Assign [.Tuple [.Name x px, .Name y py] kt pt] (.Tuple [a, b] k2 pt2) pos) (sPar i j ta) := ⟨PS_imp (ps_par hc hN hi hj hij hx hy ha.pa hw hs) fun Dd σ H q => by
  obtain ⟨δ, M, R, S, m, h, k⟩ := q
  refine ⟨δ, M, _, S, m, h, fun ds M1 vs H1 h1 e1 r1 m1 => ?_⟩
  split at h1
  · obtain ⟨v, ws, rfl, q1, v2, w2, rfl, q2, t⟩ := r1
    cases t
    exact ⟨v, v2, rfl, k.nx _ M1 _ H1 h1 e1 (((S.ext e1).set q1).set q2) m1⟩
  · exact h1.elim⟩
/-- x op= e -/
abbrev DIp := D → D → Mem → DK → Prop
def IpD (K : PySem.W.Frag) (r : TIp) (g : DIp) : Prop := ∀ x y M R H v w Q, g x y M R → RM K H M → RV K H x v → RV K H y w → KQ K H R Q → r v w H Q
def sAug (i : Nat) (te : DE) (g : DIp) : DS := fun E δ M => match δ[i]? with
  | some (some x) => te δ M fun y M1 => g x y M1 fun z M2 => E.nx (δ.set i (some z)) M2
  | _ => False
theorem pds_aug {i : Nat} {x : Str} {op : Operator} {ti : TIp} {gi : DIp} {pos' : Pos} (hN : X.N.Nodup) (hi : X.N[i]? = some x) (hx : Loc X.env.scope x) (he : PD X e te) (ho : PIp X op ti) (hg : IpD X.K ti gi) (hf : X.fn x = true ∨ X.env.scope.names.lookup x = some .local := by first | exact .inl rfl | exact .inr rfl | assumption) :
    PDS X (.AugAssign (.Name x pos') op e pos) (sAug i te gi) := ⟨PS_imp (ps_aug hN hi hx he.pe ho hf) fun Dd σ H q => by
  obtain ⟨δ, M, R, S, m, h, k⟩ := q
  unfold sAug at h
  split at h
  · rename_i x hx
    obtain ⟨v, a, b⟩ := S.at_ i x hx
    refine ⟨v, a, δ, M, _, S, m, h, fun y M1 w H1 h1 e1 r1 m1 => ?_⟩
    exact hg x y M1 _ H1 v w _ h1 m1 (b.ext e1) r1 fun z M2 u H2 h2 e2 r2 m2 => k.nx _ M2 _ H2 h2 (e1.trans e2) ((S.ext (e1.trans e2)).set r2) m2
  · exact h.elim⟩
end
theorem pip_op {op : Operator} {r : R2} (h : OpR X (inplaceOp op) r) : PIp X op r := h
theorem ipd_op {K : PySem.W.Frag} {r : R2} {g : D2} (h : OpD K r g) : IpD K r g := h

/-! ### while -/
def sWhile (c : DT) (tb : DS) : DS := fun E δ M => ∃ W : Nat → DSt → Mem → Prop, (∃ n, W n δ M) ∧ ∀ n δ M, W n δ M →
  c δ M fun b M1 => if b = true then tb { E with nx := fun δ' M' => ∃ n', n' < n ∧ W n' δ' M', ct := fun δ' M' => ∃ n', n' < n ∧ W n' δ' M', bk := E.nx } δ M1 else E.nx δ M1
theorem pds_while {c : Expr} {body : List Stmt} {tc : DT} {tb : DS} {pos : Pos} (hp : PassesOwn (model X.prog X.w) X.A X.env X.xe) (hc : PDT X c tc) (hb : PDSs X body tb) : PDS X (.While c body [] pos) (sWhile tc tb) := ⟨PS_imp (ps_while hp hc.pt hb.ps) fun Dd σ H q => by
  obtain ⟨δ0, M0, R, S0, m0, ⟨W, ⟨n0, w0⟩, h⟩, k⟩ := q
  refine ⟨fun n σ' H' => ∃ δ M, Sl X.K σ' H' δ ∧ RM X.K H' M ∧ Ext X.K H H' ∧ W n δ M, ⟨n0, δ0, M0, S0, m0, Ext.refl H, w0⟩, ?_⟩
  rintro n σ' H' ⟨δ, M, S, m, e0, w⟩
  refine ⟨δ, M, _, S, m, h n δ M w, fun b M1 H1 h1 e1 m1 => ?_⟩
  cases b with
  | true =>
    rw [if_pos rfl] at h1 ⊢
    refine ⟨fun σ2 H2 => ∃ n', n' < n ∧ ∃ δ M, Sl X.K σ2 H2 δ ∧ RM X.K H2 M ∧ Ext X.K H H2 ∧ W n' δ M, fun σ2 H2 z => z, ?_⟩
    refine ⟨δ, M1, _, S.ext e1, m1, h1, ⟨?_, ?_, ?_, k.rt.ext (e0.trans e1)⟩⟩
    · rintro δ2 M2 σ2 H2 ⟨n', hn, w2⟩ e2 S2 m2
      exact ⟨n', hn, δ2, M2, S2, m2, (e0.trans e1).trans e2, w2⟩
    · rintro δ2 M2 σ2 H2 z e2 S2 m2
      exact k.nx δ2 M2 σ2 H2 z ((e0.trans e1).trans e2) S2 m2
    · rintro δ2 M2 σ2 H2 ⟨n', hn, w2⟩ e2 S2 m2
      exact ⟨n', hn, δ2, M2, S2, m2, (e0.trans e1).trans e2, w2⟩
  | false =>
    rw [if_neg Bool.false_ne_true] at h1 ⊢
    exact k.nx δ M1 σ' H1 h1 (e0.trans e1) (S.ext e1) m1⟩

/-! ### what a loop walks -/
abbrev DI := DSt → Mem → (List D → (Mem → Prop) → Mem → Prop) → Prop
structure ItOk (K : PySem.W.Frag) (H1 : Hp) (J : It) (ds : List D) (ok : Mem → Prop) : Prop where
  go : ∀ i H M, Ext K H1 H → RM K H M → ok M → i < ds.length → J.go i H
  yld : ∀ i H M v H', Ext K H1 H → RM K H M → ok M → i < ds.length → J.yld i H v H' → ∃ x, ds[i]? = some x ∧ Ext K H H' ∧ RV K H' x v ∧ RM K H' M
  stop : ∀ i H M, Ext K H1 H → RM K H M → ok M → ds.length ≤ i → J.stop i H
def liftI (K : PySem.W.Frag) (di : DI) : TI := fun σ H Q => ∃ δ M R, Sl K σ H δ ∧ RM K H M ∧ di δ M R ∧ ∀ ds ok M1 J H1, R ds ok M1 → Ext K H H1 → RM K H1 M1 → ItOk K H1 J ds ok → Q J H1
structure PDI (X : Cx) (tg iter : Expr) (di : DI) : Prop where
  pi : PI X tg iter (liftI X.K di)
theorem PI_imp {tg iter : Expr} {t t' : TI} (h : PI X tg iter t) (f : ∀ σ H Q, t' σ H Q → t σ H Q) : PI X tg iter t' := ⟨fun pins s σ H R I q => h.run pins s σ H R I (f _ _ _ q)⟩
theorem PI_or {tg iter : Expr} {t t' : TI} (h : PI X tg iter t) (h' : PI X tg iter t') : PI X tg iter (fun σ H Q => t σ H Q ∨ t' σ H Q) := ⟨fun pins s σ H R I q => by
  rcases q with q | q
  · exact h.run pins s σ H R I q
  · exact h'.run pins s σ H R I q⟩
def sFor (di : DI) (g : DG) (tb : DS) : DS := fun E δ M => di δ M fun ds ok M1 => ∃ W : Nat → DSt → Mem → Prop, W 0 δ M1 ∧ (∀ i δ M, i ≤ ds.length → W i δ M → ok M) ∧
  (∀ i x δ M, ds[i]? = some x → W i δ M → g x δ M fun δ2 M2 => tb { E with nx := W (i + 1), ct := W (i + 1), bk := E.nx } δ2 M2) ∧ ∀ δ M, W ds.length δ M → E.nx δ M
theorem pds_for {tg iter : Expr} {body : List Stmt} {di : DI} {is : List Nat} {g : DG} {tb : DS} {pos : Pos} (hp : PassesOwn (model X.prog X.w) X.A X.env X.xe) (hc : X.calm = true) (hi : PDI X tg iter di) (hg : PDG X tg is g) (hb : PDSs X body tb)
    (hs : ∀ x, foldedSetIterable iter X.env x = pure x := by intro _; rfl) : PDS X (.For tg iter body [] pos) (sFor di g tb) := ⟨PS_imp (ps_for hp hc hi.pi hg.pg hb.ps hs) fun Dd σ H q => by
  obtain ⟨δ0, M0, R, S0, m0, h, k⟩ := q
  refine ⟨δ0, M0, _, S0, m0, h, fun ds ok M1 J H1 h1 e1 m1 it => ?_⟩
  obtain ⟨W, w0, hok, turn, done⟩ := h1
  refine ⟨fun i n σ' H' => n + i = ds.length ∧ ∃ δ M, Sl X.K σ' H' δ ∧ RM X.K H' M ∧ Ext X.K H1 H' ∧ W i δ M, ⟨ds.length, by omega, δ0, M1, S0.ext e1, m1, Ext.refl H1, w0⟩, ?_⟩
  rintro i n σ' H' ⟨hn, δ, M, S, m, e2, w⟩
  by_cases hi : i < ds.length
  · refine .inr ⟨it.go i H' M e2 m (hok i δ M (by omega) w) hi, fun σ2 H2 => ∃ δ M, Sl X.K σ2 H2 δ ∧ RM X.K H2 M ∧ Ext X.K H1 H2 ∧ W (i + 1) δ M, ?_, ?_⟩
    · rintro σ2 H2 ⟨δ2, M2, z⟩
      exact ⟨n - 1, by omega, by omega, δ2, M2, z⟩
    · intro v H2 y
      obtain ⟨x, hx, e3, rv, m3⟩ := it.yld i H' M v H2 e2 m (hok i δ M (by omega) w) hi y
      refine ⟨x, δ, M, _, rv, S.ext e3, m3, turn i x δ M hx w, fun δ4 M4 σ4 H4 h4 e4 S4 m4 _ => ?_⟩
      refine ⟨δ4, M4, _, S4, m4, h4, ⟨?_, ?_, ?_, k.rt.ext (((e1.trans e2).trans e3).trans e4)⟩⟩
      · intro δ5 M5 σ5 H5 z e5 S5 m5
        exact ⟨δ5, M5, S5, m5, ((e2.trans e3).trans e4).trans e5, z⟩
      · intro δ5 M5 σ5 H5 z e5 S5 m5
        exact k.nx δ5 M5 σ5 H5 z ((((e1.trans e2).trans e3).trans e4).trans e5) S5 m5
      · intro δ5 M5 σ5 H5 z e5 S5 m5
        exact ⟨δ5, M5, S5, m5, ((e2.trans e3).trans e4).trans e5, z⟩
  · have hi' : i = ds.length := by omega
    refine .inl ⟨it.stop i H' M e2 m (hok i δ M (by omega) w) (by omega), ?_⟩
    subst hi'
    exact k.nx δ M σ' H' (done δ M w) (e1.trans e2) S m⟩
end
end DD
namespace DD
open PySem PySem.Spec PyProof.Rows L2
theorem sqL_inj {K : PySem.W.Frag} {H : Hp} {a : Addr} {vs ws : List V} (h : H a = some (.lst vs)) (h2 : SqL K H a ws) : True := trivial
section
variable {X : Cx} {tg : Expr}
/-! ### for x in a list or a tuple -/
/-- the items; what must stand still -/
def srcD (M : Mem) : D → Option (List D × (Mem → Prop))
  | .tup xs => some (xs, fun _ => True)
  | .rol xs => some (xs, fun _ => True)
  | .ref a => match M a with
    | some (.lst xs) => some (xs, fun M' => M' a = some (.lst xs))
    | _ => none
  | _ => none
def iSeq (te : DE) : DI := fun δ M R => te δ M fun d M1 => match srcD M1 d with
  | some (xs, ok) => R xs ok M1
  | none => False
theorem itl_ok {K : PySem.W.Frag} {H1 : Hp} {a : Addr} {ds : List D} {ok : Mem → Prop} (h : ∀ H M, Ext K H1 H → RM K H M → ok M → ∃ vs, SqL K H a vs ∧ RVs K H ds vs) : ItOk K H1 (Itl K a) ds ok where
  go := fun i H M e m o hi => by
    obtain ⟨vs, s, r⟩ := h H M e m o
    obtain ⟨v, hv, _⟩ := r.get (List.getElem?_eq_getElem hi)
    exact ⟨vs, v, s, hv⟩
  yld := fun i H M v H' e m o hi y => by
    obtain ⟨vs, s, r⟩ := h H M e m o
    obtain ⟨rfl, y⟩ := y
    obtain ⟨u, hu, ru⟩ := r.get (List.getElem?_eq_getElem hi)
    have := (y vs s).symm.trans hu
    cases this
    exact ⟨_, List.getElem?_eq_getElem hi, Ext.refl _, ru, m⟩
  stop := fun i H M e m o hi => by
    obtain ⟨vs, s, r⟩ := h H M e m o
    exact ⟨vs, s, by rw [← r.length]; exact hi⟩
theorem itt_ok {K : PySem.W.Frag} {H1 : Hp} {a : Addr} {ds : List D} {vs : List V} {ok : Mem → Prop} (s : SqT K H1 a vs) (r : RVs K H1 ds vs) : ItOk K H1 (Itt K a) ds ok where
  go := fun i H M e m o hi => by
    obtain ⟨v, hv, _⟩ := r.get (List.getElem?_eq_getElem hi)
    exact ⟨vs, v, e.sqT s, hv⟩
  yld := fun i H M v H' e m o hi y => by
    obtain ⟨rfl, y⟩ := y
    obtain ⟨u, hu, ru⟩ := (r.ext e).get (List.getElem?_eq_getElem hi)
    have := (y vs (e.sqT s)).symm.trans hu
    cases this
    exact ⟨_, List.getElem?_eq_getElem hi, Ext.refl _, ru, m⟩
  stop := fun i H M e m o hi => ⟨vs, e.sqT s, by rw [← r.length]; exact hi⟩
theorem src_imp {K : PySem.W.Frag} {H : Hp} {M : Mem} {d : D} {xs : List D} {ok : Mem → Prop} {v : V} (m : RM K H M) (e : srcD M d = some (xs, ok)) (h : RV K H d v) :
    (∃ a vs, v = .ref a ∧ SqL K H a vs ∧ RVs K H xs vs ∧ ItOk K H (Itl K a) xs ok) ∨ (∃ a vs, v = .ref a ∧ SqT K H a vs ∧ RVs K H xs vs) := by
  unfold srcD at e
  split at e
  · cases e
    obtain ⟨a, vs, rfl, s, r⟩ := h
    exact .inr ⟨a, vs, rfl, s, r⟩
  · cases e
    obtain ⟨a, vs, rfl, s, r⟩ := h
    exact .inl ⟨a, vs, rfl, s.sq, r, itl_ok fun H' M' e' m' _ => ⟨vs, (e'.rol s).sq, r.ext e'⟩⟩
  · cases h
    split at e
    · rename_i ys he
      cases e
      obtain ⟨vs, a1, q1⟩ := rm_lst m he
      refine .inl ⟨_, vs, rfl, .inl (.inl a1), q1, itl_ok fun H' M' e' m' o => ?_⟩
      obtain ⟨ws, a2, q2⟩ := rm_lst m' o
      exact ⟨ws, .inl (.inl a2), q2⟩
    · cases e
  · cases e
/-- what is walked of a value that has come -/
def ItR (X : Cx) (tg : Expr) (r : V → Hp → (It → Hp → Prop) → Prop) : Prop :=
  ∀ (pins : List (Addr × Obj)) (s : Shared) (σ : L2.St) (H : Hp) (x : V) (v : Value) (R : It → Hp → Prop),
    Inv X pins σ H s → RelV x v → r x H R → wpAny (model X.prog X.w) X.A (pyIter v) (PIE X pins σ tg R) X.xe s
def rSeqI (K : PySem.W.Frag) : V → Hp → (It → Hp → Prop) → Prop := fun x H R =>
  (∃ a xs, x = .ref a ∧ SqL K H a xs ∧ R (Itl K a) H) ∨ (∃ a xs, x = .ref a ∧ SqT K H a xs ∧ R (Itt K a) H)
theorem itr_seq : ItR X tg (rSeqI X.K) := by
  intro pins s σ H x v R I rx h
  have fresh_ok : ∀ b ∈ [s.heap.objs.size], FpOk X pins H b := by
    intro b hb
    have hb : b = s.heap.objs.size := List.mem_singleton.mp hb
    rw [hb]
    exact I.fpOk (Nat.le_refl _) (I.hok.fresh (Nat.le_refl _))
  rcases h with ⟨a, xs, rfl, hq, q⟩ | ⟨a, xs, rfl, hq, q⟩
  · cases rx
    obtain ⟨its, _, p, _⟩ := I.list hq
    refine wpAny_pyIter_list p.isList ⟨s.heap.objs.size, [s.heap.objs.size], _, _, H, rfl, ?_, turn_list a _, ?_, fresh_ok, q⟩
    · exact I.kept (t' := s.toks) (fun b o e => Heap.get?_push_of_some _ e)
    · exact ⟨_, Heap.get?_push_size _ rfl, rfl, rfl⟩
  · cases rx
    obtain ⟨its, _, p, _⟩ := I.tuple hq
    have p' : s.heap.IsTuple a its.toArray := p
    refine wpAny_pyIter_tuple p' ⟨s.heap.objs.size, [s.heap.objs.size], _, _, H, rfl, ?_, turn_tuple a _, ?_, fresh_ok, q⟩
    · exact I.kept (t' := s.toks) (fun b o e => Heap.get?_push_of_some _ e)
    · exact ⟨_, Heap.get?_push_size _ rfl, rfl, rfl⟩
theorem pi_of {l : Expr} {tl : TE} {r : V → Hp → (It → Hp → Prop) → Prop} (hr : ItR X tg r) (hl : PE X l tl) : PI X tg l (fun σ H R => tl σ H fun x H1 => r x H1 R) :=
  ⟨fun pins s σ H R I h => thn (hl.run pins s σ H _ I h) fun v s1 ⟨x, H1, I1, r1, q1⟩ => hr pins s1 σ H1 x v R I1 r1 q1⟩
theorem pdi_seq {l : Expr} {tl : DE} (hl : PD X l tl) : PDI X tg l (iSeq tl) := ⟨PI_imp (pi_of itr_seq hl.pe) fun σ H Q q => by
  obtain ⟨δ, M, R, S, m, h, k⟩ := q
  refine ⟨δ, M, _, S, m, h, fun d M1 v H1 h1 e1 r1 m1 => ?_⟩
  split at h1
  · rename_i xs ok he
    rcases src_imp m1 he r1 with ⟨a, vs, rfl, s, rv, it⟩ | ⟨a, vs, rfl, s, rv⟩
    · exact .inl ⟨a, vs, rfl, s, k _ _ M1 _ H1 h1 e1 m1 it⟩
    · exact .inr ⟨a, vs, rfl, s, k _ _ M1 _ H1 h1 e1 m1 (itt_ok s rv)⟩
  · exact h1.elim⟩

/-! ### range -/
def rangeD (lo : Int) (n : Nat) : List D := (List.range n).map fun (i : Nat) => D.int (lo + (i : Int))
theorem rangeD_length (lo : Int) (n : Nat) : (rangeD lo n).length = n := by simp [rangeD]
theorem rangeD_get {lo : Int} {n i : Nat} (h : i < n) : (rangeD lo n)[i]? = some (.int (lo + (i : Int))) := by
  simp [rangeD, List.getElem?_map, List.getElem?_range h]
theorem itr_ok {K : PySem.W.Frag} {H1 : Hp} (lo : Int) (n : Nat) : ItOk K H1 (Itr lo n) (rangeD lo n) (fun _ => True) where
  go := fun i H M e m o hi => by rw [rangeD_length] at hi; exact hi
  yld := fun i H M v H' e m o hi y => by
    rw [rangeD_length] at hi
    obtain ⟨rfl, rfl⟩ := y
    exact ⟨_, rangeD_get hi, Ext.refl _, rfl, m⟩
  stop := fun i H M e m o hi => by rw [rangeD_length] at hi; exact hi
def iRange1 (t : DA) : DI := fun δ M R => t δ M fun ds M1 => match ds with
  | [.int j] => (-(2 ^ 62) ≤ j ∧ j < 2 ^ 62) ∧ R (rangeD 0 j.toNat) (fun _ => True) M1
  | _ => False
def iRange2 (t : DA) : DI := fun δ M R => t δ M fun ds M1 => match ds with
  | [.int i, .int j] => (-(2 ^ 62) ≤ i ∧ i < 2 ^ 62 ∧ -(2 ^ 62) ≤ j ∧ j < 2 ^ 62) ∧ R (rangeD i (j - i).toNat) (fun _ => True) M1
  | _ => False
theorem pdi_range1 {a : Expr} {ta : DA} {p pos : Pos} (hg : Gl X "range") (hm : X.mg "range" = none) (ha : PDA X [a] ta) (hs : starEach [a] X.env = [(false, eval a X.env)] := by rfl) : PDI X tg (.Call (.Name "range" p) [a] [] pos) (iRange1 ta) :=
  ⟨PI_imp (pi_range1 hg hm ha.pa hs) fun σ H Q q => by
    obtain ⟨δ, M, R, S, m, h, k⟩ := q
    refine ⟨δ, M, _, S, m, h, fun ds M1 vs H1 h1 e1 r1 m1 => ?_⟩
    split at h1
    · obtain ⟨v, ws, rfl, q1, t⟩ := r1
      cases t; cases q1
      exact ⟨_, rfl, h1.1.1, h1.1.2, k _ _ M1 _ H1 h1.2 e1 m1 (itr_ok _ _)⟩
    · exact h1.elim⟩
theorem pdi_range2 {a b : Expr} {ta : DA} {p pos : Pos} (hg : Gl X "range") (hm : X.mg "range" = none) (ha : PDA X [a, b] ta) (hs : starEach [a, b] X.env = [(false, eval a X.env), (false, eval b X.env)] := by rfl) (hs2 : starEach [b] X.env = [(false, eval b X.env)] := by rfl) :
    PDI X tg (.Call (.Name "range" p) [a, b] [] pos) (iRange2 ta) :=
  ⟨PI_imp (pi_range2 hg hm ha.pa hs hs2) fun σ H Q q => by
    obtain ⟨δ, M, R, S, m, h, k⟩ := q
    refine ⟨δ, M, _, S, m, h, fun ds M1 vs H1 h1 e1 r1 m1 => ?_⟩
    split at h1
    · obtain ⟨v, ws, rfl, q1, v2, w2, rfl, q2, t⟩ := r1
      cases t; cases q1; cases q2
      exact ⟨_, _, rfl, h1.1, k _ _ M1 _ H1 h1.2 e1 m1 (itr_ok _ _)⟩
    · exact h1.elim⟩

/-! ### list comprehensions -/
def tYesD : DT := fun _ M R => R true M
structure PDTs (X : Cx) (ifs : List Expr) (t : DT) : Prop where
  pt : PTs X ifs (liftT X.K t)
theorem PTs_imp {ifs : List Expr} {t t' : TT} (h : PTs X ifs t) (f : ∀ σ H Q, t' σ H Q → t σ H Q) : PTs X ifs t' := ⟨fun pins s σ H Q I q => h.run pins s σ H Q I (f _ _ _ q)⟩
theorem pdts_nil : PDTs X [] tYesD := ⟨PTs_imp pts_nil fun σ H Q q => by
  obtain ⟨δ, M, R, S, m, h, k⟩ := q
  exact k true M H h (Ext.refl H) m⟩
theorem pdts_one {c : Expr} {t : DT} (h : PDT X c t) : PDTs X [c] t := ⟨pts_one h.pt⟩
/-- p: where the new list stands; W by the turn, the items so far, the memory without it -/
def dLc (di : DI) (g : DG) (tt : DT) (te : DE) (vs : List Nat) : DE := fun δ M R => di δ M fun ds ok M1 => ∀ p, M1 p = none → ∃ W : Nat → List D → Mem → Prop, W 0 [] M1 ∧
  (∀ i acc M, W i acc M → ok (updM M p (.lst acc))) ∧
  (∀ i x acc M, ds[i]? = some x → W i acc M → acc.length < sizeLine ∧ g x (wipeD δ vs) (updM M p (.lst acc)) fun δ2 M2 => tt δ2 M2 fun b M3 =>
    if b = true then te δ2 M3 fun y M4 => ∃ M5, M4 = updM M5 p (.lst acc) ∧ W (i + 1) (acc ++ [y]) M5 else ∃ M5, M3 = updM M5 p (.lst acc) ∧ W (i + 1) acc M5) ∧
  ∀ acc M, W ds.length acc M → R (.ref p) (updM M p (.lst acc))
theorem lc_imp {K : PySem.W.Frag} {di : DI} {is : List Nat} {g : DG} {tt : DT} {te : DE} {vs : List Nat} (hv : ∀ j ∈ is, j ∈ vs) (σ : L2.St) (H : Hp) (Q : VK) (q : lift K (dLc di g tt te vs) σ H Q) :
    tLc (liftI K di) (liftG K is g) (liftT K tt) (lift K te) vs σ H Q := by
  obtain ⟨δ, M, R, S, m, h, k⟩ := q
  refine ⟨δ, M, _, S, m, h, fun ds ok M1 J H1 h1 e1 m1 it => ?_⟩
  intro p hp
  obtain ⟨W, w0, hok, turn, done⟩ := h1 p (rm_none m1 hp)
  refine ⟨fun i n H' => n + i = ds.length ∧ ∃ acc M, RM K H' (updM M p (.lst acc)) ∧ Ext K H1 H' ∧ W i acc M, ⟨ds.length, by omega, [], M1, rm_newL m1 hp .nil, Ext.new hp, w0⟩, ?_⟩
  rintro i n H' ⟨hn, acc, M2, m2, e2, w⟩
  by_cases hi : i < ds.length
  · refine .inr ⟨it.go i H' _ e2 m2 (hok i acc M2 w) hi, fun H2 => ∃ acc M, RM K H2 (updM M p (.lst acc)) ∧ Ext K H1 H2 ∧ W (i + 1) acc M, ?_, ?_⟩
    · rintro H2 ⟨acc2, M3, z⟩
      exact ⟨n - 1, by omega, by omega, acc2, M3, z⟩
    · intro v H2 y
      obtain ⟨x, hx, e3, rv, m3⟩ := it.yld i H' _ v H2 e2 m2 (hok i acc M2 w) hi y
      obtain ⟨hz, t⟩ := turn i x acc M2 hx w
      have S2 : Sl K (L2.wipe σ vs) H2 (wipeD δ vs) := ((S.ext e1).ext (e2.trans e3)).wipe vs
      refine ⟨x, _, _, _, rv, S2, m3, t, fun δ4 M4 σ4 H4 h4 e4 S4 m4 o4 => ?_⟩
      have ww : L2.wipe (L2.wipe σ vs) vs = L2.wipe σ vs := by
        refine List.ext_getElem? fun j => ?_
        have at2 : ∀ (vs : List Nat) (σ : L2.St) (j : Nat), (L2.wipe σ vs)[j]? = if j ∈ vs then (if j < σ.length then some none else none) else σ[j]? := by
          intro vs
          induction vs with
          | nil => intro σ j; simp [L2.wipe]
          | cons v vs ih =>
            intro σ j
            unfold L2.wipe
            by_cases hj : v = j
            · subst hj
              rw [List.getElem?_set_self', ih, if_pos (List.mem_cons_self)]
              by_cases hv : v ∈ vs
              · rw [if_pos hv]; split <;> simp
              · rw [if_neg hv]
                by_cases hl : v < σ.length
                · rw [if_pos hl, List.getElem?_eq_getElem hl]; simp
                · rw [if_neg hl, List.getElem?_eq_none (by omega)]; simp
            · rw [List.getElem?_set_ne hj, ih]
              by_cases hv : j ∈ vs
              · rw [if_pos hv, if_pos (List.mem_cons_of_mem _ hv)]
              · rw [if_neg hv, if_neg (by simp only [List.mem_cons, not_or]; exact ⟨fun z => hj z.symm, hv⟩)]
        rw [at2, at2]
        by_cases hj : j ∈ vs
        · rw [if_pos hj, if_pos hj]; simp [wipe_length]
        · rw [if_neg hj]
      refine ⟨(o4.wipe hv).trans ww, δ4, M4, _, S4, m4, h4, fun b M5 H5 h5 e5 m5 => ?_⟩
      cases b with
      | true =>
        rw [if_pos rfl] at h5 ⊢
        refine ⟨δ4, M5, _, S4.ext e5, m5, h5, fun y M6 w6 H6 h6 e6 r6 m6 => ?_⟩
        obtain ⟨M7, rfl, w7⟩ := h6
        obtain ⟨us, a1, q1⟩ := rm_lst m6 updM_same
        refine ⟨us, a1, by rw [← q1.length]; exact hz, acc ++ [y], M7, ?_, ((((e2.trans e3).trans e4).trans e5).trans e6).trans (ext_lst a1), w7⟩
        have z := rm_putL m6 a1 (q1.append (.cons r6 .nil))
        rw [updM_upd] at z
        exact z
      | false =>
        rw [if_neg Bool.false_ne_true] at h5 ⊢
        obtain ⟨M7, rfl, w7⟩ := h5
        exact ⟨acc, M7, m5, ((e2.trans e3).trans e4).trans e5, w7⟩
  · have hi' : i = ds.length := by omega
    refine .inl ⟨it.stop i H' _ e2 m2 (hok i acc M2 w) (by omega), ?_⟩
    subst hi'
    exact k _ _ _ H' (done acc M2 w) (e1.trans e2) rfl m2
section
variable {elt iter : Expr} {ifs : List Expr} {scope : Scope} {own : List (Str × Nat)} {pos : Pos} {di : DI} {is : List Nat} {g : DG} {tt : DT} {te : DE}
theorem pd_lc (hc : X.calm = true) (hN : X.N.Nodup) (hi : PDI X tg iter di) (ok : BlkOk X.N X.env.scope scope own)
    (hg : ∀ (s : Shared) (H : Hp) (C : Addr) (cl : List (Str × Addr)) (fp : List Addr), PDG (X.blk s H scope (compEnvC scope cl C X.env) fp) tg is g)
    (ht : ∀ (s : Shared) (H : Hp) (C : Addr) (cl : List (Str × Addr)) (fp : List Addr), PDTs (X.blk s H scope (compEnvC scope cl C X.env) fp) ifs tt)
    (he : ∀ (s : Shared) (H : Hp) (C : Addr) (cl : List (Str × Addr)) (fp : List Addr), PD (X.blk s H scope (compEnvC scope cl C X.env) fp) elt te)
    (hv : ∀ j ∈ is, j ∈ own.map (·.2)) (hs : ∀ x, foldedSetIterable iter X.env x = pure x := by intro _; rfl) :
    PD X (.ListComp elt [⟨tg, iter, ifs, 0⟩] scope pos) (dLc di g tt te (own.map (·.2))) :=
  ⟨PE_imp (pe_lc hc hN hi.pi ok (fun s H C cl fp => (hg s H C cl fp).pg) (fun s H C cl fp => (ht s H C cl fp).pt) (fun s H C cl fp => (he s H C cl fp).pe) hs) (lc_imp hv)⟩
/-- name = [..] -/
theorem pds_setLc {i : Nat} {y : Str} {py spos : Pos} (hc : X.calm = true) (hN : X.N.Nodup) (hy : X.N[i]? = some y) (hyl : X.env.scope.names.lookup y = some .local)
    (hsw : swapsWith (.ListComp elt [⟨tg, iter, ifs, 0⟩] scope pos) (some (.Name y py)) spos.line X.env = pure true) (hi : PDI X tg iter di) (ok : BlkOk X.N X.env.scope scope own)
    (hg : ∀ (s : Shared) (H : Hp) (C : Addr) (cl : List (Str × Addr)) (fp : List Addr), PDG (X.blk s H scope (compEnvC scope cl C X.env) fp) tg is g)
    (ht : ∀ (s : Shared) (H : Hp) (C : Addr) (cl : List (Str × Addr)) (fp : List Addr), PDTs (X.blk s H scope (compEnvC scope cl C X.env) fp) ifs tt)
    (he : ∀ (s : Shared) (H : Hp) (C : Addr) (cl : List (Str × Addr)) (fp : List Addr), PD (X.blk s H scope (compEnvC scope cl C X.env) fp) elt te)
    (hv : ∀ j ∈ is, j ∈ own.map (·.2)) (hs : ∀ x, foldedSetIterable iter X.env x = pure x := by intro _; rfl) :
    PDS X (.Assign [.Name y py] (.ListComp elt [⟨tg, iter, ifs, 0⟩] scope pos) spos) (sAsg (dLc di g tt te (own.map (·.2))) (gNm i)) :=
  ⟨PS_imp (ps_setLc hc hN hy hyl hsw hi.pi ok (fun s H C cl fp => (hg s H C cl fp).pg) (fun s H C cl fp => (ht s H C cl fp).pt) (fun s H C cl fp => (he s H C cl fp).pe) hs) fun Dd σ H q => by
    have z := gName_imp Dd σ H q
    exact lc_imp hv σ H _ (by
      obtain ⟨δ, M, R, S, m, h, k⟩ := q
      exact ⟨δ, M, _, S, m, h, fun d M1 v H1 h1 e1 r1 m1 => k.nx _ M1 _ H1 h1 e1 ((S.ext e1).set r1) m1⟩)⟩
end

/-! ### defs of the text -/
abbrev DSp := List D → Mem → DK → Prop
def liftSp (K : PySem.W.Frag) (sp : DSp) : Sp := fun vs H Q _ => ∃ ds M R, RVs K H ds vs ∧ RM K H M ∧ sp ds M R ∧ KQ K H R Q
/-- the world of a claim -/
structure Wd where
  P : Program
  w : World
  K : PySem.W.Frag
  mg : Str → Option Value
  base : Heap
/-- a def (or a method) keeps its promise, by at most k levels -/
structure DFn (W : Wd) (k : Nat) (f : Addr) (fd : FuncData) (ps : List Str) (sp : DSp) : Prop where
  ok : FnOk W.P W.w W.K W.mg W.base CX0 k f fd ps (liftSp W.K sp)
  len : ∀ ds M R, sp ds M R → ds.length = ps.length
  bd : Binds W.K fd ps []
  kp : PySem.W.keepIn W.K (.ref f) = true
theorem DFn.mono {W : Wd} {j k : Nat} {f : Addr} {fd : FuncData} {ps : List Str} {sp : DSp} (F : DFn W j f fd ps sp) (h : j ≤ k) : DFn W k f fd ps sp := ⟨F.ok.mono h, F.len, F.bd, F.kp⟩
/-- a def of the module by its name -/
structure GFn (W : Wd) (k : Nat) (x : Str) (ps : List Str) (sp : DSp) : Prop where
  ex : ∃ f fd, W.mg x = some (.ref f) ∧ DFn W k f fd ps sp
theorem GFn.mono {W : Wd} {j k : Nat} {x : Str} {ps : List Str} {sp : DSp} (F : GFn W j x ps sp) (h : j ≤ k) : GFn W k x ps sp := by
  obtain ⟨f, fd, a, b⟩ := F.ex
  exact ⟨f, fd, a, b.mono h⟩
/-- the context stands in the world W, with room for k levels -/
structure In (X : Cx) (W : Wd) (k : Nat) : Prop where
  P : X.prog = W.P
  w : X.w = W.w
  K : X.K = W.K
  mg : X.mg = W.mg
  base : X.base = W.base
  room : Room k X.A
def dCall (sp : DSp) (t : DA) : DE := fun δ M R => t δ M fun ds M1 => sp ds M1 R
section
variable {W : Wd} {k : Nat} {x : Str} {ps : List Str} {sp : DSp} {p pos : Pos} {e : Expr} {es : List Expr} {t : DA}
theorem pd_call (F : GFn W k x ps sp) (hi : In X W k) (hg : Gl X x) (ha : PDA X (e :: es) t) (hdb : (x == ("__debug__" : Str)) = false := by decide)
    (he : starEach (e :: es) X.env = (false, eval e X.env) :: starEach es X.env := by rfl) (hpl : (backTo pos (starEach es X.env)).any (·.1) = false := by rfl) : PD X (.Call (.Name x p) (e :: es) [] pos) (dCall sp t) := by
  obtain ⟨f, fd, hm, G⟩ := F.ex
  obtain ⟨ok, len, bd, kp⟩ := G
  rw [← hi.P, ← hi.w, ← hi.K, ← hi.mg, ← hi.base] at ok
  rw [← hi.K] at bd kp
  rw [← hi.mg] at hm
  refine ⟨PE_imp (pe_call ok hi.room hg hm kp bd .nil pass0 ha.pa hdb he hpl) fun σ H Q q => ?_⟩
  obtain ⟨δ, M, R, S, m, h, kk⟩ := q
  refine ⟨δ, M, _, S, m, h, fun ds M1 vs H1 h1 e1 r1 m1 => ?_⟩
  show liftSp X.K sp (vs ++ []) H1 Q E0
  rw [List.append_nil]
  exact ⟨ds, M1, R, r1, m1, h1, kk.ext e1⟩
theorem pd_call0 (F : GFn W k x ps sp) (hi : In X W k) (hg : Gl X x) (hdb : (x == ("__debug__" : Str)) = false := by decide) : PD X (.Call (.Name x p) [] [] pos) (dCall sp aNil) := by
  obtain ⟨f, fd, hm, G⟩ := F.ex
  obtain ⟨ok, len, bd, kp⟩ := G
  rw [← hi.P, ← hi.w, ← hi.K, ← hi.mg, ← hi.base] at ok
  rw [← hi.K] at bd kp
  rw [← hi.mg] at hm
  refine ⟨PE_imp (pe_call0 ok hi.room hg hm kp bd .nil pass0 hdb) fun σ H Q q => ?_⟩
  obtain ⟨δ, M, R, S, m, h, kk⟩ := q
  exact ⟨[], M, R, .nil, m, h, kk⟩
end
def startD (N : List Str) (ds : List D) : DSt := ds.map some ++ List.replicate (N.length - ds.length) none
theorem start_sl {K : PySem.W.Frag} {H : Hp} {N : List Str} {ds : List D} {vs : List V} (r : RVs K H ds vs) : Sl K (L2.start N vs) H (startD N ds) := by
  refine ⟨by unfold L2.start startD; simp [r.length], fun i d q => ?_⟩
  unfold startD at q
  unfold L2.start
  by_cases hi : i < ds.length
  · rw [List.getElem?_append_left (by simpa using hi), List.getElem?_map] at q
    cases e : ds[i]? with
    | none => rw [e] at q; cases q
    | some d' =>
      rw [e] at q
      cases q
      obtain ⟨v, a, b⟩ := r.get e
      refine ⟨v, ?_, b⟩
      rw [List.getElem?_append_left (by simpa [← r.length] using hi), List.getElem?_map, a]
      rfl
  · rw [List.getElem?_append_right (by simpa using hi), List.getElem?_replicate] at q
    split at q <;> cases q
/-- what a body is to reach: R, of less memory where one likes -/
def endsF (R : DK) : DEnds where
  nx := fun _ M' => ∃ M0, Sub M0 M' ∧ R .non M0
  rt := fun d M' => ∃ M0, Sub M0 M' ∧ R d M0
abbrev BX (W : Wd) (N : List Str) (qual : Str) (sc : Scope) (f : Addr) (cdv : Value) (A : Around) (outer : List Env) (s : Shared) (H : Hp) (E : XK) : Cx := (cxOf CX0 W.P W.w W.K W.mg W.base N qual sc f cdv A outer s H E).nox
/-- a def's body: its reading t, wherever it runs -/
def Body (W : Wd) (k : Nat) (N : List Str) (qual : Str) (sc : Scope) (body : List Stmt) (t : DS) : Prop :=
  ∀ (f : Addr) (cdv : Value) (A : Around) (outer : List Env) (s : Shared) (H : Hp) (E : XK), In (BX W N qual sc f cdv A outer s H E) W k → PDSs (BX W N qual sc f cdv A outer s H E) body t
theorem dfn_mk {W : Wd} {k : Nat} {x qual : Str} {st : Stmt} {f : Addr} {fd : FuncData} {N ps : List Str} {sp : DSp} (F : Fun W.K x qual st f fd) (S : FnScope N ps (defScope st)) (bd : Binds W.K fd ps [])
    (len : ∀ ds M R, sp ds M R → ds.length = ps.length) (h : ∃ t, Body W k N qual (defScope st) (defBody st) t ∧ ∀ ds M R, sp ds M R → t (endsF R) (startD N ds) M) : DFn W (k + 1) f fd ps sp := by
  obtain ⟨t, hb, hr⟩ := h
  refine ⟨F.ok S (fun vs H Q E q => ?_) (fun cdv A outer s H vs Q E hroom q => ?_), len, bd, F.kp⟩
  · obtain ⟨ds, M, R, r, m, h, kk⟩ := q
    rw [← r.length]
    exact len ds M R h
  · refine ⟨_, (hb f cdv A outer s H E ⟨rfl, rfl, rfl, rfl, rfl, hroom⟩).ps, ?_⟩
    obtain ⟨ds, M, R, r, m, h, kk⟩ := q
    refine ⟨_, M, endsF R, start_sl r, m, hr ds M R h, ⟨?_, ?_, ?_, ?_⟩⟩
    · rintro δ M' σ H' ⟨M0, hs, q⟩ e S' m'
      exact kk .non M0 .non H' q e rfl (rm_sub m' hs)
    · intro δ M' σ H' q
      exact q.elim
    · intro δ M' σ H' q
      exact q.elim
    · rintro d M' v H' ⟨M0, hs, q⟩ e rv m'
      exact kk d M0 v H' q e rv (rm_sub m' hs)
end
end DD
namespace DD
open PySem PySem.Spec PyProof.Rows L2
/-! ### own classes -/
theorem lookup_at : ∀ {ws : List (Str × V)} {i : Nat} {f : Str} {v : V}, (ws.map (·.1)).Nodup → (ws.map (·.1))[i]? = some f → (ws.map (·.2))[i]? = some v → ws.lookup f = some v
  | [], _, _, _, _, h, _ => by simp at h
  | (k, x) :: r, 0, f, v, nd, h1, h2 => by
    simp at h1 h2
    subst h1; subst h2
    simp [List.lookup]
  | (k, x) :: r, i + 1, f, v, nd, h1, h2 => by
    have nd' := List.nodup_cons.mp nd
    have h1' : (r.map (·.1))[i]? = some f := by simpa using h1
    have ne : (f == k) = false := by
      refine beq_eq_false_iff_ne.mpr fun z => nd'.1 ?_
      rw [← z]
      exact List.mem_of_getElem? h1'
    simp only [List.lookup, ne]
    exact lookup_at nd'.2 h1' (by simpa using h2)
theorem putF_set : ∀ {ws : List (Str × V)} {i : Nat} {f : Str} {v : V}, (ws.map (·.1)).Nodup → (ws.map (·.1))[i]? = some f → (putF f v ws).map (·.1) = ws.map (·.1) ∧ (putF f v ws).map (·.2) = (ws.map (·.2)).set i v
  | [], _, _, _, _, h => by simp at h
  | (k, x) :: r, 0, f, v, nd, h1 => by
    simp at h1
    subst h1
    simp [putF]
  | (k, x) :: r, i + 1, f, v, nd, h1 => by
    have nd' := List.nodup_cons.mp nd
    have h1' : (r.map (·.1))[i]? = some f := by simpa using h1
    have ne : k ≠ f := fun z => nd'.1 (by
      have := List.mem_of_getElem? h1'
      rw [← z] at this
      exact this)
    obtain ⟨a, b⟩ := putF_set (v := v) nd'.2 h1'
    unfold putF
    rw [if_neg ne]
    simp [a, b]
theorem putF_new : ∀ {ws : List (Str × V)} {f : Str} {v : V}, f ∉ ws.map (·.1) → putF f v ws = ws ++ [(f, v)]
  | [], _, _, _ => rfl
  | (k, x) :: r, f, v, h => by
    have ne : k ≠ f := fun z => h (by simp [z])
    unfold putF
    rw [if_neg ne, putF_new fun z => h (List.mem_cons_of_mem _ z)]
    rfl
def putD (i : Nat) (v : D) (ds : List D) : List D := if i < ds.length then ds.set i v else ds ++ [v]
/-- the facts of a class that attributes ask -/
structure DCls (W : Wd) (C : Addr) (ns : List Str) : Prop where
  cl : Cls W.K C
  na : ∀ f ∈ ns, NoAttr W.K C f
  nd : ns.Nodup
  few : ns.length < 1000
section
variable {X : Cx} {W : Wd} {k : Nat} {C : Addr} {ns : List Str}
def onIns (C : Addr) (ns : List Str) (d : D) (M : Mem) (Q : Addr → List D → Prop) : Prop := match d with
  | .ref a => match M a with
    | some (.ins C' ns' ds) => C' = C ∧ ns' = ns ∧ Q a ds
    | _ => False
  | _ => False
theorem onIns_imp {K : PySem.W.Frag} {d : D} {M : Mem} {H : Hp} {v : V} {Q : Addr → List D → Prop} (h : onIns C ns d M Q) (m : RM K H M) (r : RV K H d v) :
    ∃ a dx ws ds, v = .ref a ∧ M a = some (.ins C ns ds) ∧ H a = some (.ins C dx ws) ∧ ws.map (·.1) = ns.take ds.length ∧ RVs K H ds (ws.map (·.2)) ∧ Q a ds := by
  unfold onIns at h
  split at h
  · cases r
    split at h
    · rename_i C' ns' ds he
      obtain ⟨rfl, rfl, q⟩ := h
      obtain ⟨dx, ws, a1, a2, a3⟩ := m _ _ he
      exact ⟨_, dx, ws, ds, rfl, he, a1, a2, a3, q⟩
    · exact h.elim
  · exact h.elim
def dFld (C : Addr) (ns : List Str) (i : Nat) (t : DE) : DE := fun δ M R => t δ M fun d M1 => onIns C ns d M1 fun _ ds => match ds[i]? with
  | some v => R v M1
  | none => False
theorem take_get {α : Type} {l : List α} {i n : Nat} {x : α} (h : l[i]? = some x) (hi : i < n) : (l.take n)[i]? = some x := by
  rw [List.getElem?_take_of_lt hi]; exact h
theorem pd_fld {e : Expr} {f : Str} {pos : Pos} {t : DE} {i : Nat} (c : DCls W C ns) (hi : In X W k) (hf : ns[i]? = some f) (he : PD X e t) (hb : attributeBase e f X.env (eval e X.env) = eval e X.env := by rfl) : PD X (.Attribute e f pos) (dFld C ns i t) :=
  ⟨PE_imp (pe_fld he.pe hb) fun σ H Q q => by
    obtain ⟨δ, M, R, S, m, h, kk⟩ := q
    refine ⟨δ, M, _, S, m, h, fun d M1 v H1 h1 e1 r1 m1 => ?_⟩
    obtain ⟨a, dx, ws, ds, rfl, _, a1, a2, a3, q⟩ := onIns_imp h1 m1 r1
    have c1 : Cls X.K C := by rw [hi.K]; exact c.cl
    have c2 : NoAttr X.K C f := by rw [hi.K]; exact c.na f (List.mem_of_getElem? hf)
    split at q
    · rename_i y hy
      have hil : i < ds.length := (List.getElem?_eq_some_iff.mp hy).1
      obtain ⟨u, b1, b2⟩ := a3.get hy
      refine ⟨a, C, dx, ws, u, rfl, a1, c1, c2, lookup_at (by rw [a2]; exact c.nd.sublist (List.take_sublist _ _)) (by rw [a2]; exact take_get hf hil) b1, ?_⟩
      exact kk y M1 u H1 q e1 b2 m1
    · exact q.elim⟩
/-- the object at a with another list of values -/
theorem put_ins {K : PySem.W.Frag} {H : Hp} {M : Mem} {a dx : Addr} {ws : List (Str × V)} {ds : List D} {i : Nat} {f : Str} {d : D} {v : V} (m : RM K H M) (nd : ns.Nodup) (hf : ns[i]? = some f) (a1 : H a = some (.ins C dx ws))
    (a2 : ws.map (·.1) = ns.take ds.length) (a3 : RVs K H ds (ws.map (·.2))) (hi : i ≤ ds.length) (r : RV K H d v) :
    Ext K H (upd H a (.ins C dx (putF f v ws))) ∧ RM K (upd H a (.ins C dx (putF f v ws))) (updM M a (.ins C ns (putD i d ds))) := by
  have e : Ext K H (upd H a (.ins C dx (putF f v ws))) := Ext.mut a1 (fun _ z => by cases z) (fun _ _ z => by cases z)
  refine ⟨e, rm_put m a1 e ?_⟩
  have nl : i < ns.length := (List.getElem?_eq_some_iff.mp hf).1
  by_cases hl : i < ds.length
  · obtain ⟨b1, b2⟩ := putF_set (v := v) (ws := ws) (i := i) (f := f) (by rw [a2]; exact nd.sublist (List.take_sublist _ _)) (by rw [a2]; exact take_get hf hl)
    refine ⟨dx, _, upd_same, ?_, ?_⟩
    · unfold putD
      rw [if_pos hl, b1, a2, List.length_set]
    · unfold putD
      rw [if_pos hl, b2]
      exact (a3.set i r).ext e
  · have hil : i = ds.length := by omega
    have nin : f ∉ ws.map (·.1) := by
      rw [a2]
      intro z
      obtain ⟨j, hj, hz⟩ := List.getElem_of_mem z
      rw [List.length_take] at hj
      have z2 : ns[j]? = some f := by
        rw [← hz, List.getElem_take]
        exact List.getElem?_eq_getElem (by omega)
      have := nodup_ix nd z2 hf
      omega
    refine ⟨dx, _, upd_same, ?_, ?_⟩
    · unfold putD
      rw [if_neg hl, putF_new nin, List.map_append, a2, List.length_append]
      show ns.take ds.length ++ [f] = ns.take (ds.length + 1)
      rw [List.take_add_one, ← hil, hf]
      rfl
    · unfold putD
      have z := (a3.append (RVs.cons r RVs.nil)).ext e
      rw [putF_new nin] at z
      rw [if_neg hl, putF_new nin, List.map_append]
      exact z
def sFldD (C : Addr) (ns : List Str) (i : Nat) (to tv : DE) : DS := fun E δ M => tv δ M fun y M1 => to δ M1 fun x M2 => onIns C ns x M2 fun a ds => i ≤ ds.length ∧ E.nx δ (updM M2 a (.ins C ns (putD i y ds)))
theorem pds_fld {o value : Expr} {f : Str} {pos pos' : Pos} {to tv : DE} {i : Nat} (c : DCls W C ns) (hi : In X W k) (hf : ns[i]? = some f) (ho : PD X o to) (hv : PD X value tv)
    (hs : swapsWith value (some (.Attribute o f pos')) pos.line X.env = pure false := by rfl) : PDS X (.Assign [.Attribute o f pos'] value pos) (sFldD C ns i to tv) :=
  ⟨PS_imp (ps_fld ho.pe hv.pe hs) fun Dd σ H q => by
    obtain ⟨δ, M, R, S, m, h, kk⟩ := q
    refine ⟨δ, M, _, S, m, h, fun y M1 w H1 h1 e1 r1 m1 => ?_⟩
    refine ⟨δ, M1, _, S.ext e1, m1, h1, fun x M2 v H2 h2 e2 r2 m2 => ?_⟩
    obtain ⟨a, dx, ws, ds, rfl, _, a1, a2, a3, hil, q⟩ := onIns_imp h2 m2 r2
    have c1 : Cls X.K C := by rw [hi.K]; exact c.cl
    have c2 : NoAttr X.K C f := by rw [hi.K]; exact c.na f (List.mem_of_getElem? hf)
    have few : ws.length < 1000 := by
      have z := congrArg List.length a2
      rw [List.length_map, List.length_take] at z
      have := c.few
      omega
    refine ⟨a, C, dx, ws, rfl, a1, c1, c2, few, ?_⟩
    obtain ⟨e3, m3⟩ := put_ins m2 c.nd hf a1 a2 a3 hil (r1.ext e2)
    exact kk.nx δ _ σ _ q ((e1.trans e2).trans e3) (S.ext ((e1.trans e2).trans e3)) m3⟩
def sFldAugD (C : Addr) (ns : List Str) (i : Nat) (to tv : DE) (g : DIp) : DS := fun E δ M => to δ M fun x M1 => onIns C ns x M1 fun a ds => match ds[i]? with
  | some v => tv δ M1 fun y M2 => g v y M2 fun z M3 => onIns C ns x M3 fun a ds => i ≤ ds.length ∧ E.nx δ (updM M3 a (.ins C ns (putD i z ds)))
  | none => False
theorem pds_fldaug {o value : Expr} {f : Str} {tpos pos : Pos} {to tv : DE} {i : Nat} {op : Operator} {rd : V → V → Hp → VK → Prop} {g : DIp} (c : DCls W C ns) (hi : In X W k) (hf : ns[i]? = some f) (ho : PD X o to) (hv : PD X value tv) (hop : InOp X op rd) (hg : IpD X.K rd g) :
    PDS X (.AugAssign (.Attribute o f tpos) op value pos) (sFldAugD C ns i to tv g) :=
  ⟨PS_imp (ps_fldaug ho.pe hv.pe hop) fun Dd σ H q => by
    obtain ⟨δ, M, R, S, m, h, kk⟩ := q
    refine ⟨δ, M, _, S, m, h, fun x M1 v H1 h1 e1 r1 m1 => ?_⟩
    obtain ⟨a, dx, ws, ds, rfl, he, a1, a2, a3, q⟩ := onIns_imp h1 m1 r1
    have c1 : Cls X.K C := by rw [hi.K]; exact c.cl
    have c2 : NoAttr X.K C f := by rw [hi.K]; exact c.na f (List.mem_of_getElem? hf)
    split at q
    · rename_i old hy
      have hil : i < ds.length := (List.getElem?_eq_some_iff.mp hy).1
      obtain ⟨u, b1, b2⟩ := a3.get hy
      refine ⟨a, C, dx, ws, u, rfl, a1, c1, c2, lookup_at (by rw [a2]; exact c.nd.sublist (List.take_sublist _ _)) (by rw [a2]; exact take_get hf hil) b1, ?_⟩
      refine ⟨δ, M1, _, S.ext e1, m1, q, fun y M2 w H2 h2 e2 r2 m2 => ?_⟩
      refine hg old y M2 _ H2 u w _ h2 m2 (b2.ext e2) r2 fun z M3 t H3 h3 e3 r3 m3 => ?_
      obtain ⟨a', dx', ws', ds', ea, _, a1', a2', a3', hil', q'⟩ := onIns_imp h3 m3 ((r1.ext e2).ext e3)
      cases ea
      have few : ws'.length < 1000 := by
        have z := congrArg List.length a2'
        rw [List.length_map, List.length_take] at z
        have := c.few
        omega
      refine ⟨dx', ws', a1', few, ?_⟩
      obtain ⟨e4, m4⟩ := put_ins m3 c.nd hf a1' a2' a3' hil' r3
      exact kk.nx δ _ σ _ q' (((e1.trans e2).trans e3).trans e4) (S.ext (((e1.trans e2).trans e3).trans e4)) m4
    · exact q.elim⟩
/-- a method of the class at C -/
structure MFn (W : Wd) (k : Nat) (C : Addr) (ns : List Str) (x : Str) (ps : List Str) (sp : DSp) : Prop where
  ex : ∃ f fd, Meth W.K C x f ∧ DFn W k f fd ps sp
  no : x ∉ ns
  cl : DCls W C ns
theorem MFn.mono {j k : Nat} {x : Str} {ps : List Str} {sp : DSp} (F : MFn W j C ns x ps sp) (h : j ≤ k) : MFn W k C ns x ps sp := by
  obtain ⟨f, fd, a, b⟩ := F.ex
  exact ⟨⟨f, fd, a, b.mono h⟩, F.no, F.cl⟩
def dMeth (C : Addr) (ns : List Str) (sp : DSp) (to : DE) (t : DA) : DE := fun δ M R => to δ M fun x M1 => onIns C ns x M1 fun _ _ => t δ M1 fun xs M2 => sp (x :: xs) M2 R
theorem lookup_none : ∀ {ws : List (Str × V)} {f : Str}, f ∉ ws.map (·.1) → ws.lookup f = none
  | [], _, _ => rfl
  | (k, x) :: r, f, h => by
    have ne : (f == k) = false := beq_eq_false_iff_ne.mpr fun z => h (by simp [z])
    simp only [List.lookup, ne]
    exact lookup_none fun z => h (List.mem_cons_of_mem _ z)
section
variable {x : Str} {ps : List Str} {sp : DSp} {o e : Expr} {es : List Expr} {apos pos : Pos} {to : DE} {t : DA}
theorem no_field {ws : List (Str × V)} {n : Nat} (a2 : ws.map (·.1) = ns.take n) (h : x ∉ ns) : ws.lookup x = none := lookup_none (by
  rw [a2]
  exact fun z => h (List.mem_of_mem_take z))
theorem pd_meth {pl : Sem Bool} (F : MFn W k C ns x ps sp) (hi : In X W k) (ho : PD X o to) (ha : PDA X (e :: es) t)
    (hst : starEach (e :: es) X.env = (false, eval e X.env) :: starEach es X.env := by rfl) (hpl : (backTo pos (starEach es X.env)).any (·.1) = false := by rfl)
    (ht : eval (.Call (.Attribute o x apos) (e :: es) [] pos) X.env = (do
      let ov ← eval o X.env
      standAt apos.atName
      let (f, first) ← holding [ov] (getMethod ov x pl)
      callWith pos f first (backTo pos (starEach (e :: es) X.env)) (backToKw pos (keywordEach [] X.env))) := by rfl) : PD X (.Call (.Attribute o x apos) (e :: es) [] pos) (dMeth C ns sp to t) := by
  obtain ⟨f, fd, hm, G⟩ := F.ex
  obtain ⟨ok, len, bd, kp⟩ := G
  have c1 : Cls X.K C := by rw [hi.K]; exact F.cl.cl
  rw [← hi.P, ← hi.w, ← hi.K, ← hi.mg, ← hi.base] at ok
  rw [← hi.K] at bd kp hm
  refine ⟨PE_imp (pe_meth ho.pe c1 hm ok hi.room bd .nil pass0 ha.pa hst hpl ht) fun σ H Q q => ?_⟩
  obtain ⟨δ, M, R, S, m, h, kk⟩ := q
  refine ⟨δ, M, _, S, m, h, fun d M1 v H1 h1 e1 r1 m1 => ?_⟩
  obtain ⟨a, dx, ws, ds, rfl, _, a1, a2, a3, q⟩ := onIns_imp h1 m1 r1
  refine ⟨a, dx, ws, rfl, a1, no_field a2 F.no, ?_⟩
  refine ⟨δ, M1, _, S.ext e1, m1, q, fun xs M2 vs H2 h2 e2 r2 m2 => ?_⟩
  show liftSp X.K sp (V.ref a :: (vs ++ [])) H2 Q E0
  rw [List.append_nil]
  exact ⟨d :: xs, M2, R, .cons (r1.ext e2) r2, m2, h2, kk.ext (e1.trans e2)⟩
theorem pd_meth0 {pl : Sem Bool} (F : MFn W k C ns x ps sp) (hi : In X W k) (ho : PD X o to)
    (ht : eval (.Call (.Attribute o x apos) [] [] pos) X.env = (do
      let ov ← eval o X.env
      standAt apos.atName
      let (f, first) ← holding [ov] (getMethod ov x pl)
      callWith pos f first (backTo pos (starEach [] X.env)) (backToKw pos (keywordEach [] X.env))) := by rfl) : PD X (.Call (.Attribute o x apos) [] [] pos) (dMeth C ns sp to aNil) := by
  obtain ⟨f, fd, hm, G⟩ := F.ex
  obtain ⟨ok, len, bd, kp⟩ := G
  have c1 : Cls X.K C := by rw [hi.K]; exact F.cl.cl
  rw [← hi.P, ← hi.w, ← hi.K, ← hi.mg, ← hi.base] at ok
  rw [← hi.K] at bd kp hm
  refine ⟨PE_imp (pe_meth0 ho.pe c1 hm ok hi.room bd .nil pass0 ht) fun σ H Q q => ?_⟩
  obtain ⟨δ, M, R, S, m, h, kk⟩ := q
  refine ⟨δ, M, _, S, m, h, fun d M1 v H1 h1 e1 r1 m1 => ?_⟩
  obtain ⟨a, dx, ws, ds, rfl, _, a1, a2, a3, q⟩ := onIns_imp h1 m1 r1
  refine ⟨a, dx, ws, rfl, a1, no_field a2 F.no, ?_⟩
  exact ⟨[d], M1, R, .cons r1 .nil, m1, q, kk.ext e1⟩
/-- C(..) -/
structure CFn (W : Wd) (k : Nat) (x : Str) (C : Addr) (ns : List Str) (ps : List Str) (sp : DSp) : Prop where
  ex : ∃ f fd, W.mg x = some (.ref C) ∧ Mk W.K C f ∧ DFn W k f fd ps sp
theorem CFn.mono {j k : Nat} {x : Str} {ps : List Str} {sp : DSp} (F : CFn W j x C ns ps sp) (h : j ≤ k) : CFn W k x C ns ps sp := by
  obtain ⟨f, fd, a, b, c⟩ := F.ex
  exact ⟨f, fd, a, b, c.mono h⟩
def dMake (C : Addr) (ns : List Str) (sp : DSp) (t : DA) : DE := fun δ M R => t δ M fun xs M1 => ∀ p, M1 p = none → sp (.ref p :: xs) (updM M1 p (.ins C ns [])) fun _ M2 => R (.ref p) M2
theorem make_imp {K : PySem.W.Frag} {sp' : DSp} {δ : DSt} {xs : List D} {M1 : Mem} {R : DK} {vs : List V} {H H1 : Hp} {Q : VK} (kk : KQ K H R Q) (e1 : Ext K H H1) (r1 : RVs K H1 xs vs) (m1 : RM K H1 M1)
    (h1 : ∀ p, M1 p = none → sp' (.ref p :: xs) (updM M1 p (.ins C ns [])) fun d M2 => R (.ref p) M2) (y dy : Addr) (hy : H1 y = none) (hdy : H1 dy = none) (ne : dy ≠ y)
    (hret : ∀ xs M R, sp' xs M R → sp' xs M fun d M2 => d = .non ∧ R d M2) :
    liftSp K sp' (V.ref y :: vs) (upd (upd H1 dy (.own y)) y (.ins C dy [])) (fun v H2 => v = .non ∧ Q (.ref y) H2) E0 := by
  have e2 : Ext K H1 (upd H1 dy (.own y)) := Ext.new hdy
  have hy2 : (upd H1 dy (.own y)) y = none := by rw [upd_ne ne.symm]; exact hy
  have e3 : Ext K (upd H1 dy (.own y)) (upd (upd H1 dy (.own y)) y (.ins C dy [])) := Ext.new hy2
  have m2 : RM K (upd H1 dy (.own y)) M1 := rm_skip m1 hdy
  refine ⟨.ref y :: xs, _, _, .cons rfl ((r1.ext e2).ext e3), rm_new (o := .ins C ns []) m2 hy2 ⟨dy, [], upd_same, by simp, .nil⟩, hret _ _ _ (h1 y (rm_none m1 hy)), ?_⟩
  rintro d M2 v H2 ⟨rfl, q⟩ e4 rv m3
  exact ⟨rv, kk _ M2 _ H2 q (((e1.trans e2).trans e3).trans e4) rfl m3⟩
theorem pd_make (F : CFn W k x C ns ps sp) (hi : In X W (k + 1)) (hg : Gl X x) (ha : PDA X (e :: es) t) (hret : ∀ xs M R, sp xs M R → sp xs M fun d M2 => d = .non ∧ R d M2) (hdb : (x == ("__debug__" : Str)) = false := by decide)
    (he : starEach (e :: es) X.env = (false, eval e X.env) :: starEach es X.env := by rfl) (hpl : (backTo pos (starEach es X.env)).any (·.1) = false := by rfl) : PD X (.Call (.Name x apos) (e :: es) [] pos) (dMake C ns sp t) := by
  obtain ⟨f, fd, hm, mk, G⟩ := F.ex
  obtain ⟨ok, len, bd, kp⟩ := G
  rw [← hi.P, ← hi.w, ← hi.K, ← hi.mg, ← hi.base] at ok
  rw [← hi.K] at bd kp mk
  rw [← hi.mg] at hm
  refine ⟨PE_imp (pe_make mk ok hi.room hg hm bd .nil pass0 ha.pa hdb he hpl) fun σ H Q q => ?_⟩
  obtain ⟨δ, M, R, S, m, h, kk⟩ := q
  refine ⟨δ, M, _, S, m, h, fun xs M1 vs H1 h1 e1 r1 m1 => ?_⟩
  intro y dy hy hdy ne
  show liftSp X.K sp (V.ref y :: (vs ++ [])) _ _ E0
  rw [List.append_nil]
  exact make_imp (δ := δ) kk e1 r1 m1 h1 y dy hy hdy ne hret
end
end
end DD
/-! ### enumerate(a tuple), at the library's level -/
namespace PySem
open AutoSeq1 (wpAny_loadPart')
section
variable {prog : Program} {w : World} {A : Around} {E : Value → Shared → Prop} {s : Shared}
theorem dd_meets_enumT (l : Addr) (items : Array Value) (o : Obj) (hc : o.cls = .type "tuple") (n : Nat) (hd : o.data = .seq items n) :
    Meets (Builtin.«enumerate.__new__» ⟨[.type "enumerate", .ref l], []⟩) (fun _ R s => s.heap.get? l = some o ∧
      R (.ok (.ret (.ref (s.heap.push { cls := .type "tuple_iterator", data := .fields #[.ref l, .int 0 0] }).objs.size)))
        { s with heap := (s.heap.push { cls := .type "tuple_iterator", data := .fields #[.ref l, .int 0 0] }).push { cls := .type "enumerate", data := .fields #[.none, .bool false, .ref s.heap.objs.size, rawInt 0, .none, .none] } }) :=
  .of_wp fun prog w A R s h => by
    obtain ⟨hp, g, d, tk, os⟩ := s
    obtain ⟨hl, h⟩ := h
    have hsub := sub_enumerate
    have hL : Heap.IsTuple (Shared.heap ⟨hp, g, d, tk, os⟩) l items := ⟨o, hl, hc, n, hd⟩
    obtain ⟨c, dct, dt, sl⟩ := o
    cases hc
    cases hd
    wp_walk using wpAny_loadPart' hl
    refine wpAny_stack_any fun st => wpAny_pure ?_
    split
    · rename_i c _ _ _ _ _
      cases (c == Value.type "enumerate") <;> (wp_walk using wpAny_loadPart' hl, wpAny_pyIter_tuple hL; exact ⟨_, rfl, h⟩)
    · wp_walk using wpAny_loadPart' hl, wpAny_pyIter_tuple hL
      exact ⟨_, rfl, h⟩
theorem dd_call_enumT {l : Addr} {items : Array Value} {Q : Value → Shared → Prop} (hL : s.heap.IsTuple l items)
    (h : ∀ h', IsEnum h' (s.heap.objs.size + 1) s.heap.objs.size 0 .none → h'.IsTupleIter s.heap.objs.size l 0 → h'.objs.size = s.heap.objs.size + 2 →
      (∀ b o, s.heap.get? b = some o → h'.get? b = some o) → Q (.ref (s.heap.objs.size + 1)) { s with heap := h' }) :
    wpAny (model prog w) A (call (.type "enumerate") [.ref l]) Q E s := by
  obtain ⟨o, hl, hc, n, hd⟩ := hL
  refine callType_new F.called_enumerate (by decide) (F.typeCall_enumerate_1 _) (F.newCall_enumerate_1 _) (fun obj => F.args_object_init_2 obj _) F.entry_enumerate_new
    (dd_meets_enumT l items o hc n hd) ⟨hl, ?_⟩
  have hz : (s.heap.push { cls := .type "tuple_iterator", data := .fields #[.ref l, .int 0 0] }).objs.size = s.heap.objs.size + 1 := Heap.size_push ..
  show _ ∧ _
  rw [hz]
  have he : IsEnum ((s.heap.push { cls := .type "tuple_iterator", data := .fields #[.ref l, .int 0 0] }).push
      { cls := .type "enumerate", data := .fields #[.none, .bool false, .ref s.heap.objs.size, rawInt 0, .none, .none] }) (s.heap.objs.size + 1) s.heap.objs.size 0 .none := by
    have q := Heap.get?_push_size (s.heap.push { cls := .type "tuple_iterator", data := .fields #[.ref l, .int 0 0] })
      (o := { cls := .type "enumerate", data := .fields #[.none, .bool false, .ref s.heap.objs.size, rawInt 0, .none, .none] }) rfl
    rw [hz] at q
    exact q
  refine ⟨⟨_, he, rfl⟩, h _ he ⟨_, Heap.get?_push_of_some _ (Heap.get?_push_size _ rfl), rfl, rfl⟩ (by rw [Heap.size_push, hz]) fun b o x => ?_⟩
  exact Heap.get?_push_of_some _ (Heap.get?_push_of_some _ x)
theorem dd_nextOf_tup {it l : Addr} {i : Nat} {items : Array Value} {x : Value} {Q : Value → Shared → Prop} (hit : s.heap.IsTupleIter it l i) (hl : s.heap.IsTuple l items) (hx : items[i]? = some x)
    (hQ : ∀ h', h'.IsTupleIter it l (i + 1) → Heap.SameBut it s.heap h' → Q x { s with heap := h' }) :
    wpAny (model prog w) A (Builtin.SmallTypes.nextOf (.ref it)) Q E s := by
  obtain ⟨o, ho, hc, hd⟩ := id hit
  obtain ⟨ol, hol, _, nl, hdl⟩ := hl
  unfold Builtin.SmallTypes.nextOf
  refine wpAny_bind (wpAny_callSpecial?_slot (name := Str.ofString "__next__") hit.typeIs F.slot_tuple_iterator_next (wpAny_call_entry F.slot_tuple_iterator_next hit.typeIs F.entry_tuple_iterator_next ?_ (F.args_tuple_iterator_next_1 _)))
  show wpAny _ _ (field (.ref it) 0 >>= _) _ _ s
  refine wpAny_bind (wpAny_field ho hd (x := .ref l) rfl ?_)
  show wpAny _ _ (if (Value.ref l == Value.none) = true then _ else _) _ _ s
  rw [if_neg (show ¬ ((Value.ref l == Value.none) = true) from Bool.false_ne_true)]
  show wpAny _ _ (field (.ref it) 1 >>= _) _ _ s
  refine wpAny_bind (wpAny_field ho hd (x := .int i 0) rfl ?_)
  show wpAny _ _ (seqItems? (.ref l) >>= _) _ _ s
  refine wpAny_bind (wpAny_seqItems hol hdl ?_)
  simp only [Int.toNat_natCast, hx]
  refine wpAny_bind (wpAny_setField ho hd (by simp) (wpAny_pure ⟨x, rfl, wpAny_pure (hQ _ ?_ (Heap.SameBut.update ..))⟩))
  refine ⟨_, Heap.get?_update_self _ ho (Obj.isFreed_of_fields (Obj.data_mapFields hd _)), (Obj.cls_mapFields ..).trans hc, ?_⟩
  rw [Obj.data_mapFields hd]; simp [rawInt]
theorem dd_nextOf_tupEnd {it l : Addr} {i : Nat} {items : Array Value} {Q : Value → Shared → Prop} (hh : A.handled = none) (hit : s.heap.IsTupleIter it l i) (hl : s.heap.IsTuple l items) (hx : items[i]? = none)
    (hE : ∀ h' e, Heap.ExtBut it s.heap h' → (∃ o, h'.get? e = some o ∧ o.cls = .type "StopIteration") → E (.ref e) { s with heap := h' }) :
    wpAny (model prog w) A (Builtin.SmallTypes.nextOf (.ref it)) Q E s := by
  obtain ⟨o, ho, hc, hd⟩ := id hit
  obtain ⟨ol, hol, _, nl, hdl⟩ := hl
  unfold Builtin.SmallTypes.nextOf
  refine wpAny_bind (wpAny_callSpecial?_slot (name := Str.ofString "__next__") hit.typeIs F.slot_tuple_iterator_next (wpAny_call_entry F.slot_tuple_iterator_next hit.typeIs F.entry_tuple_iterator_next ?_ (F.args_tuple_iterator_next_1 _)))
  show wpAny _ _ (field (.ref it) 0 >>= _) _ _ s
  refine wpAny_bind (wpAny_field ho hd (x := .ref l) rfl ?_)
  show wpAny _ _ (if (Value.ref l == Value.none) = true then _ else _) _ _ s
  rw [if_neg (show ¬ ((Value.ref l == Value.none) = true) from Bool.false_ne_true)]
  show wpAny _ _ (field (.ref it) 1 >>= _) _ _ s
  refine wpAny_bind (wpAny_field ho hd (x := .int i 0) rfl ?_)
  show wpAny _ _ (seqItems? (.ref l) >>= _) _ _ s
  refine wpAny_bind (wpAny_seqItems hol hdl ?_)
  simp only [Int.toNat_natCast, hx]
  refine wpAny_bind (wpAny_rule (wpAny_bind (wpAny_setField ho hd (by simp) ?_)))
  show wpAny _ _ (newExc (.type "StopIteration") [] >>= _) _ _ _
  refine wpAny_bind ?_
  simp only [newExc, newTuple]
  refine wpAny_bind (wpAny_newObj_type ?_ (by size_fits))
  refine wpAny_bind (m := firstArgMember _ _) (wpAny_of_eq (a := Value.none) (by first | rfl | (simp only [firstArgMember]; rfl)) ?_)
  refine wpAny_newObj_type ?_ (by size_fits)
  simp only [raiseNew]
  refine wpAny_bind (wpAny_handled ?_)
  first
    | rw [show A.in1.handled = none from hh]
    | rw [hh]
  refine wpAny_bind (wpAny_pure (wpAny_throw ?_))
  exact hE _ _ (((Heap.SameBut.update ..).extBut.push _).push _) ⟨_, Heap.get?_push_size _ rfl, rfl⟩
end
theorem dd_drawsT {prog : Program} {w : World} {A : Around} (hh : A.handled = none) (it l : Addr) (hne : l ≠ it) (items : Array Value) :
    Draws prog w A it [it, l] items.size (fun i v => items[i]? = some v) (fun i h => h.IsTupleIter it l i ∧ h.IsTuple l items) where
  live := fun _ _ st => let ⟨o, ho, _⟩ := st.1; ⟨o, ho⟩
  frame := fun _ _ _ st hk => ⟨let ⟨o, ho, r⟩ := st.1; ⟨o, hk it (by simp) o ho, r⟩, let ⟨o, ho, r⟩ := st.2; ⟨o, hk l (by simp) o ho, r⟩⟩
  item := fun i s Q E hi st hQ => by
    refine dd_nextOf_tup st.1 st.2 (x := items[i]) (by simp [hi]) fun h' hit' hs' => ?_
    exact hQ _ h' s.toks (by simp [hi]) ⟨hit', st.2.extBut hs'.extBut hne⟩ hs'
  done := fun s Q E st hE => dd_nextOf_tupEnd hh st.1 st.2 (by simp) hE
theorem dd_enum_end {prog : Program} {w : World} {A : Around} {E : Value → Shared → Prop} {s : Shared} {e it l : Addr} {i : Nat} {items : Array Value} {old : Value} {Q : Option Value → Shared → Prop} (hh : A.in1.handled = none)
    (he : IsEnum s.heap e it i old) (hit : s.heap.IsTupleIter it l i) (hl : s.heap.IsTuple l items) (hx : items[i]? = none)
    (hQ : ∀ h', Heap.ExtBut it s.heap h' → Q none { s with heap := h' }) : wpAny (model prog w) A (pyNext (.ref e)) Q E s := by
  have hT : s.TypeIs (.ref e) "enumerate" := ⟨_, he, rfl⟩
  unfold pyNext
  refine wpAny_bind (wpAny_attempt (wpAny_callSpecial?_slot (name := Str.ofString "__next__") hT F.slot_enumerate_next (wpAny_call_entry F.slot_enumerate_next hT F.entry_enumerate_next ?_ (F.args_enumerate_next_1 _))))
  show wpAny _ _ (field (.ref e) 2 >>= _) _ _ _
  refine wpAny_bind (wpAny_field he rfl (x := .ref it) rfl ?_)
  refine wpAny_bind (dd_nextOf_tupEnd hh hit hl hx fun h' x he' hx' => ?_)
  obtain ⟨o, ho, hc⟩ := hx'
  refine wpAny_bind (wpAny_isInstance (T := "StopIteration") (b := true) ⟨o, ho, hc⟩ isSubtype_stop ?_)
  exact wpAny_pure (hQ _ he')
end PySem

namespace DD
open PySem PySem.Spec PyProof.Rows L2
def IteT (K : PySem.W.Frag) (a : Addr) : It :=
  ⟨fun i H => ∃ (xs : List V) (x : V), SqT K H a xs ∧ xs[i]? = some x, fun i H v H' => ∃ T x, v = .ref T ∧ H T = none ∧ H' = upd H T (.tup [.int (i : Nat), x]) ∧ ∀ xs, SqT K H a xs → xs[i]? = some x, fun i H => ∃ xs : List V, SqT K H a xs ∧ xs.length ≤ i⟩
theorem turn_enumT {P : Program} {w : World} {K : PySem.W.Frag} {elts : List Expr} {kk : Nat} {tpos : Pos} (a e it : Addr) :
    Turn P w K (.Tuple elts kk tpos) (IteT K a) [e, it] e (fun i h => (∃ old, IsEnum h e it ((i : Nat) : Int) old) ∧ h.IsTupleIter it a i ∧ e ≠ it) where
  mem := by simp
  obj := fun i h st b hb => by
    obtain ⟨⟨old, he⟩, ⟨o, ho, hc, hd⟩, _⟩ := st
    have e' : b = e ∨ b = it := by simpa using hb
    rcases e' with z | z
    · rw [z]; exact ⟨_, he, fun v q => nomatch q⟩
    · rw [z]; exact ⟨o, ho, fun v q => by rw [hd] at q; cases q⟩
  keep := fun i h h' st k => let ⟨⟨old, he⟩, ⟨o, ho, r⟩, hne⟩ := st; ⟨⟨old, k e (by simp) _ he⟩, ⟨o, k it (by simp) o ho, r⟩, hne⟩
  item := by
    intro X hP hw hK hc i pins s σ H E I hf st hg
    subst hP hw hK
    obtain ⟨⟨old, he⟩, hit, hne⟩ := st
    obtain ⟨xs, x, hq, hx⟩ := hg
    obtain ⟨its, rv, p, hz⟩ := I.tuple hq
    obtain ⟨u, hu, ru⟩ := rv.get hx
    have p' : s.heap.IsTuple a its.toArray := p
    have hel : e < s.heap.objs.size := Heap.lt_size he
    have hil : it < s.heap.objs.size := by obtain ⟨_, q, _⟩ := hit; exact Heap.lt_size q
    have hai : a ≠ it := fun z => by
      obtain ⟨o1, q1, c1, _⟩ := p'
      obtain ⟨o2, q2, c2, _⟩ := hit
      rw [z, q2] at q1; cases q1
      rw [c2] at c1; exact absurd (Value.type.inj c1) (by decide)
    have hae : a ≠ e := fun z => by
      obtain ⟨o1, q1, c1, _⟩ := p'
      rw [z, he] at q1
      cases q1; exact absurd (Value.type.inj c1) (by decide)
    have hil2 : i < its.toArray.size := by
      have := rv.length
      have := (List.getElem?_eq_some_iff.mp hx).1
      simp only [List.size_toArray]; omega
    have hh : X.A.in1.handled = none := I.ok.hd hc
    refine wpAny_pyNext_enum_itemD (dd_drawsT (A := X.A.in1) hh it a hai its.toArray) he ⟨hit, p'⟩ hil2 hne (by simp [hne, Ne.symm hae]) fun y h' tk hP ho hs' hT hsz hk => ?_
    have hy : y = u := by
      have z : its.toArray[i]? = some y := hP
      have z2 : its.toArray[i]? = some u := by simpa using hu
      rw [z2] at z; cases z; rfl
    subst hy
    refine ⟨_, rfl, wpAny_letOwnedTupleGo_enum (s := { s with heap := h', toks := tk + 1 }) ho fun h'' he' sb => ?_⟩
    have hT2 : h''.get? s.heap.objs.size = some { cls := .type "tuple", data := .seq #[.int i tk, y] } := (sb.2 _ (Nat.ne_of_gt hel)).trans hT
    have new : ObjOk X.prog X.w (upd H s.heap.objs.size (.tup [.int (i : Nat), x])) h'' s.heap.objs.size (.tup [.int (i : Nat), x]) :=
      ⟨by show 2 ≤ sizeLine; decide, [.int i tk, y], .cons ⟨_, rfl⟩ (.cons ru .nil), ⟨_, hT2, rfl, _, rfl⟩⟩
    have I1 : Inv X pins σ (upd H s.heap.objs.size (.tup [.int (i : Nat), x])) { s with heap := h'', toks := tk + 1 } :=
      I.turnedNew (ch := [e, it]) (fun b ob hb q => (sb.2 b (fun z => hb (by simp [z]))).trans (hk b ob (fun z => hb (by simp [z])) (fun z => hb (by simp [z])) q)) hf (Nat.le_refl _) new
    refine ⟨.ref s.heap.objs.size, _, I1, rfl, ⟨_, x, rfl, I.hok.fresh (Nat.le_refl _), rfl, fun ys hy => by rw [I.tuple_inj hy hq]; exact hx⟩, ⟨⟨y, ?_⟩, ?_, hne⟩, fun b hb => ?_⟩
    · have e1 : ((i + 1 : Nat) : Int) = (i : Int) + 1 := by omega
      rw [e1]
      exact he'
    · obtain ⟨o, q, r⟩ := hs'.1
      exact ⟨o, (sb.2 it (Ne.symm hne)).trans q, r⟩
    · have hb' : b < s.heap.objs.size := by
        have e' : b = e ∨ b = it := by simpa using hb
        rcases e' with z | z
        · rw [z]; exact hel
        · rw [z]; exact hil
      rw [upd_ne (Nat.ne_of_lt hb')]
      exact (hf b hb).1
  done := by
    intro X hP hw hK hc i pins s σ H E I hf st hg
    subst hP hw hK
    obtain ⟨⟨old, he⟩, hit, hne⟩ := st
    obtain ⟨xs, hq, hx⟩ := hg
    obtain ⟨its, rv, p, hz⟩ := I.tuple hq
    have p' : s.heap.IsTuple a its.toArray := p
    obtain ⟨f0, f1, f2, f3, f4, f5⟩ := hf it (by simp)
    have hl := rv.length
    have hai : a ≠ it := fun z => by
      obtain ⟨o1, q1, c1, _⟩ := p'
      obtain ⟨o2, q2, c2, _⟩ := hit
      rw [z, q2] at q1; cases q1
      rw [c2] at c1; exact absurd (Value.type.inj c1) (by decide)
    have hh : X.A.in1.handled = none := I.ok.hd hc
    -- the end, with the iterator's place as it stands
    refine dd_enum_end hh he hit p' (by simp only [List.getElem?_toArray]; exact List.getElem?_eq_none (by omega)) fun h' eb => ⟨rfl, I.turned (t' := s.toks) (fun b o hb q => eb b o hb q) f0 f1 f3 f4 f5⟩
  self := fun A i s Q E st h => let ⟨⟨_, he⟩, _⟩ := st; wpAny_pyIter_enum he h
section
variable {X : Cx}
def iEnumA (K : PySem.W.Frag) (ta : TA) : TI := fun σ H R => ta σ H fun vs H1 => ∃ a xs, vs = [V.ref a] ∧ ((SqL K H1 a xs ∧ R (Ite K a) H1) ∨ (SqT K H1 a xs ∧ R (IteT K a) H1))
theorem pi_enumA {e : Expr} {ta : TA} {p pos tpos : Pos} {elts : List Expr} {kk : Nat} (hg : Gl X "enumerate") (hm : X.mg "enumerate" = none) (ha : PA X [e] ta) (hs : starEach [e] X.env = [(false, eval e X.env)] := by rfl) :
    PI X (.Tuple elts kk tpos) (.Call (.Name "enumerate" p) [e] [] pos) (iEnumA X.K ta) := by
  refine ⟨fun pins s σ H R I h => ?_⟩
  refine Call_ (ld_blt I hg hm boot_enumerate (PyProof.Rows.callWith_type1 (thn (ha.run pos pins s σ H _ I h) fun us s1 ⟨vs, H1, I1, r1, q1⟩ => ?_) hs rfl))
  obtain ⟨a, xs, ex, q⟩ := q1
  subst ex
  have fresh2 : ∀ b ∈ [s1.heap.objs.size + 1, s1.heap.objs.size], FpOk X pins H1 b := by
    intro b hb
    have e' : b = s1.heap.objs.size + 1 ∨ b = s1.heap.objs.size := by simpa using hb
    have hle : s1.heap.objs.size ≤ b := by rcases e' with z | z <;> omega
    exact I1.fpOk hle (I1.hok.fresh hle)
  cases r1 with
  | cons r rr =>
    cases rr
    cases r
    rcases q with ⟨hq, q⟩ | ⟨hq, q⟩
    · obtain ⟨its, rv, p', hz⟩ := I1.list hq
      refine call_enumerate_list p'.isList fun h' he hit hsz hk => wpAny_pyIter_enum he ?_
      have I2 : Inv X pins σ H1 { s1 with heap := h' } := I1.kept (t' := s1.toks) hk
      exact ⟨_, _, _, _, H1, rfl, I2, turn_enum a (s1.heap.objs.size + 1) s1.heap.objs.size, ⟨⟨.none, he⟩, hit, Nat.succ_ne_self _⟩, fresh2, q⟩
    · obtain ⟨its, rv, p', hz⟩ := I1.tuple hq
      have p2 : s1.heap.IsTuple a its.toArray := p'
      refine dd_call_enumT p2 fun h' he hit hsz hk => wpAny_pyIter_enum he ?_
      have I2 : Inv X pins σ H1 { s1 with heap := h' } := I1.kept (t' := s1.toks) hk
      exact ⟨_, _, _, _, H1, rfl, I2, turn_enumT a (s1.heap.objs.size + 1) s1.heap.objs.size, ⟨⟨.none, he⟩, hit, Nat.succ_ne_self _⟩, fresh2, q⟩
/-- (0, x), (1, y), .. -/
def enumD (xs : List D) : List D := (List.range xs.length).map fun (i : Nat) => D.tup [.int (i : Int), xs.getD i .non]
theorem enumD_length (xs : List D) : (enumD xs).length = xs.length := by simp [enumD]
theorem enumD_get {xs : List D} {i : Nat} {x : D} (h : xs[i]? = some x) : (enumD xs)[i]? = some (.tup [.int (i : Int), x]) := by
  have hi := (List.getElem?_eq_some_iff.mp h).1
  simp [enumD, List.getElem?_map, List.getElem?_range hi, h]
theorem new_tup {K : PySem.W.Frag} {H : Hp} {M : Mem} {T : Addr} {ds : List D} {vs : List V} (m : RM K H M) (hT : H T = none) (r : RVs K H ds vs) :
    Ext K H (upd H T (.tup vs)) ∧ RV K (upd H T (.tup vs)) (.tup ds) (.ref T) ∧ RM K (upd H T (.tup vs)) M :=
  ⟨Ext.new hT, ⟨T, vs, rfl, .inl (.inl upd_same), r.ext (Ext.new hT)⟩, rm_skip m hT⟩
theorem ite_ok {K : PySem.W.Frag} {H1 : Hp} {a : Addr} {xs : List D} {ok : Mem → Prop} (h : ∀ H M, Ext K H1 H → RM K H M → ok M → ∃ vs, SqL K H a vs ∧ RVs K H xs vs) : ItOk K H1 (Ite K a) (enumD xs) ok where
  go := fun i H M e m o hi => by
    rw [enumD_length] at hi
    obtain ⟨vs, s, r⟩ := h H M e m o
    obtain ⟨v, hv, _⟩ := r.get (List.getElem?_eq_getElem hi)
    exact ⟨vs, v, s, hv⟩
  yld := fun i H M v H' e m o hi y => by
    rw [enumD_length] at hi
    obtain ⟨vs, s, r⟩ := h H M e m o
    obtain ⟨T, x, rfl, hT, rfl, hx⟩ := y
    obtain ⟨u, hu, ru⟩ := r.get (List.getElem?_eq_getElem hi)
    have z := (hx vs s).symm.trans hu
    cases z
    obtain ⟨a1, a2, a3⟩ := new_tup m hT (ds := [.int (i : Int), xs[i]]) (.cons rfl (.cons ru .nil))
    exact ⟨_, enumD_get (List.getElem?_eq_getElem hi), a1, a2, a3⟩
  stop := fun i H M e m o hi => by
    rw [enumD_length] at hi
    obtain ⟨vs, s, r⟩ := h H M e m o
    exact ⟨vs, s, by rw [← r.length]; exact hi⟩
theorem iteT_ok {K : PySem.W.Frag} {H1 : Hp} {a : Addr} {xs : List D} {vs : List V} {ok : Mem → Prop} (s : SqT K H1 a vs) (r : RVs K H1 xs vs) : ItOk K H1 (IteT K a) (enumD xs) ok where
  go := fun i H M e m o hi => by
    rw [enumD_length] at hi
    obtain ⟨v, hv, _⟩ := r.get (List.getElem?_eq_getElem hi)
    exact ⟨vs, v, e.sqT s, hv⟩
  yld := fun i H M v H' e m o hi y => by
    rw [enumD_length] at hi
    obtain ⟨T, x, rfl, hT, rfl, hx⟩ := y
    obtain ⟨u, hu, ru⟩ := (r.ext e).get (List.getElem?_eq_getElem hi)
    have z := (hx vs (e.sqT s)).symm.trans hu
    cases z
    obtain ⟨a1, a2, a3⟩ := new_tup m hT (ds := [.int (i : Int), xs[i]]) (.cons rfl (.cons ru .nil))
    exact ⟨_, enumD_get (List.getElem?_eq_getElem hi), a1, a2, a3⟩
  stop := fun i H M e m o hi => by
    rw [enumD_length] at hi
    exact ⟨vs, e.sqT s, by rw [← r.length]; exact hi⟩
def iEnumerate (t : DA) : DI := fun δ M R => t δ M fun ds M1 => match ds with
  | [d] => match srcD M1 d with
    | some (xs, ok) => R (enumD xs) ok M1
    | none => False
  | _ => False
theorem src_imp2 {K : PySem.W.Frag} {H : Hp} {M : Mem} {d : D} {xs : List D} {ok : Mem → Prop} {v : V} (m : RM K H M) (e : srcD M d = some (xs, ok)) (h : RV K H d v) :
    (∃ a vs, v = .ref a ∧ SqL K H a vs ∧ RVs K H xs vs ∧ ∀ H' M', Ext K H H' → RM K H' M' → ok M' → ∃ vs, SqL K H' a vs ∧ RVs K H' xs vs) ∨ (∃ a vs, v = .ref a ∧ SqT K H a vs ∧ RVs K H xs vs) := by
  unfold srcD at e
  split at e
  · cases e
    obtain ⟨a, vs, rfl, s, r⟩ := h
    exact .inr ⟨a, vs, rfl, s, r⟩
  · cases e
    obtain ⟨a, vs, rfl, s, r⟩ := h
    exact .inl ⟨a, vs, rfl, s.sq, r, fun H' M' e' m' _ => ⟨vs, (e'.rol s).sq, r.ext e'⟩⟩
  · cases h
    split at e
    · rename_i ys he
      cases e
      obtain ⟨vs, a1, q1⟩ := rm_lst m he
      refine .inl ⟨_, vs, rfl, .inl (.inl a1), q1, fun H' M' e' m' o => ?_⟩
      obtain ⟨ws, a2, q2⟩ := rm_lst m' o
      exact ⟨ws, .inl (.inl a2), q2⟩
    · cases e
  · cases e
theorem pdi_enumerate {e : Expr} {ta : DA} {p pos tpos : Pos} {elts : List Expr} {kk : Nat} (hg : Gl X "enumerate") (hm : X.mg "enumerate" = none) (ha : PDA X [e] ta) (hs : starEach [e] X.env = [(false, eval e X.env)] := by rfl) :
    PDI X (.Tuple elts kk tpos) (.Call (.Name "enumerate" p) [e] [] pos) (iEnumerate ta) := ⟨PI_imp (pi_enumA hg hm ha.pa hs) fun σ H Q q => by
  obtain ⟨δ, M, R, S, m, h, k⟩ := q
  refine ⟨δ, M, _, S, m, h, fun ds M1 vs H1 h1 e1 r1 m1 => ?_⟩
  split at h1
  · obtain ⟨v, ws, rfl, q1, t⟩ := r1
    cases t
    split at h1
    · rename_i xs ok he
      rcases src_imp2 m1 he q1 with ⟨a, us, rfl, s, rv, it⟩ | ⟨a, us, rfl, s, rv⟩
      · exact ⟨a, us, rfl, .inl ⟨s, k _ _ M1 _ H1 h1 e1 m1 (ite_ok it)⟩⟩
      · exact ⟨a, us, rfl, .inr ⟨s, k _ _ M1 _ H1 h1 e1 m1 (iteT_ok s rv)⟩⟩
    · exact h1.elim
  · exact h1.elim⟩
end
end DD
namespace DD
open PySem PySem.Spec PyProof.Rows L2
/-- the built-in names that the module leaves alone -/
structure NB (W : Wd) : Prop where
  len : W.mg "len" = none
  abs : W.mg "abs" = none
  sum : W.mg "sum" = none
  min : W.mg "min" = none
  max : W.mg "max" = none
  any : W.mg "any" = none
  all : W.mg "all" = none
  sorted : W.mg "sorted" = none
  isinstance : W.mg "isinstance" = none
  int_ : W.mg "int" = none
  bool_ : W.mg "bool" = none
  str_ : W.mg "str" = none
  list_ : W.mg "list" = none
  tuple_ : W.mg "tuple" = none
  dict_ : W.mg "dict" = none
  set_ : W.mg "set" = none
  range : W.mg "range" = none
  enumerate : W.mg "enumerate" = none
  zip : W.mg "zip" = none
  reversed : W.mg "reversed" = none
/-- a constant of the module -/
structure GConst (W : Wd) (x : Str) (d : D) : Prop where
  ex : ∃ u v, W.mg x = some u ∧ RelV v u ∧ ∀ H, RV W.K H d v
section
variable {X : Cx} {W : Wd} {k : Nat}
theorem In.blk {s : Shared} {H : Hp} {scope : Scope} {cenv : Env} {fp : List Addr} (hi : In X W k) : In (X.blk s H scope cenv fp) W k := ⟨hi.P, hi.w, hi.K, hi.mg, hi.base, hi.room⟩
theorem GConst.pd {x : Str} {d : D} {pos : Pos} (g : GConst W x d) (hi : In X W k) (hg : Gl X x) (hd : (x == ("__debug__" : Str)) = false := by decide) : PD X (.Name x pos) (dC d) := by
  obtain ⟨u, v, hm, r, hr⟩ := g.ex
  refine pd_c (pe_glob hg (by rw [hi.mg]; exact hm) r hd) fun H => ?_
  rw [hi.K]
  exact hr H
theorem pd_ty {x : Str} {n : String} {pos : Pos} (hg : Gl X x) (hm : X.mg x = none) (hv : bootBuiltins x = some (.type n)) (hn : x ≠ "__name__" := by decide) (hd : (x == ("__debug__" : Str)) = false := by decide) : PD X (.Name x pos) (dC (.ty n)) :=
  pd_c (v := .ty n) (pe_bltn hg hm hv rfl hn hd) fun _ => rfl
/-! ### n += 1 of a field -/
abbrev gAddI : D2 := gI0 fun i j => .int (i + j)
theorem in_addI : InOp X .Add rAdd := in_add
theorem od_addI {K : PySem.W.Frag} : IpD K rAdd gAddI := by
  intro x y M R H v w Q q m rx ry k
  unfold gAddI gI0 at q
  split at q
  · cases rx; cases ry
    exact ⟨_, _, rfl, rfl, kq_keep k m q rfl⟩
  · exact q.elim
theorem od_iadd {K : PySem.W.Frag} : OpD K (rI0 fun i j => .int (i + j)) gAddI := od_I0 fun _ _ _ => rfl
/-! ### isinstance of a value and a built-in type -/
def tyD (M : Mem) : D → Option String
  | .non => some "NoneType"
  | .bl _ => some "bool"
  | .int _ => some "int"
  | .str _ => some "str"
  | .tup _ => some "tuple"
  | .rol _ => some "list"
  | .ref a => match M a with
    | some (.lst _) => some "list"
    | some (.dK _) => some "dict"
    | _ => none
  | .ty _ => none
def isB (a b : String) : Bool := a == b || (a == "bool" && b == "int")
theorem kit_isB : ∀ a ∈ ["NoneType", "bool", "int", "str", "tuple", "list", "dict"], ∀ b ∈ ["bool", "int", "str", "tuple", "list", "dict"], kitB a b = some (isB a b) := by decide +kernel
theorem tyD_mem {M : Mem} {d : D} {a : String} (h : tyD M d = some a) : a ∈ ["NoneType", "bool", "int", "str", "tuple", "list", "dict"] := by
  cases d with
  | ref p =>
    have h : (match M p with
      | some (.lst _) => some "list"
      | some (.dK _) => some "dict"
      | _ => none) = some a := h
    split at h <;> first | (cases h; simp) | cases h
  | ty n => cases h
  | _ => cases h; simp
theorem tyD_x {K : PySem.W.Frag} {H : Hp} {M : Mem} {d : D} {a : String} {v : V} (m : RM K H M) (h : tyD M d = some a) (r : RV K H d v) : TyX K H v (.type a) := by
  cases d with
  | non => cases h; cases r; exact .base .non
  | bl b => cases h; cases r; exact .base (.bl b)
  | int b => cases h; cases r; exact .base (.int b)
  | str b => cases h; cases r; exact .base (.str b)
  | ty n => cases h
  | tup ds =>
    cases h
    obtain ⟨p, vs, rfl, s, _⟩ := r
    rcases s with (s | ⟨o, s⟩) | ⟨o, its, n, hk, hc, _⟩
    · exact .base (.tup s)
    · exact .fTuple s
    · exact .kTuple hk hc
  | rol ds =>
    cases h
    obtain ⟨p, vs, rfl, s, _⟩ := r
    rcases s with ⟨o, s⟩ | ⟨o, its, n, hk, hc, _⟩
    · exact .base (.frz s)
    · exact .kList hk hc
  | ref p =>
    cases r
    have h : (match M p with
      | some (.lst _) => some "list"
      | some (.dK _) => some "dict"
      | _ => none) = some a := h
    split at h
    · rename_i xs he
      cases h
      obtain ⟨us, a1, _⟩ := rm_lst m he
      exact .base (.lst a1)
    · rename_i xs he
      cases h
      obtain ⟨us, a1, _⟩ := m _ _ he
      exact .base (.dK a1)
    · cases h
def gIsi : DC1 := fun xs M R => match xs with
  | [d, .ty n] => match tyD M d with
    | some a => n ∈ ["bool", "int", "str", "tuple", "list", "dict"] ∧ R (.bl (isB a n)) M
    | none => False
  | _ => False
theorem cd_isi {K : PySem.W.Frag} : CallD K (rIsi K) gIsi := by
  intro xs M R H vs Q g m r k
  unfold gIsi at g
  split at g
  · obtain ⟨v, ws, rfl, q, v2, w2, rfl, q2, t⟩ := r
    cases t; cases q2
    split at g
    · rename_i a ha
      exact ⟨v, .ty _, .type a, .type _, isB a _, rfl, .ty _, tyD_x m ha q, kit_ty (kit_isB a (tyD_mem ha) _ g.1), kq_keep k m g.2 rfl⟩
    · exact g.elim
  · exact g.elim

/-! ### sorted(xs), xs a list of data that can be compared -/
def toP (d : D) : PyData := (pyd d).getD .none
theorem pyds_map : ∀ {xs : List D} {ps : List PyData}, pyds xs = some ps → ps = xs.map toP ∧ ∀ x ∈ xs, pyd x = some (toP x)
  | [], _, h => by cases h; exact ⟨rfl, fun _ z => nomatch z⟩
  | x :: xs, ps, h => by
    unfold pyds at h
    split at h
    · rename_i y ys h1 h2
      cases h
      obtain ⟨a, b⟩ := pyds_map h2
      refine ⟨?_, fun z hz => ?_⟩
      · rw [a, List.map_cons]
        unfold toP
        rw [h1]; rfl
      · rcases List.mem_cons.mp hz with rfl | hz
        · unfold toP
          rw [h1]; rfl
        · exact b z hz
    · cases h
def dLe : D → D → Bool := PySem.W.dataLe false toP
def gSorted : DC1 := fun xs M R => match xs with
  | [d] => match itemsD M d with
    | some ys => isLst d M ∧ (∃ ps, pyds ys = some ps) ∧ PySem.W.AllAlike (ys.map toP) ∧ PySem.W.Sortable (ys.map toP) ∧ (∀ y ∈ ys, (toP y).depth ≤ 60) ∧ ys.length ≤ sizeLine ∧
      ∃ M0, Sub M0 M ∧ ∀ p, M0 p = none → R (.ref p) (updM M0 p (.lst (ys.mergeSort dLe)))
    | none => False
  | _ => False
theorem each_of {K : PySem.W.Frag} {H : Hp} : ∀ {ds : List D} {vs : List V} {us : List Value}, RVs K H ds vs → Vals vs us → PySem.W.EachIs (fun u d => ∃ v, RelV v u ∧ RV K H d v) us ds
  | [], _, _, h, r => by cases h; cases r; exact .nil
  | d :: ds, _, _, h, r => by
    obtain ⟨v, ws, rfl, q, t⟩ := h
    cases r with
    | cons r1 r2 => exact .cons ⟨v, r1, q⟩ (each_of t r2)
theorem of_each {K : PySem.W.Frag} {H : Hp} : ∀ {ds : List D} {us : List Value}, PySem.W.EachIs (fun u d => ∃ v, RelV v u ∧ RV K H d v) us ds → ∃ vs, RVs K H ds vs ∧ Vals vs us
  | _, _, .nil => ⟨[], .nil, .nil⟩
  | _, _, .cons ⟨v, r, q⟩ t => by
    obtain ⟨vs, a, b⟩ := of_each t
    exact ⟨v :: vs, .cons q a, .cons r b⟩
def rSortedD (K : PySem.W.Frag) : List V → Hp → VK → Prop := fun vs H Q => ∃ (a : Addr) (xs : List V) (ds : List D), vs = [V.ref a] ∧ H a = some (.lst xs) ∧ RVs K H ds xs ∧ (∀ x ∈ ds, pyd x = some (toP x)) ∧ PySem.W.AllAlike (ds.map toP) ∧ PySem.W.Sortable (ds.map toP) ∧ (∀ y ∈ ds, (toP y).depth ≤ 60) ∧
  ∀ p ys, RVs K H (ds.mergeSort dLe) ys → H p = none → Q (.ref p) (upd H p (.lst ys))
theorem cr_sortedD (hu : X.A.units + 64 < cLine) : CallR X (.builtin "sorted") (rSortedD X.K) := by
  intro pins s σ H vs us Q I r h
  obtain ⟨a, xs, ds, rfl, hs, rd, hp, hal, hso, hdp, q⟩ := h
  obtain ⟨its, rv, hl, hz⟩ := I.list (.inl (.inl hs))
  rw [Vals.ref1 r]
  have e := each_of rd rv
  have er : PySem.W.EachIs (fun v b => ∃ as, Reads s.heap v (toP b) as) its ds := by
    have gen : ∀ {us : List Value} {ds : List D}, (∀ x ∈ ds, pyd x = some (toP x)) → PySem.W.EachIs (fun u d => ∃ v, RelV v u ∧ RV X.K H d v) us ds → PySem.W.EachIs (fun v b => ∃ as, Reads s.heap v (toP b) as) us ds := by
      intro us ds hp e
      induction e with
      | nil => exact .nil
      | cons h t ih =>
        obtain ⟨v, r1, q1⟩ := h
        exact .cons (Dp.reads I _ v _ (pyd_dp (hp _ List.mem_cons_self) q1) r1) (ih fun x hx => hp x (List.mem_cons_of_mem _ hx))
    exact gen hp e
  have hlen : ds.length = its.length := rd.length.trans rv.length
  refine PySem.W.sorted_data hl.isList e er hal hso (by rw [rd.length]; exact hz) (fun b hb => by have := hdp b hb; omega) fun out ho eo => ?_
  obtain ⟨ys, b1, b2⟩ := of_each eo
  have hfr : H (s.heap.objs.size + 1) = none := I.hok.fresh (Nat.le_succ _)
  obtain ⟨n, hn⟩ := PyProof.Rows.sortedAll_at s.heap its out.toArray
  refine ⟨.ref (s.heap.objs.size + 1), upd H (s.heap.objs.size + 1) (.lst ys), I.laid (t' := s.toks) (fun b o e => PyProof.Rows.sortedAll_old e) (Nat.le_succ _) ⟨?_, out, n, b2, hn⟩, rfl, q _ ys b1 hfr⟩
  rw [b2.length, ho, rd.length]
  exact hz
theorem cd_sorted {K : PySem.W.Frag} : CallD K (rSortedD K) gSorted := by
  intro xs M R H vs Q g m r k
  unfold gSorted at g
  split at g
  · rename_i d
    obtain ⟨v, ws, rfl, q, t⟩ := r
    cases t
    split at g
    · rename_i ys he
      obtain ⟨hl, ⟨ps, hp⟩, h1, h2, h3, h4, M0, hs, g⟩ := g
      unfold isLst at hl
      split at hl
      · rename_i a
        cases q
        split at hl
        · rename_i zs hz
          have e2 : itemsD M (.ref a) = some zs := by
            show (match M a with
              | some (.lst xs) => some xs
              | _ => none) = some zs
            rw [hz]
          rw [e2] at he
          cases he
          obtain ⟨us, a1, r2⟩ := rm_lst m hz
          exact ⟨a, us, _, rfl, a1, r2, (pyds_map hp).2, h1, h2, h3, fun p ws rw' hp' => kq_new k (rm_sub m hs) hp' rw' (g p (rm_none (rm_sub m hs) hp'))⟩
        · exact hl.elim
      · exact hl.elim
    · exact g.elim
  · exact g.elim
/-! ### gcd -/
def gGcd : DC1 := fun xs M R => match xs with
  | [.int a, .int b] => R (.int ((Nat.gcd a.natAbs b.natAbs : Nat) : Int)) M
  | _ => False
theorem cd_gcd {K : PySem.W.Frag} : CallD K rGcd gGcd := by
  intro xs M R H vs Q g m r k
  unfold gGcd at g
  split at g
  · obtain ⟨v, ws, rfl, q, v2, w2, rfl, q2, t⟩ := r
    cases t; cases q; cases q2
    exact ⟨_, _, rfl, kq_keep k m g rfl⟩
  · exact g.elim
/-! ### f(k = v, ..), keywords alone -/
structure PDK (X : Cx) (kws : List Keyword) (t : DA) : Prop where
  pk : PK X kws (liftA X.K t)
theorem PK_imp {kws : List Keyword} {t t' : TA} (h : PK X kws t) (f : ∀ σ H Q, t' σ H Q → t σ H Q) : PK X kws t' := ⟨fun pos pins s σ H Q I q => h.run pos pins s σ H Q I (f _ _ _ q)⟩
theorem pdk_nil : PDK X [] aNil := ⟨PK_imp pk_nil fun σ H Q h => by
  obtain ⟨δ, M, R, S, m, h, k⟩ := h
  exact k [] M [] H h (Ext.refl H) .nil m⟩
theorem pdk_cons {nm : Option Str} {kpos : Pos} {e : Expr} {kws : List Keyword} {te : DE} {t : DA} (ha : PD X e te) (hr : PDK X kws t) : PDK X (⟨nm, e, kpos⟩ :: kws) (aCons te t) := ⟨PK_imp (pk_cons ha.pe hr.pk) fun σ H Q h => by
  obtain ⟨δ, M, R, S, m, h, k⟩ := h
  refine ⟨δ, M, _, S, m, h, fun x M1 v H1 h1 e1 r1 m1 => ?_⟩
  refine ⟨δ, M1, _, S.ext e1, m1, h1, fun xs M2 vs H2 h2 e2 r2 m2 => ?_⟩
  exact k _ M2 _ H2 h2 (e1.trans e2) (.cons (r1.ext e2) r2) m2⟩
/-- the items at these places -/
def permL {α : Type} (is : List Nat) (xs : List α) : List α := is.filterMap fun i => xs[i]?
theorem permL_rel {K : PySem.W.Frag} {H : Hp} {ds : List D} {vs : List V} (r : RVs K H ds vs) : ∀ is : List Nat, RVs K H (permL is ds) (permL is vs)
  | [] => .nil
  | i :: is => by
    unfold permL
    rw [List.filterMap_cons, List.filterMap_cons]
    cases e : ds[i]? with
    | none =>
      have : vs[i]? = none := by
        rw [List.getElem?_eq_none_iff] at e ⊢
        rw [← r.length]; exact e
      rw [this]
      exact permL_rel r is
    | some d =>
      obtain ⟨v, a, b⟩ := r.get e
      rw [a]
      exact .cons b (permL_rel r is)
theorem permL_vals {vs : List V} {us : List Value} (r : Vals vs us) : ∀ is : List Nat, Vals (permL is vs) (permL is us)
  | [] => .nil
  | i :: is => by
    unfold permL
    rw [List.filterMap_cons, List.filterMap_cons]
    cases e : vs[i]? with
    | none =>
      rw [r.none_of e]
      exact permL_vals r is
    | some d =>
      obtain ⟨v, a, b⟩ := r.get e
      rw [a]
      exact .cons b (permL_vals r is)
/-- a def that may be called by these keywords alone -/
structure GFnK (W : Wd) (k : Nat) (x : Str) (ps : List Str) (sp : DSp) (ks : List Str) (is : List Nat) : Prop where
  ex : ∃ f fd, W.mg x = some (.ref f) ∧ DFn W k f fd ps sp ∧ ∀ (s : Shared) (ws : List Value), ws.length = ks.length → BindsTo s fd ⟨[], ks.zip ws⟩ (ps.zip (permL is ws))
def dCallK (sp : DSp) (is : List Nat) (n : Nat) (t : DA) : DE := fun δ M R => t δ M fun ds M1 => ds.length = n ∧ sp (permL is ds) M1 R
theorem pd_callK {x : Str} {ps ks : List Str} {sp : DSp} {is : List Nat} {p pos : Pos} {kws : List Keyword} {t : DA} (F : GFnK W k x ps sp ks is) (hi : In X W k) (hg : Gl X x) (hkw : PDK X kws t)
    (hall : (backToKw pos (keywordEach kws X.env)).all (·.1.isSome) = true := by rfl) (hks : (backToKw pos (keywordEach kws X.env)).filterMap (·.1) = ks := by rfl)
    (hdb : (x == ("__debug__" : Str)) = false := by decide)
    (hpl : ((backTo pos (starEach [] X.env)).any (·.1) || (backToKw pos (keywordEach kws X.env)).any (·.1.isNone)) = false := by rfl) :
    PD X (.Call (.Name x p) [] kws pos) (dCallK sp is ks.length t) := by
  obtain ⟨f, fd, hm, G, hb⟩ := F.ex
  obtain ⟨ok, len, bd, kp⟩ := G
  rw [← hi.P, ← hi.w, ← hi.K, ← hi.mg, ← hi.base] at ok
  rw [← hi.K] at kp
  rw [← hi.mg] at hm
  refine ⟨⟨fun pins s σ H Q I h => ?_⟩⟩
  obtain ⟨δ, M, R, S, m, h, kk⟩ := h
  refine wpAny_Call_Name_kw (ld_glob I hg hm ?_ hdb)
  refine PySem.W.callWith_KW0 (h₀ := X.base) I.ok.mod.kin kp hall (thn (hkw.pk.run pos pins s σ H (fun vs H1 => vs.length = ks.length ∧ liftSp X.K sp (permL is vs) H1 Q E0) I ?_) fun ws s2 ⟨zs, H2, I2, rz, hn, q2⟩ => ⟨I2.kIn, ?_⟩) hpl
  · refine ⟨δ, M, _, S, m, h, fun ds M1 vs H1 h1 e1 r1 m1 => ⟨by rw [← r1.length]; exact h1.1, permL is ds, M1, R, permL_rel r1 is, m1, h1.2, kk.ext e1⟩⟩
  · rw [hks]
    show wpAny _ _ (call (.ref f) [] (ks.zip ws)) _ _ _
    refine wpAny_call (codeAny_mono (ok.run X.A X.stack s2 H2 ⟨[], ks.zip ws⟩ (permL is ws) (permL is zs) Q E0 hi.room I2.env0 (hb s2 ws (by rw [← rz.length]; exact hn)) (permL_vals rz is) q2) fun r s' hq => ?_)
    cases r with
    | error e => exact hq.elim
    | ok fl =>
      cases fl with
      | ret u => exact I2.after hq
      | next => exact False.elim hq
      | brk => exact False.elim hq
      | cont => exact False.elim hq
end
end DD
namespace DD
open PySem PySem.Spec PyProof.Rows L2 GxR
/-! ### the table of code objects -/
theorem rm_tab {K : PySem.W.Frag} {H H' : Hp} {M : Mem} {P : Addr} (m : RM K H M) (t : M P = some .tbl) (h : Tabbed P H H') : RM K H' M ∧ Ext K H H' := by
  obtain ⟨ps, h1, h2⟩ := m P _ t
  obtain ⟨⟨qs, q1, q2⟩, ne⟩ := h
  have e : Ext K H H' := ⟨fun a xs e => by
    have : a ≠ P := fun z => by rw [z, h1] at e; cases e
    rw [ne a this]; exact e, fun a o xs e => by
    have : a ≠ P := fun z => by rw [z, h1] at e; cases e
    rw [ne a this]; exact e⟩
  refine ⟨fun a o ha => ?_, e⟩
  by_cases hp : a = P
  · subst hp
    rw [t] at ha; cases ha
    exact ⟨qs, q1, q2⟩
  · exact ro_stay e (ne a hp) (m a o ha)
theorem tab_of {K : PySem.W.Frag} {H : Hp} {M : Mem} {P : Addr} (m : RM K H M) (t : M P = some .tbl) : TabG H P := m P _ t
/-- the generator expression's own scope, two names -/
structure GenS2 (env : Env) (scope : Scope) (xa xb : Str) : Prop where
  kind : scope.kind = .function
  co : scope.isCoroutine = false
  cell : ∀ y ∈ scope.names, y.2 ≠ .cell
  dot : scope.names.lookup (".0" : Str) = some NameKind.local
  la : scope.names.lookup xa = some .local
  lb : scope.names.lookup xb = some .local
  ne : xa ≠ xb
  free : ∀ y ∈ scope.names, y.2 = .free → ∃ c, env.cells.lookup y.1 = some c
theorem genS2_plain {env : Env} {scope : Scope} {xa xb : Str} (kind : scope.kind = .function) (co : scope.isCoroutine = false) (cf : ∀ y ∈ scope.names, y.2 ≠ .cell ∧ y.2 ≠ .free) (dot : scope.names.lookup (".0" : Str) = some NameKind.local)
    (la : scope.names.lookup xa = some .local) (lb : scope.names.lookup xb = some .local) (ne : xa ≠ xb) : GenS2 env scope xa xb := ⟨kind, co, fun y hy => (cf y hy).1, dot, la, lb, ne, fun y hy e => absurd e (cf y hy).2⟩
/-- a quiet element over two ints -/
def QE2 (prog : Program) (w : World) (scope : Scope) (xa xb : Str) (e : Expr) (C : Int → Int → Prop) (f : Int → Int → Int) : Prop :=
  ∀ (cenv : Env) (A' : Around) (E' : Value → Shared → Prop) (i n : Int) (t u : Tok) (s₂ : Shared) (m₂ : Str → Option Value), cenv.scope = scope → s₂.heap.Ns cenv.locals m₂ → m₂ xa = some (.int i t) → m₂ xb = some (.int n u) → C i n →
    wpAny (model prog w) A' (eval e cenv) (fun y s₃ => (∃ t, y = .int (f i n) t) ∧ Keeps s₂ s₃) E' s₂
theorem keeps_then {s s1 s2 : Shared} (a : Keeps s s1) (b : Keeps s1 s2) : Keeps s s2 := by
  obtain ⟨h1, t1, rfl, k1⟩ := a
  obtain ⟨h2, t2, rfl, k2⟩ := b
  exact ⟨h2, t2, rfl, fun b o e => k2 b o (k1 b o e)⟩
section
variable {prog : Program} {w : World} {scope : Scope} {xa xb : Str} {pos : Pos}
theorem qe_a {C : Int → Int → Prop} (hk : scope.kind = .function) (hl : scope.names.lookup xa = some .local) (hd : (xa == ("__debug__" : Str)) = false := by decide) : QE2 prog w scope xa xb (.Name xa pos) C (fun i _ => i) := by
  intro cenv A' E' i n t u s₂ m₂ hs hn ha hb _
  exact wpAny_Name (wpAny_loadName_local (by rw [hs]; exact hk) (show cenv.scope.names.lookup xa = some .local by rw [hs]; exact hl) hn ha ⟨⟨t, rfl⟩, keeps_refl _⟩) hd
theorem qe_b {C : Int → Int → Prop} (hk : scope.kind = .function) (hl : scope.names.lookup xb = some .local) (hd : (xb == ("__debug__" : Str)) = false := by decide) : QE2 prog w scope xa xb (.Name xb pos) C (fun _ n => n) := by
  intro cenv A' E' i n t u s₂ m₂ hs hn ha hb _
  exact wpAny_Name (wpAny_loadName_local (by rw [hs]; exact hk) (show cenv.scope.names.lookup xb = some .local by rw [hs]; exact hl) hn hb ⟨⟨u, rfl⟩, keeps_refl _⟩) hd
theorem qe_c {C : Int → Int → Prop} {j : Int} {kk : Nat} : QE2 prog w scope xa xb (.Constant (.int j) kk pos) C (fun _ _ => j) := by
  intro cenv A' E' i n t u s₂ m₂ hs hn ha hb _
  exact wpAny_Constant_int ⟨⟨_, rfl⟩, keeps_tok _ _⟩
theorem qe_add {C : Int → Int → Prop} {a b : Expr} {f g : Int → Int → Int} (ha : QE2 prog w scope xa xb a C f) (hb : QE2 prog w scope xa xb b C g) : QE2 prog w scope xa xb (.BinOp a .Add b pos) C (fun i n => f i n + g i n) := by
  intro cenv A' E' i n t u s₂ m₂ hs hn h1 h2 hc
  refine wpAny_BinOp (wpAny_mono (ha cenv A' E' i n t u s₂ m₂ hs hn h1 h2 hc) (fun x s3 r => ?_) fun _ _ e => e)
  obtain ⟨⟨t3, rfl⟩, k3⟩ := r
  refine wpAny_mono (hb cenv A' E' i n t u s3 m₂ hs (by obtain ⟨h, tk, rfl, kk⟩ := k3; exact hn.keeps kk) h1 h2 hc) (fun y s4 r => ?_) fun _ _ e => e
  obtain ⟨⟨t4, rfl⟩, k4⟩ := r
  exact PySem.P.add_int ⟨⟨_, rfl⟩, keeps_then k3 (keeps_then k4 (keeps_tok _ _))⟩
theorem qe_mul {C : Int → Int → Prop} {a b : Expr} {f g : Int → Int → Int} (ha : QE2 prog w scope xa xb a C f) (hb : QE2 prog w scope xa xb b C g) (hm : ∀ i n, C i n → MulOk (f i n) (g i n)) : QE2 prog w scope xa xb (.BinOp a .Mult b pos) C (fun i n => f i n * g i n) := by
  intro cenv A' E' i n t u s₂ m₂ hs hn h1 h2 hc
  refine wpAny_BinOp (wpAny_mono (ha cenv A' E' i n t u s₂ m₂ hs hn h1 h2 hc) (fun x s3 r => ?_) fun _ _ e => e)
  obtain ⟨⟨t3, rfl⟩, k3⟩ := r
  refine wpAny_mono (hb cenv A' E' i n t u s3 m₂ hs (by obtain ⟨h, tk, rfl, kk⟩ := k3; exact hn.keeps kk) h1 h2 hc) (fun y s4 r => ?_) fun _ _ e => e
  obtain ⟨⟨t4, rfl⟩, k4⟩ := r
  exact PyProof.Rows.mul_int ⟨⟨_, rfl⟩, keeps_then k3 (keeps_then k4 (keeps_tok _ _))⟩ (hm i n hc).ok
end
section
variable {X : Cx} {pins : List (Addr × Obj)} {σ : L2.St} {H : Hp} {s : Shared}
/-- the generator g of ints, ready to be walked -/
def ReadyI (X : Cx) (pins : List (Addr × Obj)) (σ : L2.St) (H1 : Hp) (P : Addr) (n : Nat) (val : Nat → Int) (g : Addr) (s5 : Shared) : Prop :=
  ∃ (fp wr : List Addr) (G : Array GenState → Array GenState → Prop) (F : Nat → Value → Prop) (St : Nat → Shared → Prop),
    WalksS X.prog X.w X.A.in1 g fp wr G n F St ∧ St 0 s5 ∧ (∀ b ∈ fp, b < s5.heap.objs.size) ∧ (∀ i v, F i v → ∃ t, v = .int (val i) t) ∧
    ∀ s', Moved wr G s5 s' → ∃ H2, Tabbed P H1 H2 ∧ Inv X pins σ H2 s'
theorem passing_all (n : Nat) : passing (fun _ => true) n 0 = List.range n := GxR.passing_true n
theorem gen_enumI {c P : Addr} {elt e : Expr} {xa xb : Str} {pa pb pt p ipos gpos : Pos} {kt : Nat} {scope : Scope} {C : Int → Int → Prop} {f : Int → Int → Int} {ta : TA} {k : Nat} {Q' : Value → Shared → Prop} {R : List Int → Hp → Prop}
    (hr : Room k X.A) (TB : TabB X.base X.mg c P) (hcode : X.env.code = .ref c) (S : GenS2 X.env scope xa xb) (hg : Gl X "enumerate") (hm : X.mg "enumerate" = none) (ha : PA X [e] ta) (hel : QE2 X.prog X.w scope xa xb elt C f)
    (hs : ∀ v, genFold (.Call (.Name "enumerate" p) [e] [] ipos) X.env v = pure v) (hse : starEach [e] X.env = [(false, eval e X.env)]) (I : Inv X pins σ H s)
    (h : ta σ H fun vs H1 => ∃ a ns, vs = [V.ref a] ∧ SqT X.K H1 a (ns.map V.int) ∧ TabG H1 P ∧ (∀ (i : Nat) (n : Int), ns[i]? = some n → C (i : Int) n) ∧ R ns H1)
    (hQ : ∀ (ns : List Int) (H1 : Hp) (g : Addr) (s5 : Shared), R ns H1 → ReadyI X pins σ H1 P ns.length (fun i => f (i : Int) (ns.getD i 0)) g s5 → Q' (.ref g) s5) :
    wpAny (model X.prog X.w) X.A (eval (.GeneratorExp elt [⟨.Tuple [.Name xa pa, .Name xb pb] kt pt, .Call (.Name "enumerate" p) [e] [] ipos, [], 0⟩] scope gpos) X.env) Q' X.xe s := by
  refine wpAny_GeneratorExp_walksQT hr.hd S.co (closure_ok S.free) S.cell S.dot S.la S.lb S.ne S.kind (by have := hr.dp; omega) ?_ hs
  refine wpAny_Call_Name_kw (ld_blt I hg hm boot_enumerate (PyProof.Rows.callWith_type1 (thn (ha.run ipos pins s σ H _ I h) fun us s0 ⟨vs, H1, I0, r1, q1⟩ => ?_) hse rfl))
  obtain ⟨a, ns, ex, hq, ⟨ps, hP, ht⟩, hC, q1⟩ := q1
  subst ex
  cases r1 with
  | cons r rr =>
  cases rr
  cases r
  obtain ⟨its, rv, p', hz⟩ := I0.tuple hq
  have p2 : s0.heap.IsTuple a its.toArray := p'
  refine dd_call_enumT p2 fun h1 he hit hsz1 hk1 => wpAny_pyIter_enum he ?_
  have I1 : Inv X pins σ H1 { s0 with heap := h1 } := I0.kept (t' := s0.toks) hk1
  have hPs0 : s0.heap.get? P = some { cls := .none, data := .fields ps } := I0.hok P _ hP
  have hPs : h1.get? P = some { cls := .none, data := .fields ps } := hk1 _ _ hPs0
  have hPlt : P < s0.heap.objs.size := Heap.lt_size hPs0
  have p2' : h1.IsTuple a its.toArray := let ⟨o, q, r⟩ := p2; ⟨o, hk1 _ _ q, r⟩
  have halt : a < s0.heap.objs.size := let ⟨o, q, r⟩ := p2; Heap.lt_size q
  have cd : PySem.W.CodeHd h1 c P := TB.code.keeps fun b u e => hk1 _ _ (I0.bk b u e)
  have lim1 : h1.NoLimit := I1.nolimit
  have hcl0 : cStatics < s0.heap.objs.size := let ⟨_, hns, _⟩ := I0.nolimit; hns.lt
  have hlen : ns.length = its.length := by
    have := rv.length
    simpa using this
  have cont : ∀ (code : Value) (h3 : Heap) (tk : Nat) (ps' : Array Value), Heap.ExtBut P h1 h3 → h1.objs.size ≤ h3.objs.size → h3.get? P = some { cls := .none, data := .fields ps' } → (∃ more, ps' = ps ++ more) → TriplesOk ps'.toList →
      wpAny (model X.prog X.w) X.A (builtinsFor X.env.globals X.env.builtins) (fun bi s₄ =>
        ∃ Ia fp wr n₀ Pt St₀ Mid pz F, Value.ref (s0.heap.objs.size + 1) = .ref Ia ∧ (∀ A' : Around, A'.handled = none → WalksU X.prog X.w A' Ia fp wr n₀ Pt St₀ Mid) ∧ (∀ i vals, Pt i vals → ∃ va vb, vals = #[va, vb]) ∧ St₀ 0 s₄.heap ∧ (∀ b ∈ fp, b < s₄.heap.objs.size) ∧ s₄.heap.NoLimit ∧ cStatics ∉ wr ∧
          (∀ href : Heap, (∀ b o, s₄.heap.get? b = some o → href.get? b = some o) →
            QuietGenT X.prog X.w (genEnv scope (cloFrom X.env.cells scope.names []) s₄.heap.objs.size code bi X.env) xa xb [] elt (List.range s₄.heap.objs.size) wr Pt pz F href) ∧
          (∀ a h₅ tk gs, gs.bare = true → s₄.heap.objs.size < a → h₅.objs.size = a + 1 → (∀ b o, s₄.heap.get? b = some o → h₅.get? b = some o) →
            WalksS X.prog X.w X.A.in4 a (a :: s₄.heap.objs.size :: List.range s₄.heap.objs.size) (s₄.heap.objs.size :: wr) (GenOnlyQ s₄.gens.size) (passing pz n₀ 0).length
              (fun j y => ∃ i, (passing pz n₀ 0)[j]? = some i ∧ F i y) (GenAt X.prog X.w X.A.in4 a s₄.gens.size s₄.heap.objs.size (List.range s₄.heap.objs.size) wr pz n₀ F) →
            GenAt X.prog X.w X.A.in4 a s₄.gens.size s₄.heap.objs.size (List.range s₄.heap.objs.size) wr pz n₀ F 0 { s₄ with gens := s₄.gens.push gs, toks := tk, heap := h₅ } →
            Q' (.ref a) { s₄ with gens := s₄.gens.push gs, toks := tk, heap := h₅ })) X.xe { s0 with heap := h3, toks := tk } := by
    intro code h3 tk ps' hx hsz hP3 hmore ht3
    obtain ⟨bm, ob, e1, e2, e3, e4, e5, e6, e7, e8⟩ := TB.bm
    have hcP : cStatics ≠ P := fun e => by
      obtain ⟨_, hns, _⟩ := I0.nolimit
      obtain ⟨o', es, ep, ho, hd, _⟩ := hns
      rw [e, hPs0] at ho
      cases ho
      cases hd
    have keep3 : ∀ b u, b ≠ P → s0.heap.get? b = some u → h3.get? b = some u := fun b u hb e => hx b u hb (hk1 _ _ e)
    refine wpAny_builtinsFor (m := X.mg) (by rw [I0.ok.glob]; exact ((I0.mod.glob.keeps I0.bk).keeps hk1).extBut hx TB.gP) e1 e2 (keep3 _ _ e4 (I0.bk _ _ e5)) e6 e7 e8 ?_
    have hne : a ≠ s0.heap.objs.size := Nat.ne_of_lt halt
    have WT := fun (A' : Around) (hA : A'.handled = none) => (WalksT.enumerateD (A := A') (dd_drawsT (prog := X.prog) (w := X.w) (A := A'.in1) hA s0.heap.objs.size a hne its.toArray) (s0.heap.objs.size + 1) (Nat.succ_ne_self _) (fun hm => by
      rcases List.mem_cons.mp hm with z | z
      · exact Nat.succ_ne_self _ z
      · have z := List.mem_singleton.mp z
        have z2 : @Eq Nat (s0.heap.objs.size + 1) a := z
        have h2 : @LT.lt Nat _ a s0.heap.objs.size := halt
        omega) (List.mem_cons_self)).toU
    refine ⟨s0.heap.objs.size + 1, _, _, its.toArray.size, _, _, _, (fun _ => true), (fun i y => i < ns.length ∧ ∃ t, y = .int (f (i : Int) (ns.getD i 0)) t), rfl, WT, ?_, ?_, ?_, lim1.extBut hx hcP, ?_, ?_, ?_⟩
    · rintro i vals ⟨t, x, _, rfl⟩
      exact ⟨_, _, rfl⟩
    · have nP1 : s0.heap.objs.size + 1 ≠ P := by
        have h2 : @LT.lt Nat _ P s0.heap.objs.size := hPlt
        intro z
        have z2 : @Eq Nat (s0.heap.objs.size + 1) P := z
        omega
      have nP2 : s0.heap.objs.size ≠ P := by
        have h2 : @LT.lt Nat _ P s0.heap.objs.size := hPlt
        intro z
        have z2 : @Eq Nat s0.heap.objs.size P := z
        omega
      have nP3 : a ≠ P := fun z => by
        obtain ⟨o, q, c1, _⟩ := p2
        rw [z, hPs0] at q
        cases q
        cases c1
      refine ⟨⟨.none, ?_⟩, ?_, ?_⟩
      · exact hx _ _ nP1 he
      · obtain ⟨o, q, r⟩ := hit
        exact ⟨o, hx _ _ nP2 q, r⟩
      · obtain ⟨o, q, r⟩ := p2'
        exact ⟨o, hx _ _ nP3 q, r⟩
    · intro b hb
      have hsz' : (s0.heap.objs.size + 2 : Nat) ≤ h3.objs.size := by rw [← hsz1]; exact hsz
      have ha' : @LT.lt Nat _ a s0.heap.objs.size := halt
      show @LT.lt Nat _ b h3.objs.size
      have hb' : b = s0.heap.objs.size + 1 ∨ b = s0.heap.objs.size ∨ b = a := by simpa using hb
      rcases hb' with z | z | z
      · have z : @Eq Nat b (s0.heap.objs.size + 1) := z
        omega
      · have z : @Eq Nat b s0.heap.objs.size := z
        omega
      · rw [z]; omega
    · intro z
      have z : @Eq Nat cStatics (s0.heap.objs.size + 1) ∨ @Eq Nat cStatics s0.heap.objs.size := by simpa using z
      have h2 : @LT.lt Nat _ cStatics s0.heap.objs.size := hcl0
      omega
    · intro href hhref
      refine ⟨fun A' E' i va vb s₂ m₂ hA hPv hn hma hmb hk => ?_, fun A' E' i va vb s₂ m₂ hA hPv hp hn hma hmb hk => ?_⟩
      · simp only [List.forIn_nil]
        exact wpAny_pure ⟨rfl, keeps_refl _⟩
      · obtain ⟨t, x, hx1, hx2⟩ := hPv
        have e1 : va = .int (i : Int) t := by
          have z := congrArg (fun z : Array Value => z[0]?) hx2
          simpa using z
        have e2 : vb = x := by
          have z := congrArg (fun z : Array Value => z[1]?) hx2
          simpa using z
        subst e1 e2
        have hx1 : its.toArray[i]? = some vb := hx1
        have hi : i < its.length := by
          have := (Array.getElem?_eq_some_iff.mp hx1).1
          simpa using this
        have hi2 : i < ns.length := by rw [hlen]; exact hi
        have hn1 : (ns.map V.int)[i]? = some (.int ns[i]) := by simp [hi2]
        obtain ⟨u, hu, ru⟩ := rv.get hn1
        have e3 : vb = u := by
          have z : its.toArray[i]? = some u := by simpa using hu
          rw [hx1] at z
          exact Option.some.inj z
        obtain ⟨tt, rfl⟩ := ru
        subst e3
        have hg : ns.getD i 0 = ns[i] := by simp [List.getD, hi2]
        exact wpAny_mono (hel _ A' E' (i : Int) ns[i] t tt s₂ m₂ rfl hn hma hmb (hC i _ (List.getElem?_eq_getElem hi2))) (fun y s3 r => ⟨⟨hi2, by rw [hg]; exact r.1⟩, r.2⟩) fun _ _ e => e
    · intro g h5 tk5 gs hgb hag hsz5 hk5 W5 hat
      simp only [passing_all, List.length_range] at W5
      have hsn : its.toArray.size = ns.length := by simp [hlen]
      rw [hsn] at W5 hat
      refine hQ ns H1 g _ q1 ⟨_, _, _, _, _, W5.in4_1, hat, ?_, ?_, fun s' hm => ?_⟩
      · intro b hb
        have hag : @LT.lt Nat _ h3.objs.size g := hag
        show @LT.lt Nat _ b h5.objs.size
        rw [hsz5]
        have hb' : b = g ∨ b = h3.objs.size ∨ b < h3.objs.size := by simpa using hb
        have gg : @LT.lt Nat _ g (g + 1) := Nat.lt_succ_self g
        rcases hb' with z | z | z
        · rw [z]; exact gg
        · rw [z]; exact Nat.lt_trans hag gg
        · exact Nat.lt_trans (Nat.lt_trans z hag) gg
      · rintro i v ⟨j, hj, hF, t, rfl⟩
        obtain ⟨hjl, ej⟩ := List.getElem?_eq_some_iff.mp hj
        rw [List.getElem_range] at ej
        subst ej
        exact ⟨t, rfl⟩
      · obtain ⟨more, em⟩ := hmore
        have nwr : ∀ b u, s0.heap.get? b = some u → b ∉ h3.objs.size :: [s0.heap.objs.size + 1, s0.heap.objs.size] := fun b u e hb => by
          have hl : @LT.lt Nat _ b s0.heap.objs.size := Heap.lt_size e
          have hsz' : (s0.heap.objs.size + 2 : Nat) ≤ h3.objs.size := by rw [← hsz1]; exact hsz
          have hb' : @Eq Nat b h3.objs.size ∨ @Eq Nat b (s0.heap.objs.size + 1) ∨ @Eq Nat b s0.heap.objs.size := by simpa using hb
          have hsz'' : @LE.le Nat _ (s0.heap.objs.size + 2) h3.objs.size := hsz'
          omega
        have J := inv_tab (more := more) (h' := s'.heap) (g' := s'.gens) (d' := s'.drawn) (t' := s'.toks) I0 hP (fun b u hb e => hm.heap b u (nwr b u e) (hk5 b u (keep3 b u hb e)))
          (by rw [← em]; exact hm.heap P _ (nwr P _ hPs0) (hk5 P _ hP3)) (AllBare.movedS (I0.bare.push hgb) hm)
        rw [sh_eta s0 s' hm.os] at J
        refine ⟨upd H1 P (.tbl (ps ++ more)), ⟨⟨ps ++ more, upd_same, by rw [← em]; exact ht3⟩, fun b hb => upd_ne hb⟩, J⟩
  refine ⟨lim1, ?_⟩
  cases hf : codeAmong gpos ps.toList with
  | none =>
    refine wpAny_genexprCodeX hcode (cd.code hPs ht) (cd.tab hPs) hf fun c' h' tk hx hge hlt hco' _ htab' _ => ?_
    obtain ⟨o1, vs, f1, tf, fl, tg, inF, tx, tt, op, _, _, _, _, _, _, _, _, _, htr, _⟩ := hco'
    exact cont _ h' tk _ hx (Nat.le_trans hge (Nat.le_of_lt hlt)) htab'.2 ⟨_, rfl⟩ htr
  | some cv =>
    refine wpAny_genexprCode_hit hcode (cd.code hPs ht) hf ?_
    exact cont cv h1 s0.toks ps (Heap.ExtBut.refl _ _) (Nat.le_refl _) hPs ⟨#[], by simp⟩ ht
/-- sum(elt for i, n in enumerate(tuple of ints)) -/
def sumF (f : Int → Int → Int) (ns : List Int) : Int := preSum (fun i => f (i : Int) (ns.getD i 0)) ns.length
def dSumEnum (P : Addr) (C : Int → Int → Prop) (f : Int → Int → Int) (t : DA) : DE := fun δ M R => t δ M fun ds M1 => match ds with
  | [.tup xs] => M1 P = some .tbl ∧ ∃ ns : List Int, xs = ns.map D.int ∧ (∀ (i : Nat) (n : Int), ns[i]? = some n → C (i : Int) n) ∧
      (∀ j, j < ns.length → InLong (f (j : Int) (ns.getD j 0)) ∧ InLong (preSum (fun i => f (i : Int) (ns.getD i 0)) (j + 1))) ∧ R (.int (sumF f ns)) M1
  | _ => False
theorem pd_sumEnum {c P : Addr} {elt e : Expr} {xa xb : Str} {pa pb pt p sp pos ipos gpos : Pos} {kt : Nat} {scope : Scope} {C : Int → Int → Prop} {f : Int → Int → Int} {t : DA} {k : Nat}
    (hr : Room k X.A) (TB : TabB X.base X.mg c P) (hcode : X.env.code = .ref c) (S : GenS2 X.env scope xa xb) (hgs : Gl X "sum") (hms : X.mg "sum" = none) (hg : Gl X "enumerate") (hm : X.mg "enumerate" = none) (ha : PDA X [e] t) (hel : QE2 X.prog X.w scope xa xb elt C f)
    (hs : ∀ v, genFold (.Call (.Name "enumerate" p) [e] [] ipos) X.env v = pure v := by intro _; rfl) (hse : starEach [e] X.env = [(false, eval e X.env)] := by rfl)
    (he : starEach [.GeneratorExp elt [⟨.Tuple [.Name xa pa, .Name xb pb] kt pt, .Call (.Name "enumerate" p) [e] [] ipos, [], 0⟩] scope gpos] X.env = (false, eval (.GeneratorExp elt [⟨.Tuple [.Name xa pa, .Name xb pb] kt pt, .Call (.Name "enumerate" p) [e] [] ipos, [], 0⟩] scope gpos) X.env) :: starEach [] X.env := by rfl) :
    PD X (.Call (.Name "sum" sp) [.GeneratorExp elt [⟨.Tuple [.Name xa pa, .Name xb pb] kt pt, .Call (.Name "enumerate" p) [e] [] ipos, [], 0⟩] scope gpos] [] pos) (dSumEnum P C f t) := by
  refine ⟨⟨fun pins s σ H Q I h => ?_⟩⟩
  obtain ⟨δ, M, R, S0, m, h, kk⟩ := h
  refine wpAny_Call_Name_kw (ld_blt I hgs hms (by decide +kernel : bootBuiltins "sum" = some (.builtin "sum")) ?_)
  refine PyProof.Rows.callWith_builtin1 ?_ he (by rfl)
  rw [he]
  show wpAny _ _ (spliced ((false, eval (.GeneratorExp elt [⟨.Tuple [.Name xa pa, .Name xb pb] kt pt, .Call (.Name "enumerate" p) [e] [] ipos, [], 0⟩] scope gpos) X.env) :: backTo pos (starEach [] X.env))) _ _ s
  refine Calls.spliced_cons (gen_enumI (R := fun ns H1 => (∀ j, j < ns.length → InLong (f (j : Int) (ns.getD j 0)) ∧ InLong (preSum (fun i => f (i : Int) (ns.getD i 0)) (j + 1))) ∧ ∀ H2, Tabbed P H1 H2 → Q (.int (sumF f ns)) H2) hr TB hcode S hg hm ha.pa hel hs hse I ?_ fun ns H1 g s5 hR hG => ?_)
  · refine ⟨δ, M, _, S0, m, h, fun ds M1 vs H1 h1 e1 r1 m1 => ?_⟩
    split at h1
    · obtain ⟨tb, ns, rfl, hC, hin, hQ⟩ := h1
      obtain ⟨v, ws, rfl, q, t⟩ := r1
      cases t
      obtain ⟨a, vs, rfl, hs, rs⟩ := q
      cases rs.ints
      refine ⟨a, ns, rfl, hs, tab_of m1 tb, hC, hin, fun H2 ht => ?_⟩
      obtain ⟨m2, e2⟩ := rm_tab m1 tb ht
      exact kk _ M1 _ H2 hQ (e1.trans e2) rfl m2
    · exact h1.elim
  · obtain ⟨hin, hR⟩ := hR
    obtain ⟨fp, wr, G, F, St, W, hst, hfp, hval, hI⟩ := hG
    refine Calls.spliced_nil ?_
    refine call_sum_walkS (W.self 0 _ _ _ hst ⟨g, fp, wr, G, ns.length, F, St, _, rfl, W, hst, hfp, hval, hin, fun s' t' hmv => ?_⟩)
    obtain ⟨H2, hT, J⟩ := hI s' hmv
    exact ⟨.int _, H2, J, ⟨t', rfl⟩, hR H2 hT⟩
end
/-! ### a def whose code object is told -/
def BodyC (W : Wd) (k : Nat) (N : List Str) (qual : Str) (sc : Scope) (body : List Stmt) (cdv : Value) (t : DS) : Prop :=
  ∀ (f : Addr) (A : Around) (outer : List Env) (s : Shared) (H : Hp) (E : XK), In (BX W N qual sc f cdv A outer s H E) W k → PDSs (BX W N qual sc f cdv A outer s H E) body t
theorem Body.c {W : Wd} {k : Nat} {N : List Str} {qual : Str} {sc : Scope} {body : List Stmt} {cdv : Value} {t : DS} (h : Body W k N qual sc body t) : BodyC W k N qual sc body cdv t := fun f A outer s H E hi => h f cdv A outer s H E hi
end DD
namespace DD
open PySem PySem.Spec PyProof.Rows L2
section
variable {X : Cx} {W : Wd} {k : Nat}
theorem In.tab {c P : Addr} (hi : In X W k) (TB : GxR.TabB W.base W.mg c P) : GxR.TabB X.base X.mg c P := by
  rw [hi.base, hi.mg]; exact TB
theorem pd_makeS {x : Str} {C : Addr} {ns ps : List Str} {sp : DSp} {e : Expr} {es : List Expr} {apos pos : Pos} {t : DA} (hk : 0 < k) (F : CFn W (k - 1) x C ns ps sp) (hi : In X W k) (hg : Gl X x) (ha : PDA X (e :: es) t) (hret : ∀ xs M R, sp xs M R → sp xs M fun d M2 => d = .non ∧ R d M2) (hdb : (x == ("__debug__" : Str)) = false := by decide)
    (he : starEach (e :: es) X.env = (false, eval e X.env) :: starEach es X.env := by rfl) (hpl : (backTo pos (starEach es X.env)).any (·.1) = false := by rfl) : PD X (.Call (.Name x apos) (e :: es) [] pos) (dMake C ns sp t) := by
  obtain ⟨j, rfl⟩ : ∃ j, k = j + 1 := ⟨k - 1, by omega⟩
  exact pd_make F hi hg ha hret hdb he hpl
end
/-! ### defs as the head tells them -/
abbrev FnP (K : PySem.W.Frag) (x qual : Str) (st : Stmt) (f : Addr) (fd : FuncData) : Prop := FunD K x qual (defArgs st) (defBody st) (defScope st) [] [] f fd
theorem dfn_mkD {W : Wd} {k : Nat} {x qual : Str} {st : Stmt} {f : Addr} {fd : FuncData} {N ps : List Str} {sp : DSp} (F : FnP W.K x qual st f fd) (S : FnScope N ps (defScope st)) (bd : Binds W.K fd ps [])
    (len : ∀ ds M R, sp ds M R → ds.length = ps.length) (h : ∃ t, BodyC W k N qual (defScope st) (defBody st) fd.code t ∧ ∀ ds M R, sp ds M R → t (endsF R) (startD N ds) M) : DFn W (k + 1) f fd ps sp := by
  obtain ⟨t, hb, hr⟩ := h
  have kp := F.kp
  obtain ⟨oc, od, dV, kV, doc, pm, an, cdv, ct, osl, rfl, lk, hcd, _, _⟩ := F.ex
  refine ⟨fn_of lk hcd S (fun vs H Q E q => ?_) (fun A outer s H vs Q E hroom q => ?_), len, bd, kp⟩
  · obtain ⟨ds, M, R, r, m, h, kk⟩ := q
    rw [← r.length]
    exact len ds M R h
  · refine ⟨_, PSs.nox (hb f A outer s H E ⟨rfl, rfl, rfl, rfl, rfl, hroom⟩).ps, ?_⟩
    obtain ⟨ds, M, R, r, m, h, kk⟩ := q
    refine ⟨_, M, endsF R, start_sl r, m, hr ds M R h, ⟨?_, ?_, ?_, ?_⟩⟩
    · rintro δ M' σ H' ⟨M0, hs, q⟩ e S' m'
      exact kk .non M0 .non H' q e rfl (rm_sub m' hs)
    · intro δ M' σ H' q
      exact q.elim
    · intro δ M' σ H' q
      exact q.elim
    · rintro d M' v H' ⟨M0, hs, q⟩ e rv m'
      exact kk d M0 v H' q e rv (rm_sub m' hs)
/-! ### the end of a law -/
/-- the promise of law: the script comes, True goes -/
def spLaw (tabs : List Addr) : DSp := fun ds M R => ∃ (d : D) (cells : List Int), ds = [d] ∧ itemsD M d = some (cells.map D.int) ∧ isSc M d ∧ cells.length ≤ 63 ∧ (∀ z ∈ cells, Builtin.Int.intBits z ≤ 1048576) ∧ (∀ p ∈ tabs, M p = some .tbl) ∧ ∀ M', R (.bl true) M'
where isSc (M : Mem) : D → Prop
  | .rol _ => True
  | .ref a => ∃ xs, M a = some (.lst xs)
  | _ => False
theorem spLaw_ok {K : PySem.W.Frag} {H : Hp} {a : Addr} {ns : List Int} {tabs : List Addr} (hl : ns.length ≤ 63) (hb : ∀ z ∈ ns, Builtin.Int.intBits z ≤ 1048576) (hT : ∀ p ∈ tabs, H p = some (.tbl #[])) (hS : SqL K H a (ns.map V.int)) :
    liftSp K (spLaw tabs) [.ref a] H (fun v _ => v = .bl true) fun _ _ _ => False := by
  have ro : ∀ b, b ∈ tabs → RO K H b .tbl := fun b hb => ⟨#[], hT b hb, trivial⟩
  rcases hS with (hS | ⟨u, hS⟩) | hS
  · have na : a ∉ tabs := fun z => by
      have := hT a z
      rw [hS] at this
      cases this
    refine ⟨[.ref a], fun b => if b = a then some (.lst (ns.map D.int)) else if b ∈ tabs then some .tbl else none, fun d _ => d = .bl true, .cons rfl .nil, fun b o h => ?_, ⟨.ref a, ns, rfl, ?_, ⟨_, if_pos rfl⟩, hl, hb, fun p hp => ?_, fun _ => rfl⟩, ?_⟩
    · by_cases z : b = a
      · simp only [if_pos z] at h
        cases h
        rw [z]
        exact ⟨_, hS, RVs.of_ints ns⟩
      · simp only [if_neg z] at h
        by_cases z2 : b ∈ tabs
        · rw [if_pos z2] at h
          cases h
          exact ro b z2
        · rw [if_neg z2] at h
          cases h
    · show (match (if a = a then some (MO.lst (ns.map D.int)) else _) with
        | some (.lst xs) => some xs
        | _ => none) = _
      rw [if_pos rfl]
    · have z : p ≠ a := fun e => na (e ▸ hp)
      show (if p = a then _ else if p ∈ tabs then _ else _) = _
      rw [if_neg z, if_pos hp]
    · rintro d M' v H' rfl e rv m'
      exact rv
  all_goals
    have hR : RoL K H a (ns.map V.int) := by
      first
        | exact .inl ⟨u, hS⟩
        | exact .inr hS
    refine ⟨[.rol (ns.map D.int)], fun b => if b ∈ tabs then some .tbl else none, fun d _ => d = .bl true, .cons ⟨a, _, rfl, hR, RVs.of_ints ns⟩ .nil, fun b o h => ?_, ⟨.rol (ns.map D.int), ns, rfl, rfl, trivial, hl, hb, fun p hp => if_pos hp, fun _ => rfl⟩, ?_⟩
    · by_cases z2 : b ∈ tabs
      · simp only [if_pos z2] at h
        cases h
        exact ro b z2
      · simp only [if_neg z2] at h
        cases h
    · rintro d M' v H' rfl e rv m'
      exact rv
/-- what the law's text gives: from the head's facts, the def of law -/
theorem lawAt {l : PySem.W.OpenLaw} {w : World} {K : PySem.W.Frag} {mg : Str → Option Value} {fa : Addr} {h : Heap} {k : Nat} {fd : FuncData} {x : Str} {fs : List He.Fa} {fn : List He.DefD} {tf : List He.Defn} {ex : PySem.W.Frag → Bool}
    (Y : He.SaysX fs fn [] tf ex w h K) (hKin : K.In h) (hb : ∀ (s : Shared) (u : Value), BindsTo s fd ⟨[u], []⟩ [(x, u)])
    (F : ∀ base : Heap, K.In base → base.Ns mainGlobals mg → (∀ p ∈ tf, GxR.TabB base mg (He.cT K p).1 (He.cT K p).2) → DFn ⟨l.prog, w, K, mg, base⟩ k fa fd [x] (spLaw (tf.map fun p => (He.cT K p).2))) :
    LamX.LawAtS l w K CX0 k 63 x mg fa h := by
  refine ⟨fd, tf.map (He.cT K), liftSp K (spLaw (tf.map fun p => (He.cT K p).2)), fun p hp => ?_, fun p hp => ?_, fun p hp => ?_, hb, fun H a ns hl hbits hT hS => ?_, fun base hKb hN hTB => ?_⟩
  · obtain ⟨q, hq, rfl⟩ := List.mem_map.mp hp
    exact Y.empty q hq
  · obtain ⟨q, hq, rfl⟩ := List.mem_map.mp hp
    exact Y.out q hq
  · obtain ⟨q, hq, rfl⟩ := List.mem_map.mp hp
    exact PySem.W.codeHd_of_K hKin (Y.hd q hq)
  · refine spLaw_ok hl hbits (fun p hp => ?_) hS
    obtain ⟨q, hq, rfl⟩ := List.mem_map.mp hp
    exact hT _ (List.mem_map_of_mem hq)
  · have z := F base hKb hN fun p hp => have q := hTB _ (List.mem_map_of_mem hp); ⟨q.code, q.bm, q.gP⟩
    exact z.ok
end DD
namespace DD
open PySem PySem.Spec PyProof.Rows L2
/-! ### readings, unfolded by simp -/
section
variable {δ : DSt} {M : Mem} {R : DK} {RT : Bool → Mem → Prop} {RA : List D → Mem → Prop} {E : DEnds}
@[simp] theorem eq_dVar {i : Nat} : dVar i δ M R = (match δ[i]? with
  | some (some d) => R d M
  | _ => False) := propext Iff.rfl
@[simp] theorem eq_dC {d : D} : dC d δ M R = R d M := propext Iff.rfl
@[simp] theorem eq_dBin {g : D2} {ta tb : DE} : dBin g ta tb δ M R = ta δ M fun x M1 => tb δ M1 fun y M2 => g x y M2 R := propext Iff.rfl
@[simp] theorem eq_dUn {g : D1} {ta : DE} : dUn g ta δ M R = ta δ M fun x M1 => g x M1 R := propext Iff.rfl
@[simp] theorem eq_dTest {t : DE} : dTest t δ M RT = t δ M fun d M1 => (match d with
  | .bl b => RT b M1
  | _ => False) := propext Iff.rfl
@[simp] theorem eq_gI {C : Int → Int → Prop} {f : Int → Int → D} {i j : Int} : gI C f (.int i) (.int j) M R = (C i j ∧ R (f i j) M) := propext Iff.rfl
@[simp] theorem eq_gI0 {f : Int → Int → D} {i j : Int} : gI0 f (.int i) (.int j) M R = R (f i j) M := propext Iff.rfl
@[simp] theorem eq_gAddii {i j : Int} : gAdd (.int i) (.int j) M R = R (.int (i + j)) M := propext Iff.rfl
@[simp] theorem eq_gAddtt {xs ys : List D} : gAdd (.tup xs) (.tup ys) M R = (xs.length + ys.length ≤ sizeLine ∧ R (.tup (xs ++ ys)) M) := propext Iff.rfl
@[simp] theorem eq_gAddll {a b : Addr} : gAdd (.ref a) (.ref b) M R = (match M a, M b with
    | some (.lst xs), some (.lst ys) => xs.length + ys.length ≤ sizeLine ∧ ∀ p, M p = none → R (.ref p) (updM M p (.lst (xs ++ ys)))
    | _, _ => False) := propext Iff.rfl
@[simp] theorem eq_gNeg {i : Int} : gNeg (.int i) M R = R (.int (-i)) M := propext Iff.rfl
@[simp] theorem eq_gEqii {i j : Int} : gEq (.int i) (.int j) M R = R (.bl (decide (i = j))) M := by
  show (true = true ∧ true = true ∧ R (.bl (PyData.eqv (.int i) (.int j))) M) = _
  have : PyData.eqv (.int i) (.int j) = decide (i = j) := by
    unfold PyData.eqv
    exact Bool.eq_iff_iff.mpr (by simp)
  rw [this]; simp
@[simp] theorem eq_gNeii {i j : Int} : gNe (.int i) (.int j) M R = R (.bl (!decide (i = j))) M := by
  show (true = true ∧ true = true ∧ R (.bl (!PyData.eqv (.int i) (.int j))) M) = _
  have : PyData.eqv (.int i) (.int j) = decide (i = j) := by
    unfold PyData.eqv
    exact Bool.eq_iff_iff.mpr (by simp)
  rw [this]; simp
@[simp] theorem eq_gIsN {d : D} : gIsN d .non M R = R (.bl (isNon d)) M := propext Iff.rfl
@[simp] theorem eq_gNotN {d : D} : gNotN d .non M R = R (.bl (!isNon d)) M := propext Iff.rfl
@[simp] theorem eq_aNil : aNil δ M RA = RA [] M := propext Iff.rfl
@[simp] theorem eq_aCons {ta : DE} {tr : DA} : aCons ta tr δ M RA = ta δ M fun x M1 => tr δ M1 fun xs M2 => RA (x :: xs) M2 := propext Iff.rfl
@[simp] theorem eq_dTup {t : DA} : dTup t δ M R = t δ M fun xs M1 => xs.length ≤ sizeLine ∧ R (.tup xs) M1 := propext Iff.rfl
@[simp] theorem eq_dLst {t : DA} : dLst t δ M R = t δ M fun xs M1 => xs.length ≤ sizeLine ∧ ∀ p, M1 p = none → R (.ref p) (updM M1 p (.lst xs)) := propext Iff.rfl
@[simp] theorem eq_gIxt {xs : List D} {i : Int} : gIx (.tup xs) (.int i) M R = (match atI xs i with
    | some d => R d M
    | none => False) := propext Iff.rfl
@[simp] theorem eq_gIxr {xs : List D} {i : Int} : gIx (.rol xs) (.int i) M R = (match atI xs i with
    | some d => R d M
    | none => False) := propext Iff.rfl
@[simp] theorem eq_gIxl {a : Addr} {i : Int} : gIx (.ref a) (.int i) M R = (match M a with
    | some (.lst xs) => (match atI xs i with
      | some d => R d M
      | none => False)
    | _ => False) := propext Iff.rfl
@[simp] theorem eq_gIxs {z : Str} {i : Int} : gIx (.str z) (.int i) M R = (match atI z.cps.toList i with
    | some c => z.length ≤ sizeLine ∧ R (.str ⟨#[c]⟩) M
    | none => False) := propext Iff.rfl
@[simp] theorem eq_dCB {g : DC1} {t : DA} : dCB g t δ M R = t δ M fun xs M1 => g xs M1 R := propext Iff.rfl
@[simp] theorem eq_gLent {xs : List D} : gLen [.tup xs] M R = R (.int xs.length) M := propext Iff.rfl
@[simp] theorem eq_gLenr {xs : List D} : gLen [.rol xs] M R = R (.int xs.length) M := propext Iff.rfl
@[simp] theorem eq_gLenl {a : Addr} : gLen [.ref a] M R = (match M a with
    | some (.lst xs) => R (.int xs.length) M
    | _ => False) := by
  show (match (match M a with
      | some (.lst xs) => some xs
      | _ => none) with
    | some ys => R (.int (List.length ys)) M
    | none => False) = _
  cases M a with
  | none => rfl
  | some o => cases o <;> rfl
@[simp] theorem eq_gLens {z : Str} : gLen [.str z] M R = (z.length ≤ sizeLine ∧ R (.int z.length) M) := propext Iff.rfl
@[simp] theorem eq_gAbs {i : Int} : gAbs [.int i] M R = R (.int (if i < 0 then -i else i)) M := propext Iff.rfl
@[simp] theorem eq_gInti {i : Int} : gInt [.int i] M R = R (.int i) M := propext Iff.rfl
@[simp] theorem eq_gMax2 {i j : Int} : gMax2 [.int i, .int j] M R = R (.int (if j > i then j else i)) M := propext Iff.rfl
@[simp] theorem eq_gMin2 {i j : Int} : gMin2 [.int i, .int j] M R = R (.int (if j < i then j else i)) M := propext Iff.rfl
@[simp] theorem eq_gGcd {a b : Int} : gGcd [.int a, .int b] M R = R (.int ((Nat.gcd a.natAbs b.natAbs : Nat) : Int)) M := propext Iff.rfl
@[simp] theorem items_ref {a : Addr} : itemsD M (.ref a) = (match M a with
      | some (.lst xs) => some xs
      | _ => none) := rfl
@[simp] theorem items_tup {xs : List D} : itemsD M (.tup xs) = some xs := rfl
@[simp] theorem items_rol {xs : List D} : itemsD M (.rol xs) = some xs := rfl
@[simp] theorem eq_gTuple {d : D} : gTuple [d] M R = (match itemsD M d with
    | some ys => ∃ M0, Sub M0 M ∧ R (.tup ys) M0
    | none => False) := propext Iff.rfl
@[simp] theorem eq_gList {d : D} : gList [d] M R = (match itemsD M d with
    | some ys => ∀ p, M p = none → R (.ref p) (updM M p (.lst ys))
    | none => False) := propext Iff.rfl
@[simp] theorem eq_dBM {ty : D → Mem → Prop} {g : DM} {to : DE} {t : DA} : dBM ty g to t δ M R = to δ M fun x M1 => ty x M1 ∧ t δ M1 fun xs M2 => g x xs M2 R := propext Iff.rfl
@[simp] theorem eq_dBM0 {ty : D → Mem → Prop} {g : DM} {to : DE} : dBM0 ty g to δ M R = to δ M fun x M1 => ty x M1 ∧ g x [] M1 R := propext Iff.rfl
@[simp] theorem onLst_at {a : Addr} {Q : Addr → List D → Prop} : onLst (.ref a) M Q = (match M a with
    | some (.lst xs) => Q a xs
    | _ => False) := propext Iff.rfl
@[simp] theorem isLst_at {a : Addr} : isLst (.ref a) M = (match M a with
    | some (.lst _) => True
    | _ => False) := propext Iff.rfl
@[simp] theorem eq_gAppend {x y : D} : gAppend x [y] M R = onLst x M fun a xs => xs.length < sizeLine ∧ R .non (updM M a (.lst (xs ++ [y]))) := propext Iff.rfl
@[simp] theorem eq_gReverse {x : D} : gReverse x [] M R = onLst x M fun a xs => R .non (updM M a (.lst xs.reverse)) := propext Iff.rfl
@[simp] theorem eq_gPop {x : D} : gPop x [] M R = onLst x M fun a xs => (match xs[xs.length - 1]? with
    | some y => R y (updM M a (.lst xs.dropLast))
    | none => False) := propext Iff.rfl
@[simp] theorem eq_dTru {t : DE} : dTru t δ M RT = t δ M fun d M1 => (match truD M1 d with
  | some b => RT b M1
  | none => False) := propext Iff.rfl
@[simp] theorem eq_dAnd {t u : DT} : dAnd t u δ M RT = t δ M fun b M1 => if b = true then u δ M1 RT else RT false M1 := propext Iff.rfl
@[simp] theorem eq_dOr {t u : DT} : dOr t u δ M RT = t δ M fun b M1 => if b = true then RT true M1 else u δ M1 RT := propext Iff.rfl
@[simp] theorem eq_dNot {t : DT} : dNot t δ M RT = t δ M fun b M1 => RT (!b) M1 := propext Iff.rfl
@[simp] theorem eq_dIf {t : DT} {ta tb : DE} : dIf t ta tb δ M R = t δ M fun b M1 => if b = true then ta δ M1 R else tb δ M1 R := propext Iff.rfl
@[simp] theorem eq_dAndV {ta tb : DE} : dAndV ta tb δ M R = ta δ M fun d M1 => (match truD M1 d with
  | some true => tb δ M1 R
  | some false => R d M1
  | none => False) := propext Iff.rfl
@[simp] theorem eq_dOrV {ta tb : DE} : dOrV ta tb δ M R = ta δ M fun d M1 => (match truD M1 d with
  | some true => R d M1
  | some false => tb δ M1 R
  | none => False) := propext Iff.rfl
@[simp] theorem eq_dNotV {ta : DE} : dNotV ta δ M R = ta δ M fun d M1 => (match truD M1 d with
  | some b => R (.bl (!b)) M1
  | none => False) := propext Iff.rfl
@[simp] theorem eq_sNext : sNext E δ M = E.nx δ M := propext Iff.rfl
@[simp] theorem eq_sSeq {t u : DS} : sSeq t u E δ M = t { E with nx := u E } δ M := propext Iff.rfl
@[simp] theorem eq_sDrop {te : DE} : sDrop te E δ M = te δ M fun _ M1 => E.nx δ M1 := propext Iff.rfl
@[simp] theorem eq_sRet {te : DE} : sRet te E δ M = te δ M E.rt := propext Iff.rfl
@[simp] theorem eq_sRetN : sRetN E δ M = E.rt .non M := propext Iff.rfl
@[simp] theorem eq_sIf {c : DT} {t u : DS} : sIf c t u E δ M = c δ M fun b M1 => if b = true then t E δ M1 else u E δ M1 := propext Iff.rfl
@[simp] theorem eq_sBreak : sBreak E δ M = E.bk δ M := propext Iff.rfl
@[simp] theorem eq_sCont : sCont E δ M = E.ct δ M := propext Iff.rfl
@[simp] theorem eq_gNm {i : Nat} {d : D} {Q : DSt → Mem → Prop} : gNm i d δ M Q = Q (δ.set i (some d)) M := propext Iff.rfl
@[simp] theorem eq_gsNil {Q : DSt → Mem → Prop} : gsNil [] δ M Q = Q δ M := propext Iff.rfl
@[simp] theorem eq_gsCons {t : DG} {u : DGs} {d : D} {r : List D} {Q : DSt → Mem → Prop} : gsCons t u (d :: r) δ M Q = t d δ M fun δ' M' => u r δ' M' Q := propext Iff.rfl
@[simp] theorem eq_gUnp {n : Nat} {t : DGs} {d : D} {Q : DSt → Mem → Prop} : gUnp n t d δ M Q = (match itemsD M d with
  | some xs => xs.length = n ∧ t xs δ M Q
  | none => False) := propext Iff.rfl
@[simp] theorem eq_gSetL {x z : D} {i : Int} {Q : Mem → Prop} : gSetL x (.int i) z M Q = onLst x M fun a xs => (match ixN xs.length i with
    | some j => Q (updM M a (.lst (xs.set j z)))
    | none => False) := propext Iff.rfl
@[simp] theorem eq_gSubD {to ti : DE} {t : DSet} {d : D} {Q : DSt → Mem → Prop} : gSubD to ti t d δ M Q = to δ M fun o M1 => ti δ M1 fun i M2 => t o i d M2 fun M3 => Q δ M3 := propext Iff.rfl
@[simp] theorem eq_sAsg {te : DE} {g : DG} : sAsg te g E δ M = te δ M fun d M1 => g d δ M1 E.nx := propext Iff.rfl
@[simp] theorem eq_sPar {i j : Nat} {t : DA} : sPar i j t E δ M = t δ M fun ds M1 => (match ds with
  | [v, w] => E.nx ((δ.set i (some v)).set j (some w)) M1
  | _ => False) := propext Iff.rfl
@[simp] theorem eq_sAug {i : Nat} {te : DE} {g : DIp} : sAug i te g E δ M = (match δ[i]? with
  | some (some x) => te δ M fun y M1 => g x y M1 fun z M2 => E.nx (δ.set i (some z)) M2
  | _ => False) := propext Iff.rfl
@[simp] theorem eq_dCall {sp : DSp} {t : DA} : dCall sp t δ M R = t δ M fun ds M1 => sp ds M1 R := propext Iff.rfl
@[simp] theorem eq_dCallK {sp : DSp} {is : List Nat} {n : Nat} {t : DA} : dCallK sp is n t δ M R = t δ M fun ds M1 => ds.length = n ∧ sp (permL is ds) M1 R := propext Iff.rfl
@[simp] theorem onIns_at {C a : Addr} {ns : List Str} {Q : Addr → List D → Prop} : onIns C ns (.ref a) M Q = (match M a with
    | some (.ins C' ns' ds) => C' = C ∧ ns' = ns ∧ Q a ds
    | _ => False) := propext Iff.rfl
@[simp] theorem eq_dFld {C : Addr} {ns : List Str} {i : Nat} {t : DE} : dFld C ns i t δ M R = t δ M fun d M1 => onIns C ns d M1 fun _ ds => (match ds[i]? with
  | some v => R v M1
  | none => False) := propext Iff.rfl
@[simp] theorem eq_sFldD {C : Addr} {ns : List Str} {i : Nat} {to tv : DE} : sFldD C ns i to tv E δ M = tv δ M fun y M1 => to δ M1 fun x M2 => onIns C ns x M2 fun a ds => i ≤ ds.length ∧ E.nx δ (updM M2 a (.ins C ns (putD i y ds))) := propext Iff.rfl
@[simp] theorem eq_sFldAugD {C : Addr} {ns : List Str} {i : Nat} {to tv : DE} {g : DIp} : sFldAugD C ns i to tv g E δ M = to δ M fun x M1 => onIns C ns x M1 fun a ds => (match ds[i]? with
  | some v => tv δ M1 fun y M2 => g v y M2 fun z M3 => onIns C ns x M3 fun a ds => i ≤ ds.length ∧ E.nx δ (updM M3 a (.ins C ns (putD i z ds)))
  | none => False) := propext Iff.rfl
@[simp] theorem eq_dMeth {C : Addr} {ns : List Str} {sp : DSp} {to : DE} {t : DA} : dMeth C ns sp to t δ M R = to δ M fun x M1 => onIns C ns x M1 fun _ _ => t δ M1 fun xs M2 => sp (x :: xs) M2 R := propext Iff.rfl
@[simp] theorem eq_dMake {C : Addr} {ns : List Str} {sp : DSp} {t : DA} : dMake C ns sp t δ M R = t δ M fun xs M1 => ∀ p, M1 p = none → sp (.ref p :: xs) (updM M1 p (.ins C ns [])) fun _ M2 => R (.ref p) M2 := propext Iff.rfl
@[simp] theorem eq_rt {R' : DK} {d : D} : (endsF R').rt d M = ∃ M0, Sub M0 M ∧ R' d M0 := propext Iff.rfl
@[simp] theorem eq_nx {R' : DK} : (endsF R').nx δ M = ∃ M0, Sub M0 M ∧ R' .non M0 := propext Iff.rfl
@[simp] theorem eq_startD {N : List Str} {ds : List D} : startD N ds = ds.map some ++ List.replicate (N.length - ds.length) none := rfl
@[simp] theorem updM_at {a b : Addr} {o : MO} : updM M a o b = if b = a then some o else M b := rfl
end
/-! ### the values at places -/
theorem atI_nat {α : Type} {xs : List α} {i : Int} {d : α} (h0 : 0 ≤ i) (h : xs[i.toNat]? = some d) : atI xs i = some d := by
  unfold atI ixN
  have hi : i.toNat < xs.length := (List.getElem?_eq_some_iff.mp h).1
  rw [if_pos h0, if_pos (by omega)]
  exact h
theorem ixN_nat {n : Nat} {i : Int} (h0 : 0 ≤ i) (h : i < n) : ixN n i = some i.toNat := by
  unfold ixN
  rw [if_pos h0, if_pos h]
end DD
namespace DD
open PySem PySem.Spec PyProof.Rows L2
/-! ### comprehensions and loops that leave the memory alone -/
def LcIn (g : DG) (tt : DT) (te : DE) (vs : List Nat) (δ : DSt) (R : DK) (ds : List D) (ok : Mem → Prop) (M1 : Mem) : Prop := ∀ p, M1 p = none → ∃ W : Nat → List D → Mem → Prop, W 0 [] M1 ∧
  (∀ i acc M, W i acc M → ok (updM M p (.lst acc))) ∧
  (∀ i x acc M, ds[i]? = some x → W i acc M → acc.length < sizeLine ∧ g x (wipeD δ vs) (updM M p (.lst acc)) fun δ2 M2 => tt δ2 M2 fun b M3 =>
    if b = true then te δ2 M3 fun y M4 => ∃ M5, M4 = updM M5 p (.lst acc) ∧ W (i + 1) (acc ++ [y]) M5 else ∃ M5, M3 = updM M5 p (.lst acc) ∧ W (i + 1) acc M5) ∧
  ∀ acc M, W ds.length acc M → R (.ref p) (updM M p (.lst acc))
@[simp] theorem eq_dLc {di : DI} {g : DG} {tt : DT} {te : DE} {vs : List Nat} {δ : DSt} {M : Mem} {R : DK} : dLc di g tt te vs δ M R = di δ M (LcIn g tt te vs δ R) := propext Iff.rfl
@[simp] theorem eq_iSeq {te : DE} {δ : DSt} {M : Mem} {Q : List D → (Mem → Prop) → Mem → Prop} : iSeq te δ M Q = te δ M fun d M1 => (match srcD M1 d with
  | some (xs, ok) => Q xs ok M1
  | none => False) := propext Iff.rfl
@[simp] theorem eq_srct {M : Mem} {xs : List D} : srcD M (.tup xs) = some (xs, fun _ => True) := rfl
@[simp] theorem eq_srcr {M : Mem} {xs : List D} : srcD M (.rol xs) = some (xs, fun _ => True) := rfl
@[simp] theorem eq_srcl {M : Mem} {a : Addr} : srcD M (.ref a) = (match M a with
    | some (.lst xs) => some (xs, fun M' => M' a = some (.lst xs))
    | _ => none) := rfl
@[simp] theorem eq_iRange1 {t : DA} {δ : DSt} {M : Mem} {Q : List D → (Mem → Prop) → Mem → Prop} : iRange1 t δ M Q = t δ M fun ds M1 => (match ds with
  | [.int j] => (-(2 ^ 62) ≤ j ∧ j < 2 ^ 62) ∧ Q (rangeD 0 j.toNat) (fun _ => True) M1
  | _ => False) := propext Iff.rfl
@[simp] theorem eq_iRange2 {t : DA} {δ : DSt} {M : Mem} {Q : List D → (Mem → Prop) → Mem → Prop} : iRange2 t δ M Q = t δ M fun ds M1 => (match ds with
  | [.int i, .int j] => (-(2 ^ 62) ≤ i ∧ i < 2 ^ 62 ∧ -(2 ^ 62) ≤ j ∧ j < 2 ^ 62) ∧ Q (rangeD i (j - i).toNat) (fun _ => True) M1
  | _ => False) := propext Iff.rfl
@[simp] theorem eq_tYesD {δ : DSt} {M : Mem} {Q : Bool → Mem → Prop} : tYesD δ M Q = Q true M := propext Iff.rfl
def ForIn (g : DG) (tb : DS) (E : DEnds) (δ : DSt) (ds : List D) (ok : Mem → Prop) (M1 : Mem) : Prop := ∃ W : Nat → DSt → Mem → Prop, W 0 δ M1 ∧ (∀ i δ M, i ≤ ds.length → W i δ M → ok M) ∧
  (∀ i x δ M, ds[i]? = some x → W i δ M → g x δ M fun δ2 M2 => tb { E with nx := W (i + 1), ct := W (i + 1), bk := E.nx } δ2 M2) ∧ ∀ δ M, W ds.length δ M → E.nx δ M
@[simp] theorem eq_sFor {di : DI} {g : DG} {tb : DS} {E : DEnds} {δ : DSt} {M : Mem} : sFor di g tb E δ M = di δ M (ForIn g tb E δ) := propext Iff.rfl
theorem lc_fm {g : DG} {tt : DT} {te : DE} {vs : List Nat} {δ : DSt} {R : DK} {ds : List D} {ok : Mem → Prop} {M1 : Mem} (f : D → Option D) (hl : ds.length ≤ sizeLine) (hok : ∀ p acc, M1 p = none → ok (updM M1 p (.lst acc)))
    (step : ∀ (x : D) (p : Addr) (acc : List D) (RY : D → Mem → Prop) (RN : Mem → Prop), x ∈ ds → M1 p = none → (∀ y, f x = some y → RY y (updM M1 p (.lst acc))) → (f x = none → RN (updM M1 p (.lst acc))) →
      g x (wipeD δ vs) (updM M1 p (.lst acc)) fun δ2 M2 => tt δ2 M2 fun b M3 => if b = true then te δ2 M3 RY else RN M3)
    (hR : ∀ p, M1 p = none → R (.ref p) (updM M1 p (.lst (ds.filterMap f)))) : LcIn g tt te vs δ R ds ok M1 := by
  intro p hp
  refine ⟨fun i acc M => M = M1 ∧ acc = (ds.take i).filterMap f, ⟨rfl, by simp⟩, ?_, ?_, ?_⟩
  · rintro i acc M ⟨rfl, rfl⟩
    exact hok p _ hp
  · rintro i x acc M hx ⟨rfl, rfl⟩
    have hi : i < ds.length := (List.getElem?_eq_some_iff.mp hx).1
    refine ⟨?_, step x p _ _ _ (List.mem_of_getElem? hx) hp ?_ ?_⟩
    · have h1 := List.length_filterMap_le f (ds.take i)
      rw [List.length_take] at h1
      omega
    · intro y hy
      refine ⟨_, rfl, rfl, ?_⟩
      rw [List.take_add_one, hx, List.filterMap_append]
      simp [hy]
    · intro hy
      refine ⟨_, rfl, rfl, ?_⟩
      rw [List.take_add_one, hx, List.filterMap_append]
      simp [hy]
  · rintro acc M ⟨rfl, rfl⟩
    rw [List.take_length]
    exact hR p hp
theorem lc_map {g : DG} {te : DE} {vs : List Nat} {δ : DSt} {R : DK} {ds : List D} {ok : Mem → Prop} {M1 : Mem} (f : D → D) (hl : ds.length ≤ sizeLine) (hok : ∀ p acc, M1 p = none → ok (updM M1 p (.lst acc)))
    (step : ∀ (x : D) (p : Addr) (acc : List D) (RY : D → Mem → Prop), x ∈ ds → M1 p = none → RY (f x) (updM M1 p (.lst acc)) → g x (wipeD δ vs) (updM M1 p (.lst acc)) fun δ2 M2 => te δ2 M2 RY)
    (hR : ∀ p, M1 p = none → R (.ref p) (updM M1 p (.lst (ds.map f)))) : LcIn g tYesD te vs δ R ds ok M1 := by
  refine lc_fm (fun x => some (f x)) hl hok (fun x p acc RY RN hx hp h1 h2 => ?_) (fun p hp => ?_)
  · simpa using step x p acc RY hx hp (h1 _ rfl)
  · have e : ds.filterMap (fun x => some (f x)) = ds.map f := by simp
    rw [e]
    exact hR p hp
/-- a loop over a list in which the memory and the slots go by W -/
theorem for_in {g : DG} {tb : DS} {E : DEnds} {δ : DSt} {ds : List D} {ok : Mem → Prop} {M1 : Mem} (W : Nat → DSt → Mem → Prop) (h0 : W 0 δ M1) (hok : ∀ i δ M, i ≤ ds.length → W i δ M → ok M)
    (step : ∀ i x δ M, ds[i]? = some x → W i δ M → g x δ M fun δ2 M2 => tb { E with nx := W (i + 1), ct := W (i + 1), bk := E.nx } δ2 M2) (done : ∀ δ M, W ds.length δ M → E.nx δ M) : ForIn g tb E δ ds ok M1 := ⟨W, h0, hok, step, done⟩
/-! ### the bag of numbers that laws draw from -/
structure Bag (M : Mem) (b g c : Addr) (N : Nat) : Prop where
  ex : ∃ (z n : Int) (gs cs : List Int), M b = some (.lst [.int z, .int n, .ref g, .ref c]) ∧ M g = some (.lst (gs.map D.int)) ∧ M c = some (.lst (cs.map D.int)) ∧
    0 ≤ z ∧ 0 ≤ n ∧ n ≤ N ∧ (∀ x ∈ gs, 0 ≤ x) ∧ cs ≠ [] ∧ (∀ x ∈ cs, 0 ≤ x ∧ x < 2147483647)
  bg : b ≠ g
  bc : b ≠ c
  gc : g ≠ c
/-- all but the bag's parts is as it was -/
def SameBut (b g : Addr) (M M' : Mem) : Prop := ∀ a, a ≠ b → a ≠ g → M' a = M a
theorem SameBut.refl {b g : Addr} (M : Mem) : SameBut b g M M := fun _ _ _ => rfl
theorem SameBut.trans {b g : Addr} {M M1 M2 : Mem} (h : SameBut b g M M1) (k : SameBut b g M1 M2) : SameBut b g M M2 := fun a h1 h2 => (k a h1 h2).trans (h a h1 h2)
theorem Bag.mono {M : Mem} {b g c : Addr} {N N' : Nat} (h : Bag M b g c N) (hn : N ≤ N') : Bag M b g c N' := by
  obtain ⟨⟨z, n, gs, cs, h1, h2, h3, h4, h5, h6, h7⟩, q⟩ := h
  exact ⟨⟨z, n, gs, cs, h1, h2, h3, h4, h5, by omega, h7⟩, by assumption, by assumption, by assumption⟩
theorem Bag.frame {M M' : Mem} {b g c : Addr} {N : Nat} (h : Bag M b g c N) (hb : M' b = M b) (hg : M' g = M g) (hc : M' c = M c) : Bag M' b g c N := by
  obtain ⟨⟨z, n, gs, cs, h1, h2, h3, h4⟩, q⟩ := h
  exact ⟨⟨z, n, gs, cs, hb.trans h1, hg.trans h2, hc.trans h3, h4⟩, by assumption, by assumption, by assumption⟩
theorem Bag.ne {M : Mem} {b g c p : Addr} {N : Nat} (h : Bag M b g c N) (hp : M p = none) : p ≠ b ∧ p ≠ g ∧ p ≠ c := by
  obtain ⟨⟨z, n, gs, cs, h1, h2, h3, _⟩, _⟩ := h
  refine ⟨fun e => ?_, fun e => ?_, fun e => ?_⟩
  · rw [e, h1] at hp; cases hp
  · rw [e, h2] at hp; cases hp
  · rw [e, h3] at hp; cases hp
theorem Bag.upd {M : Mem} {b g c p : Addr} {o : MO} {N : Nat} (h : Bag M b g c N) (hb : p ≠ b) (hg : p ≠ g) (hc : p ≠ c) : Bag (updM M p o) b g c N :=
  h.frame (updM_ne hb.symm) (updM_ne hg.symm) (updM_ne hc.symm)
theorem Bag.new {M : Mem} {b g c p : Addr} {o : MO} {N : Nat} (h : Bag M b g c N) (hp : M p = none) : Bag (updM M p o) b g c N := h.upd (h.ne hp).1 (h.ne hp).2.1 (h.ne hp).2.2
theorem log2_lt {i : Int} {k : Nat} (h : i.natAbs < 2 ^ k) (hk : 0 < k) : i.natAbs.log2 < k := by
  by_cases z : i.natAbs = 0
  · rw [z]; simpa using hk
  · exact (Nat.log2_lt z).mpr h
theorem mul_ok {i j : Int} (a b : Nat) (hi : i.natAbs < 2 ^ a) (hj : j.natAbs < 2 ^ b) (ha : 0 < a) (hb : 0 < b) (h : a + b < 100000000) : MulOk i j := by
  have h1 := log2_lt hi ha
  have h2 := log2_lt hj hb
  unfold MulOk
  omega
theorem div_ok {i j : Int} (a : Nat) (h0 : j ≠ 0) (hj : j.natAbs < 2 ^ a) (ha : 0 < a) (h : a ≤ 9000) : DivOk i j := ⟨h0, by have := log2_lt hj ha; omega⟩
/-- draw: a digit -/
def spDraw : DSp := fun ds M R => ∃ (b g c : Addr) (N : Nat) (many : Int), ds = [.ref b, .int many] ∧ Bag M b g c N ∧ N ≤ 2 ^ 40 ∧ 0 < many ∧ many < 2 ^ 200 ∧
  ∀ (x : Int) (M' : Mem), 0 ≤ x → x < many → Bag M' b g c (N + 1) → SameBut b g M M' → R (.int x) M'
def rK_draw  : DS := sSeq (sAsg (dBin gAdd (dBin gIx (dVar 0) (dC (.int 1))) (dC (.int 1))) (gSubD (dVar 0) (dC (.int 1)) gSetL)) (sSeq (sIf (dAnd (dTest (dBin gEq (dBin gIx (dVar 0) (dC (.int 0))) (dC (.int 0)))) (dTest (dBin gGt (dCB gLen (aCons (dBin gIx (dVar 0) (dC (.int 2))) (aNil))) (dC (.int 0))))) (sAsg (dBM0 isLst gPop (dBin gIx (dVar 0) (dC (.int 2)))) (gSubD (dVar 0) (dC (.int 0)) gSetL)) (sNext)) (sSeq (sIf (dTest (dBin gGt (dBin gIx (dVar 0) (dC (.int 0))) (dC (.int 0)))) (sSeq (sAsg (dBin gMod (dCB gInt (aCons (dBin gIx (dVar 0) (dC (.int 0))) (aNil))) (dVar 1)) (gNm 2)) (sSeq (sAsg (dBin gDiv (dBin gIx (dVar 0) (dC (.int 0))) (dVar 1)) (gSubD (dVar 0) (dC (.int 0)) gSetL)) (sRet (dVar 2)))) (sNext)) (sSeq (sAsg (dBin gIx (dBin gIx (dVar 0) (dC (.int 3))) (dBin gMod (dCB gInt (aCons (dBin gIx (dVar 0) (dC (.int 1))) (aNil))) (dCB gLen (aCons (dBin gIx (dVar 0) (dC (.int 3))) (aNil))))) (gNm 3)) (sSeq (sAsg (dBin gMod (dCB gInt (aCons (dBin gAdd (dBin gAdd (dBin gMul (dVar 3) (dC (.int 48271))) (dBin gMul (dBin gIx (dVar 0) (dC (.int 1))) (dC (.int 69621)))) (dC (.int 1))) (aNil))) (dC (.int 2147483647))) (gNm 4)) (sRet (dBin gMod (dBin gDiv (dBin gMod (dCB gInt (aCons (dBin gAdd (dBin gAdd (dBin gMul (dVar 4) (dVar 4)) (dBin gMul (dVar 4) (dC (.int 16807)))) (dBin gMul (dBin gIx (dVar 0) (dC (.int 1))) (dC (.int 40014)))) (aNil))) (dC (.int 2147483629))) (dC (.int 32))) (dVar 1)))))))
theorem fmod_nn {a b : Int} (h : 0 < b) : 0 ≤ a.fmod b := Int.fmod_nonneg_of_pos a h
theorem fmod_lt {a b : Int} (h : 0 < b) : a.fmod b < b := Int.fmod_lt_of_pos a h
theorem atI4_0 {a b c d : D} : atI [a, b, c, d] 0 = some a := rfl
theorem atI4_1 {a b c d : D} : atI [a, b, c, d] 1 = some b := rfl
theorem atI4_2 {a b c d : D} : atI [a, b, c, d] 2 = some c := rfl
theorem atI4_3 {a b c d : D} : atI [a, b, c, d] 3 = some d := rfl
/-- the last steps of a draw -/
theorem k_draw (ds : List D) (M : Mem) (R : DK) (h : spDraw ds M R) : rK_draw (endsF R) (startD ["bag", "many", "digit", "cell", "mixed"] ds) M := by
  obtain ⟨b, g, c, N, many, rfl, hB, hN, hm0, hm1, k⟩ := h
  obtain ⟨⟨z, n, gs, cs, h1, h2, h3, hz, hn0, hnN, hgs, hcs, hcs2⟩, bg, bc, gc⟩ := hB
  have nb : g ≠ b := bg.symm
  have nc : c ≠ b := bc.symm
  have ncg : c ≠ g := gc.symm
  have ix0 : ixN 4 0 = some 0 := rfl
  have ix1 : ixN 4 1 = some 1 := rfl
  have hm : many ≠ 0 := by omega
  have hdiv : ∀ i, DivOk i many := fun i => div_ok 200 hm (by omega) (by omega) (by omega)
  have hl0 : (0 : Int) < cs.length := by
    cases cs with
    | nil => exact absurd rfl hcs
    | cons a r => simp only [List.length_cons]; omega
  obtain ⟨cell, hcell, hc0, hc1⟩ : ∃ cell, atI (cs.map D.int) ((n + 1).fmod cs.length) = some (.int cell) ∧ 0 ≤ cell ∧ cell < 2147483647 := by
    have a1 := fmod_nn (a := n + 1) hl0
    have a2 := fmod_lt (a := n + 1) hl0
    have hi : ((n + 1).fmod cs.length).toNat < cs.length := by omega
    refine ⟨cs[((n + 1).fmod cs.length).toNat], atI_nat a1 (by simp [hi]), hcs2 _ (List.getElem_mem hi)⟩
  have m1 : MulOk cell 48271 := mul_ok 40 40 (by omega) (by omega) (by omega) (by omega) (by omega)
  have m2 : MulOk (n + 1) 69621 := mul_ok 60 40 (by omega) (by omega) (by omega) (by omega) (by omega)
  have m5 : MulOk (n + 1) 40014 := mul_ok 60 40 (by omega) (by omega) (by omega) (by omega) (by omega)
  have x0 := fmod_nn (a := cell * 48271 + (n + 1) * 69621 + 1) (b := 2147483647) (by omega)
  have x1 := fmod_lt (a := cell * 48271 + (n + 1) * 69621 + 1) (b := 2147483647) (by omega)
  generalize hx : (cell * 48271 + (n + 1) * 69621 + 1).fmod 2147483647 = mixed at x0 x1
  have m3 : MulOk mixed mixed := mul_ok 40 40 (by omega) (by omega) (by omega) (by omega) (by omega)
  have m4 : MulOk mixed 16807 := mul_ok 40 40 (by omega) (by omega) (by omega) (by omega) (by omega)
  have d32 : ∀ i, DivOk i 32 := fun i => div_ok 10 (by omega) (by omega) (by omega) (by omega)
  have bag2 : ∀ (z' : Int) (gs' : List Int) (M' : Mem), 0 ≤ z' → (∀ x ∈ gs', 0 ≤ x) → M' b = some (.lst [.int z', .int (n + 1), .ref g, .ref c]) → M' g = some (.lst (gs'.map D.int)) → M' c = M c → Bag M' b g c (N + 1) :=
    fun z' gs' M' a1 a2 a3 a4 a5 => ⟨⟨z', n + 1, gs', cs, a3, a4, a5.trans h3, a1, by omega, by omega, a2, hcs, hcs2⟩, bg, bc, gc⟩
  have dn : ∀ z' : Int, 0 ≤ z' → 0 ≤ z'.fdiv many := fun z' h => by
    rw [Int.fdiv_eq_ediv_of_nonneg _ (by omega)]; exact Int.ediv_nonneg h (by omega)
  by_cases hz0 : z = 0
  · subst hz0
    rcases List.eq_nil_or_concat gs with rfl | ⟨gs', y, rfl⟩
    · unfold rK_draw
      simp [h1, h2, h3, nb, nc, ncg, bg, bc, gc, atI4_0, atI4_1, atI4_2, atI4_3, ix0, ix1, hcell, m1, m2, m3, m4, m5, hx, hcs, d32, hm]
      exact ⟨_, Sub.refl _, k _ _ (fmod_nn hm0) (fmod_lt hm0) (bag2 0 [] _ (by omega) (by simp) (by simp) (by simp [nb, h2]) (by simp [nc])) fun a a1 a2 => by simp [a1]⟩
    · have hy : 0 ≤ y := hgs y (by simp)
      have hgs' : ∀ x ∈ gs', 0 ≤ x := fun x hx => hgs x (by simp [hx])
      have e1 : (gs' ++ [y])[gs'.length]? = some y := by simp
      by_cases hy0 : 0 < y
      · unfold rK_draw
        simp [h1, h2, h3, nb, nc, ncg, bg, bc, gc, atI4_0, atI4_1, atI4_2, atI4_3, ix0, ix1, hcell, m1, m2, m3, m4, m5, hx, hcs, d32, hm, hdiv, hy0]
        exact ⟨_, Sub.refl _, k _ _ (fmod_nn hm0) (fmod_lt hm0) (bag2 (y.fdiv many) gs' _ (dn y hy) hgs' (by simp) (by simp [nb]) (by simp [nc, ncg])) fun a a1 a2 => by simp [a1, a2]⟩
      · have : y = 0 := by omega
        subst this
        unfold rK_draw
        simp [h1, h2, h3, nb, nc, ncg, bg, bc, gc, atI4_0, atI4_1, atI4_2, atI4_3, ix0, ix1, hcell, m1, m2, m3, m4, m5, hx, hcs, d32, hm, hdiv]
        exact ⟨_, Sub.refl _, k _ _ (fmod_nn hm0) (fmod_lt hm0) (bag2 0 gs' _ (by omega) hgs' (by simp) (by simp [nb]) (by simp [nc, ncg])) fun a a1 a2 => by simp [a1, a2]⟩
  · have hz1 : 0 < z := by omega
    unfold rK_draw
    simp [h1, h2, h3, nb, nc, ncg, bg, bc, gc, atI4_0, atI4_1, atI4_2, atI4_3, ix0, ix1, hm, hdiv, hz0, hz1]
    exact ⟨_, Sub.refl _, k _ _ (fmod_nn hm0) (fmod_lt hm0) (bag2 (z.fdiv many) gs _ (dn z hz) hgs (by simp) (by simp [nb, h2]) (by simp [nc])) fun a a1 a2 => by simp [a1]⟩
theorem len_draw (ds : List D) (M : Mem) (R : DK) (h : spDraw ds M R) : ds.length = 2 := by
  obtain ⟨b, g, c, N, many, rfl, _⟩ := h
  rfl
/-- pick -/
def spPick : DSp := fun ds M R => ∃ (b g c l : Addr) (N : Nat) (xs : List D), ds = [.ref b, .ref l] ∧ Bag M b g c N ∧ N ≤ 2 ^ 40 ∧ M l = some (.lst xs) ∧ xs ≠ [] ∧ xs.length < 2 ^ 60 ∧ l ≠ b ∧ l ≠ g ∧ l ≠ c ∧
  ∀ (x : D) (M' : Mem), x ∈ xs → Bag M' b g c (N + 1) → SameBut b g M M' → R x M'
def rK_pick (sp_draw : DSp) : DS := sRet (dBin gIx (dVar 1) (dCall sp_draw (aCons (dVar 0) (aCons (dCB gLen (aCons (dVar 1) (aNil))) (aNil)))))
theorem k_pick (ds : List D) (M : Mem) (R : DK) (h : spPick ds M R) : rK_pick spDraw (endsF R) (startD ["bag", "some"] ds) M := by
  obtain ⟨b, g, c, l, N, xs, rfl, hB, hN, hl, hx, hx2, lb, lg, lc, k⟩ := h
  have hn : (0 : Int) < xs.length := by
    cases xs with
    | nil => exact absurd rfl hx
    | cons a r => simp only [List.length_cons]; omega
  unfold rK_pick
  simp [hl]
  refine ⟨b, g, c, N, xs.length, rfl, hB, hN, hn, by omega, fun x M' h0 h1 hB' hS => ?_⟩
  have e : M' l = some (.lst xs) := (hS l lb lg).trans hl
  have hi : x.toNat < xs.length := by omega
  have hat : atI xs x = some xs[x.toNat] := atI_nat h0 (List.getElem?_eq_getElem hi)
  simp [e, hat]
  exact ⟨M', Sub.refl _, k _ M' (List.getElem_mem hi) hB' hS⟩
theorem len_pick (ds : List D) (M : Mem) (R : DK) (h : spPick ds M R) : ds.length = 2 := by
  obtain ⟨b, g, c, l, N, xs, rfl, _⟩ := h
  rfl
/-! ### bag -/
def cellsOf (ns : List Int) : List Int := ns.map (fun i => if i < 0 then -i else i) ++ [7]
def spBag : DSp := fun ds M R => ∃ (d : D) (ns : List Int) (ok : Mem → Prop), ds = [d] ∧ srcD M d = some (ns.map D.int, ok) ∧ (∀ p o, M p = none → ok (updM M p o)) ∧ ns.length ≤ 63 ∧
  ∀ (b g c : Addr) (M' : Mem), M b = none → M g = none → M c = none → Bag M' b g c 0 → Sub M M' → R (.ref b) M'
def rK_bag  : DS := sSeq (sAsg (dBin gAdd (dLc (iSeq (dVar 0)) (gNm 2) (tYesD) (dCB gAbs (aCons (dCB gInt (aCons (dVar 2) (aNil))) (aNil))) [2]) (dLst (aCons (dC (.int 7)) (aNil)))) (gNm 1)) (sSeq (sAsg (dLst (aNil)) (gNm 3)) (sSeq (sIf (dTest (dBin gEq (dBin gMod (dCB gInt (aCons (dBin gIx (dVar 1) (dC (.int 0))) (aNil))) (dC (.int 2))) (dC (.int 0)))) (sSeq (sAsg (dLc (iSeq (dVar 1)) (gNm 2) (dTest (dBin gGe (dVar 2) (dBin gPow (dC (.int 10)) (dC (.int 18))))) (dBin gDiv (dVar 2) (dC (.int 2))) [2]) (gNm 3)) (sDrop (dBM0 isLst gReverse (dVar 3)))) (sNext)) (sRet (dLst (aCons (dC (.int 0)) (aCons (dC (.int 0)) (aCons (dVar 3) (aCons (dLc (iSeq (dVar 1)) (gNm 2) (tYesD) (dBin gMod (dCB gInt (aCons (dVar 2) (aNil))) (dC (.int 2147483647))) [2]) (aNil)))))))))
theorem size_line : sizeLine = 16777216 := by decide
theorem new_some {M : Mem} {p : Addr} {o : MO} (h : M p = none) : (updM M p o) p = some o ∧ Sub M (updM M p o) := ⟨updM_same, Sub.new h⟩
theorem Sub.un {M M' : Mem} {a : Addr} (h : Sub M M') (e : M' a = none) : M a = none := by
  cases q : M a with
  | none => rfl
  | some o => rw [h a o q] at e; cases e
theorem Sub.put {M M' : Mem} {a : Addr} {o : MO} (h : Sub M M') (e : M a = none) : Sub M (updM M' a o) := fun b u q => by
  have : b ≠ a := fun z => by rw [z, e] at q; cases q
  rw [updM_ne this]; exact h b u q
theorem ne_none {M : Mem} {p q : Addr} {o : MO} (h : M p = none) (h2 : M q = some o) : q ≠ p := fun e => by rw [e, h] at h2; cases h2
def matA (d : D) : D := match d with
  | .int i => .int (if i < 0 then -i else i)
  | _ => d
def matM (d : D) : D := match d with
  | .int i => .int (i.fmod 2147483647)
  | _ => d
def matG (d : D) : Option D := match d with
  | .int i => if (10 : Int) ^ 18 ≤ i then some (.int (i.fdiv 2)) else none
  | _ => none
theorem map_matA (ns : List Int) : (ns.map D.int).map matA ++ [D.int 7] = (cellsOf ns).map D.int := by
  unfold cellsOf matA
  simp
theorem matG_ints : ∀ ns : List Int, ∃ gs : List Int, (ns.map D.int).filterMap matG = gs.map D.int ∧ ∀ x ∈ gs, 0 ≤ x
  | [] => ⟨[], rfl, fun _ z => nomatch z⟩
  | n :: r => by
    obtain ⟨gs, h1, h2⟩ := matG_ints r
    by_cases hn : (10 : Int) ^ 18 ≤ n
    · refine ⟨n.fdiv 2 :: gs, ?_, ?_⟩
      · simp only [List.map_cons, List.filterMap_cons, matG, if_pos hn, h1]
      · intro x hx
        rcases List.mem_cons.mp hx with rfl | hx
        · rw [Int.fdiv_eq_ediv_of_nonneg _ (by omega)]
          exact Int.ediv_nonneg (by omega) (by omega)
        · exact h2 x hx
    · refine ⟨gs, ?_, h2⟩
      simp only [List.map_cons, List.filterMap_cons, matG, if_neg hn, h1]
theorem matM_ints (ns : List Int) : (ns.map D.int).map matM = (ns.map fun i => i.fmod 2147483647).map D.int := by simp [matM]
theorem k_bag (ds : List D) (M : Mem) (R : DK) (h : spBag ds M R) : rK_bag (endsF R) (startD ["script", "cells", "cell", "great"] ds) M := by
  obtain ⟨d, ns, ok, rfl, hd, hok, hl, k⟩ := h
  have cpow : CPow 10 18 := ⟨by omega, by omega, by decide⟩
  have d2 : ∀ i, DivOk i 2 := fun i => div_ok 10 (by omega) (by omega) (by omega) (by omega)
  have cl : (cellsOf ns).length ≤ 64 := by unfold cellsOf; simp; omega
  have sl := size_line
  unfold rK_bag
  simp only [eq_sSeq, eq_sAsg, eq_dBin, eq_dLc, eq_iSeq, eq_dVar, eq_startD, List.map_cons, List.map_nil, List.cons_append, List.getElem?_cons_zero, hd]
  refine lc_map matA (by simp; omega) (fun p acc hp => hok p _ hp) (fun x p acc RY hx hp h => ?_) (fun p hp => ?_)
  · obtain ⟨n, hn, rfl⟩ := List.mem_map.mp hx
    simpa [wipeD, matA] using h
  obtain ⟨e1, s1⟩ := new_some (o := .lst ((ns.map D.int).map matA)) hp
  generalize updM M p (.lst ((ns.map D.int).map matA)) = M1 at e1 s1
  simp only [eq_dLst, eq_aCons, eq_dC, eq_aNil]
  refine ⟨by simp; omega, fun p2 hp2 => ?_⟩
  obtain ⟨e2, s2⟩ := new_some (o := .lst [D.int 7]) hp2
  generalize updM M1 p2 (.lst [D.int 7]) = M2 at e2 s2
  simp only [eq_gAddll, s2 _ _ e1, e2, map_matA]
  refine ⟨by simp; omega, fun l hl' => ?_⟩
  obtain ⟨e3, s3⟩ := new_some (o := .lst ((cellsOf ns).map D.int)) hl'
  generalize updM M2 l (.lst ((cellsOf ns).map D.int)) = M3 at e3 s3
  have S3 : Sub M M3 := (s1.trans s2).trans s3
  obtain ⟨c0, hc0⟩ : ∃ c0 : Int, atI ((cellsOf ns).map D.int) 0 = some (.int c0) := by
    cases hq : cellsOf ns with
    | nil => simp [cellsOf] at hq
    | cons a r => exact ⟨a, atI_nat (by omega) (by simp)⟩
  simp only [eq_gNm, eq_sSeq, eq_sAsg, eq_dLst, eq_aNil]
  refine ⟨by simp, fun g hg => ?_⟩
  obtain ⟨e4, s4⟩ := new_some (o := .lst []) hg
  generalize updM M3 g (.lst []) = M4 at e4 s4
  have l4 := s4 _ _ e3
  have gM : M g = none := S3.un hg
  have lg : l ≠ g := ne_none hg e3
  -- the rest, from where the list of great cells stands
  have rest : ∀ (M5 : Mem) (g' : Addr) (gs : List Int) (o : Option D), M g' = none → Sub M M5 → M5 l = some (.lst ((cellsOf ns).map D.int)) → M5 g' = some (.lst (gs.map D.int)) → (∀ x ∈ gs, 0 ≤ x) → l ≠ g' →
      (sRet (dLst (aCons (dC (.int 0)) (aCons (dC (.int 0)) (aCons (dVar 3) (aCons (dLc (iSeq (dVar 1)) (gNm 2) (tYesD) (dBin gMod (dCB gInt (aCons (dVar 2) (aNil))) (dC (.int 2147483647))) [2]) (aNil))))))) (endsF R) [some d, some (.ref l), o, some (.ref g')] M5 := by
    intro M5 g' gs o n5 S5 l5 g5 hgs lg5
    simp [l5]
    refine lc_map matM (by simp; omega) (fun q acc hq => ?_) (fun x q acc RY hx hq h => ?_) (fun q hq => ?_)
    · rw [updM_ne (ne_none hq l5)]; exact l5
    · obtain ⟨n, hn, rfl⟩ := List.mem_map.mp hx
      simpa [wipeD, matM] using h
    · obtain ⟨e6, s6⟩ := new_some (o := .lst (((cellsOf ns).map D.int).map matM)) hq
      generalize updM M5 q (.lst (((cellsOf ns).map D.int).map matM)) = M6 at e6 s6
      refine ⟨by omega, fun b hb => ?_⟩
      obtain ⟨e7, s7⟩ := new_some (o := .lst [D.int 0, D.int 0, D.ref g', D.ref q]) hb
      generalize updM M6 b (.lst [D.int 0, D.int 0, D.ref g', D.ref q]) = M7 at e7 s7
      have S7 : Sub M M7 := (S5.trans s6).trans s7
      refine ⟨M7, Sub.refl _, k b g' q M7 ((S5.trans s6).un hb) n5 (S5.un hq) ⟨⟨0, 0, gs, (cellsOf ns).map fun i => i.fmod 2147483647, e7, s7 _ _ (s6 _ _ g5), ?_, Int.le_refl _, Int.le_refl _, Int.le_refl _, hgs, ?_, ?_⟩, ?_, ?_, ?_⟩ S7⟩
      · rw [← matM_ints]; exact s7 _ _ e6
      · simp [cellsOf]
      · intro x hx
        obtain ⟨i, _, rfl⟩ := List.mem_map.mp hx
        exact ⟨fmod_nn (by omega), fmod_lt (by omega)⟩
      · exact (ne_none hb (s6 _ _ g5)).symm
      · exact (ne_none hb e6).symm
      · exact ne_none hq g5
  have fin := rest M4 g [] none gM (S3.trans s4) l4 e4 (fun _ z => nomatch z) lg
  by_cases hev : c0.fmod 2 = 0
  · simp [l4, hc0, hev]
    obtain ⟨gs, hgs, hgs0⟩ := matG_ints (cellsOf ns)
    refine lc_fm matG (by simp; omega) (fun q acc hq => ?_) (fun x q acc RY RN hx hq h1 h2 => ?_) (fun q hq => ?_)
    · rw [updM_ne (ne_none hq l4)]; exact l4
    · obtain ⟨n, hn, rfl⟩ := List.mem_map.mp hx
      by_cases hn18 : (10 : Int) ^ 18 ≤ n
      · have := h1 (.int (n.fdiv 2)) (if_pos hn18)
        simp [wipeD, cpow, d2]
        rw [if_pos (by omega)]
        exact this
      · have := h2 (if_neg hn18)
        simp [wipeD, cpow, d2]
        rw [if_neg (by omega)]
        exact this
    · rw [hgs]
      have lq : l ≠ q := ne_none hq l4
      simp
      have S4 : Sub M M4 := S3.trans s4
      have := rest (updM (updM M4 q (.lst (gs.map D.int))) q (.lst (gs.map D.int).reverse)) q gs.reverse none (S4.un hq) ((S4.put (S4.un hq)).put (S4.un hq)) (by simp [lq, l4]) (by simp) (by simpa using hgs0) lq
      simpa using this
  · simp [l4, hc0, hev]
    simpa [l4] using fin
theorem len_bag (ds : List D) (M : Mem) (R : DK) (h : spBag ds M R) : ds.length = 1 := by
  obtain ⟨d, ns, ok, rfl, _⟩ := h
  rfl
end DD
namespace DD
open PySem PySem.Spec PyProof.Rows L2
/-! ### same -/
@[simp] theorem eq_gIsi {M : Mem} {R : DK} {d : D} {n : String} : gIsi [d, .ty n] M R = (match tyD M d with
    | some a => n ∈ ["bool", "int", "str", "tuple", "list", "dict"] ∧ R (.bl (isB a n)) M
    | none => False) := propext Iff.rfl
@[simp] theorem ty_non {M : Mem} : tyD M .non = some "NoneType" := rfl
@[simp] theorem ty_bl {M : Mem} {b : Bool} : tyD M (.bl b) = some "bool" := rfl
@[simp] theorem ty_int {M : Mem} {b : Int} : tyD M (.int b) = some "int" := rfl
@[simp] theorem ty_str {M : Mem} {b : Str} : tyD M (.str b) = some "str" := rfl
@[simp] theorem ty_tup {M : Mem} {b : List D} : tyD M (.tup b) = some "tuple" := rfl
@[simp] theorem tru_bl {M : Mem} {b : Bool} : truD M (.bl b) = some b := rfl
@[simp] theorem isNon_non : isNon .non = true := rfl
@[simp] theorem isNon_bl {b : Bool} : isNon (.bl b) = false := rfl
@[simp] theorem isNon_int {b : Int} : isNon (.int b) = false := rfl
@[simp] theorem isNon_str {b : Str} : isNon (.str b) = false := rfl
@[simp] theorem isNon_tup {b : List D} : isNon (.tup b) = false := rfl
theorem isB_1 : isB "NoneType" "bool" = false := by decide
theorem isB_2 : isB "bool" "bool" = true := by decide
theorem isB_3 : isB "int" "bool" = false := by decide
theorem isB_4 : isB "str" "bool" = false := by decide
theorem isB_5 : isB "tuple" "bool" = false := by decide
theorem isB_6 : isB "int" "int" = true := by decide
theorem isB_7 : isB "str" "int" = false := by decide
theorem isB_8 : isB "tuple" "int" = false := by decide
theorem isB_9 : isB "str" "str" = true := by decide
theorem isB_10 : isB "tuple" "str" = false := by decide
theorem isB_11 : isB "tuple" "tuple" = true := by decide
@[simp] theorem eq_gEqbb {M : Mem} {R : DK} {b : Bool} : gEq (.bl b) (.bl b) M R = R (.bl true) M := by
  show (true = true ∧ true = true ∧ R (.bl (PyData.eqv (.bool b) (.bool b))) M) = _
  have : PyData.eqv (.bool b) (.bool b) = true := by unfold PyData.eqv; simp
  rw [this]; simp
@[simp] theorem eq_gEqss {M : Mem} {R : DK} {a b : Str} : gEq (.str a) (.str b) M R = (SeqAt.shaped (.str a) = true ∧ SeqAt.shaped (.str b) = true ∧ R (.bl (decide (a = b))) M) := by
  show (SeqAt.shaped (.str a) = true ∧ SeqAt.shaped (.str b) = true ∧ R (.bl (PyData.eqv (.str a) (.str b))) M) = _
  have : PyData.eqv (.str a) (.str b) = decide (a = b) := by
    unfold PyData.eqv
    exact Bool.eq_iff_iff.mpr (by simp)
  rw [this]
/-- data that _law_same walks: tuples at most n deep -/
def okD : Nat → D → Prop
  | _, .non => True
  | _, .bl _ => True
  | _, .int _ => True
  | _, .str s => SeqAt.shaped (.str s) = true
  | 0, .tup _ => False
  | n + 1, .tup xs => xs.length < 2 ^ 61 ∧ ∀ x ∈ xs, okD n x
  | _, .ref _ => False
  | _, .ty _ => False
  | _, .rol _ => False
def spSame (n : Nat) : DSp := fun ds M R => ∃ x, ds = [x, x] ∧ okD n x ∧ R (.bl true) M
def spNo : DSp := fun _ _ _ => False
def rK_same (sp_l_same : DSp) : DS := sSeq (sIf (dTest (dBin gIsN (dVar 1) (dC .non))) (sRet (dBin gIsN (dVar 0) (dC .non))) (sNext)) (sSeq (sIf (dOr (dTru (dCB gIsi (aCons (dVar 1) (aCons (dC (.ty "bool")) (aNil))))) (dTru (dCB gIsi (aCons (dVar 0) (aCons (dC (.ty "bool")) (aNil)))))) (sRet (dAndV (dCB gIsi (aCons (dVar 1) (aCons (dC (.ty "bool")) (aNil)))) (dAndV (dCB gIsi (aCons (dVar 0) (aCons (dC (.ty "bool")) (aNil)))) (dBin gEq (dVar 0) (dVar 1))))) (sNext)) (sSeq (sIf (dTru (dCB gIsi (aCons (dVar 1) (aCons (dC (.ty "int")) (aNil))))) (sRet (dAndV (dCB gIsi (aCons (dVar 0) (aCons (dC (.ty "int")) (aNil)))) (dBin gEq (dVar 0) (dVar 1)))) (sNext)) (sSeq (sIf (dTru (dCB gIsi (aCons (dVar 1) (aCons (dC (.ty "str")) (aNil))))) (sRet (dAndV (dCB gIsi (aCons (dVar 0) (aCons (dC (.ty "str")) (aNil)))) (dBin gEq (dVar 0) (dVar 1)))) (sNext)) (sSeq (sIf (dOr (dNot (dTru (dCB gIsi (aCons (dVar 1) (aCons (dC (.ty "tuple")) (aNil)))))) (dOr (dNot (dTru (dCB gIsi (aCons (dVar 0) (aCons (dC (.ty "tuple")) (aNil)))))) (dTest (dBin gNe (dCB gLen (aCons (dVar 0) (aNil))) (dCB gLen (aCons (dVar 1) (aNil))))))) (sRet (dC (.bl false))) (sNext)) (sSeq (sFor (iRange1 (aCons (dCB gLen (aCons (dVar 1) (aNil))) (aNil))) (gNm 2) (sIf (dNot (dTru (dCall sp_l_same (aCons (dBin gIx (dVar 0) (dVar 2)) (aCons (dBin gIx (dVar 1) (dVar 2)) (aNil)))))) (sRet (dC (.bl false))) (sNext))) (sRet (dC (.bl true))))))))
theorem range_at {lo : Int} {n i : Nat} {x : D} (h : (rangeD lo n)[i]? = some x) : i < n ∧ x = .int (lo + (i : Int)) := by
  have hi := (List.getElem?_eq_some_iff.mp h).1
  rw [rangeD_length] at hi
  rw [rangeD_get hi] at h
  exact ⟨hi, (Option.some.inj h).symm⟩
theorem k_same (n : Nat) (sp : DSp) (hsp : ∀ m, n = m + 1 → sp = spSame m) (ds : List D) (M : Mem) (R : DK) (h : spSame n ds M R) : rK_same sp (endsF R) (startD ["found", "due", "k"] ds) M := by
  obtain ⟨x, rfl, hx, k⟩ := h
  have fin : ∃ M0, Sub M0 M ∧ R (.bl true) M0 := ⟨M, Sub.refl _, k⟩
  unfold rK_same
  cases x with
  | non => simpa using fin
  | bl b => simpa [isB_2] using fin
  | int b => simpa [isB_3, isB_6] using fin
  | str b =>
    have hs : SeqAt.shaped (.str b) = true := by cases n <;> exact hx
    simpa [isB_4, isB_7, isB_9, hs] using fin
  | ref a => cases n <;> exact hx.elim
  | ty a => cases n <;> exact hx.elim
  | rol a => cases n <;> exact hx.elim
  | tup xs =>
    cases n with
    | zero => exact hx.elim
    | succ n =>
      have e := hsp n rfl
      subst e
      obtain ⟨hl, hx⟩ := hx
      simp [isB_5, isB_8, isB_10, isB_11]
      refine ⟨by omega, for_in (fun i δ M' => M' = M ∧ ∃ o, δ = [some (.tup xs), some (.tup xs), o]) ⟨rfl, _, rfl⟩ (fun _ _ _ _ _ => trivial) ?_ ?_⟩
      · rintro i y δ M' hy ⟨rfl, o, rfl⟩
        obtain ⟨hi, rfl⟩ := range_at hy
        have hat : atI xs (0 + (i : Int)) = some xs[i] := atI_nat (by omega) (by simp [hi])
        simp at hat
        simp [hat]
        exact ⟨xs[i], rfl, hx _ (List.getElem_mem hi), by simp⟩
      · rintro δ M' ⟨rfl, o, rfl⟩
        simpa using fin
theorem len_same (n : Nat) (ds : List D) (M : Mem) (R : DK) (h : spSame n ds M R) : ds.length = 2 := by
  obtain ⟨x, rfl, _⟩ := h
  rfl
end DD
namespace DD
open PySem PySem.Spec PyProof.Rows L2
/-- a def that is never reached -/
theorem dfn_no {W : Wd} {k : Nat} {x qual : Str} {st : Stmt} {f : Addr} {fd : FuncData} {ps : List Str} (F : FnP W.K x qual st f fd) (bd : Binds W.K fd ps []) : DFn W k f fd ps spNo :=
  ⟨⟨fun vs H Q E h => by obtain ⟨_, _, _, _, _, h, _⟩ := h; exact h.elim, fun A outer s H args us vs Q E hr e b r h => by obtain ⟨_, _, _, _, _, h, _⟩ := h; exact h.elim⟩, fun _ _ _ h => h.elim, bd, F.kp⟩
/-- keywords alone -/
theorem bindsK {K : PySem.W.Frag} {x qual : Str} {params : Arguments} {body : List Stmt} {scope : Scope} {f : Addr} {fd : FuncData} {ps ks : List Str} {is : List Nat} (F : FunD K x qual params body scope [] [] f fd)
    (h : ∀ (kV doc pm : Value) (an : Option Addr) (cdv ct : Value) (ws : List Value), ws.length = ks.length → bindArgs (PySem.W.fnOf x qual params body scope .none kV doc pm an cdv ct) ⟨[], ks.zip ws⟩ = pure (ps.zip (permL is ws))) (s : Shared) (ws : List Value) (hl : ws.length = ks.length) :
    BindsTo s fd ⟨[], ks.zip ws⟩ (ps.zip (permL is ws)) := by
  obtain ⟨oc, od, dV, kV, doc, pm, an, cdv, ct, osl, rfl, lk, hcd, hD, hK⟩ := F.ex
  rcases hD with ⟨_, rfl⟩ | ⟨e, _⟩
  · exact .of_eq (h kV doc pm an cdv ct ws hl)
  · exact absurd rfl e
theorem gconst_int {W : Wd} {x : Str} {i : Int} (h : ∃ t, W.mg x = some (.int i t)) : GConst W x (.int i) := by
  obtain ⟨t, h⟩ := h
  exact ⟨⟨_, .int i, h, ⟨t, rfl⟩, fun _ => rfl⟩⟩
theorem code_at {K : PySem.W.Frag} {p : He.Defn} {x qual : Str} {st : Stmt} {fd : FuncData} (F : FnP K x qual st (He.fAd K p) fd) : fd.code = .ref (He.cT K p).1 := by
  obtain ⟨oc, od, dV, kV, doc, pm, an, cdv, ct, osl, rfl, lk, hcd, hD, hK⟩ := F.ex
  obtain ⟨c, rfl⟩ := He.codeIn_ref hcd
  show Value.ref c = .ref (He.codeOf K p)
  rw [He.codeOf_eq lk rfl]
/-- DCls without a world -/
structure DCls0 (K : PySem.W.Frag) (C : Addr) (ns : List Str) : Prop where
  cl : Cls K C
  na : ∀ f ∈ ns, NoAttr K C f
  nd : ns.Nodup
  few : ns.length < 1000
theorem DCls0.at {W : Wd} {C : Addr} {ns : List Str} (h : DCls0 W.K C ns) : DCls W C ns := ⟨h.cl, h.na, h.nd, h.few⟩
end DD
namespace DD
open PySem PySem.Spec PyProof.Rows L2
/-! ### the text by places -/
def topS (i : Nat) : Stmt := PySem.Challenge.pw_wayorring_k67_drawn_cases.main.body.getD i (.Pass ⟨0, 0, 0, 0⟩)
abbrev n_Drawer : List Str := ["numbers", "place", "state"]
abbrev c_FACTOR : D := .int 1103515245
abbrev c_MORE : D := .int 12345
abbrev c_ROUND : D := .int 2147483648
abbrev c_CUT : D := .int 65536
/-! ### Drawer.__init__ -/
abbrev s_Drawer_init : Stmt := inClass (topS 5) 0
abbrev N_Drawer_init : List Str := ["self", "numbers", "place", "number"]
abbrev P_Drawer_init : List Str := ["self", "numbers"]
theorem sc_Drawer_init : FnScope N_Drawer_init P_Drawer_init (defScope s_Drawer_init) := ⟨rfl, rfl, rfl, by decide +kernel, rfl, by decide +kernel, by decide +kernel⟩
theorem bd_Drawer_init {K : PySem.W.Frag} {f : Addr} {fd : FuncData} (F : FnP K "__init__" "Drawer.__init__" s_Drawer_init f fd) : Binds K fd P_Drawer_init [] := FunD.bindsN F fun _ _ _ _ _ _ us hl => match us, hl with | [_, _], _ => rfl
def r_Drawer_init (C_Drawer : Addr) (P_t : Addr) : DS := sSeq (sFldD C_Drawer n_Drawer 0 (dVar 0) (dVar 1)) (sSeq (sFldD C_Drawer n_Drawer 1 (dVar 0) (dC (.int 0))) (sFldD C_Drawer n_Drawer 2 (dVar 0) (dSumEnum P_t (fun i n => MulOk n (i + 1)) (fun i n => (n * (i + 1))) (aCons (dVar 1) (aNil)))))
theorem body_Drawer_init {W : Wd} {k : Nat} {C_Drawer : Addr} {P_t : Addr} (c_Drawer : DCls W C_Drawer n_Drawer) (nb : NB W) {c_t : Addr} (TB : GxR.TabB W.base W.mg c_t P_t) : BodyC W k N_Drawer_init "Drawer.__init__" (defScope s_Drawer_init) (defBody s_Drawer_init) (.ref c_t) (r_Drawer_init C_Drawer P_t) := fun f A outer s H E hi =>
  have nd := sc_Drawer_init.nd
  pdss_cons (pds_fld c_Drawer hi (i := 0) rfl (pd_var (pv 0)) (pd_var (pv 1)))
      (pdss_cons (pds_fld c_Drawer hi (i := 1) rfl (pd_var (pv 0)) (pd_int))
      (pdss_one (pds_fld c_Drawer hi (i := 2) rfl (pd_var (pv 0)) (pd_sumEnum (C := (fun i n => MulOk n (i + 1))) hi.room (hi.tab TB) (by rfl) (genS2_plain rfl rfl (by decide +kernel) rfl rfl rfl (by decide +kernel)) (by rfl) nb.sum (by rfl) nb.enumerate (pda_cons (pd_var (pv 1)) (pda_nil)) (qe_mul (qe_b rfl rfl) (qe_add (qe_a rfl rfl) qe_c) (fun i n h => h))))))
/-! ### Drawer.draw -/
abbrev s_Drawer_draw : Stmt := inClass (topS 5) 1
abbrev N_Drawer_draw : List Str := ["self", "more"]
abbrev P_Drawer_draw : List Str := ["self"]
theorem sc_Drawer_draw : FnScope N_Drawer_draw P_Drawer_draw (defScope s_Drawer_draw) := ⟨rfl, rfl, rfl, by decide +kernel, rfl, by decide +kernel, by decide +kernel⟩
theorem bd_Drawer_draw {K : PySem.W.Frag} {f : Addr} {fd : FuncData} (F : FnP K "draw" "Drawer.draw" s_Drawer_draw f fd) : Binds K fd P_Drawer_draw [] := FunD.bindsN F fun _ _ _ _ _ _ us hl => match us, hl with | [_], _ => rfl
def r_Drawer_draw (C_Drawer : Addr) : DS := sSeq (sAsg (dBin gIx (dFld C_Drawer n_Drawer 0 (dVar 0)) (dBin gMod (dFld C_Drawer n_Drawer 1 (dVar 0)) (dCB gLen (aCons (dFld C_Drawer n_Drawer 0 (dVar 0)) (aNil))))) (gNm 1)) (sSeq (sFldD C_Drawer n_Drawer 2 (dVar 0) (dBin gMod (dBin gAdd (dBin gAdd (dBin gMul (dFld C_Drawer n_Drawer 2 (dVar 0)) (dC c_FACTOR)) (dC c_MORE)) (dVar 1)) (dC c_ROUND))) (sSeq (sFldAugD C_Drawer n_Drawer 1 (dVar 0) (dC (.int 1)) gAddI) (sRet (dBin gDiv (dFld C_Drawer n_Drawer 2 (dVar 0)) (dC c_CUT)))))
theorem body_Drawer_draw {W : Wd} {k : Nat} {C_Drawer : Addr} (c_Drawer : DCls W C_Drawer n_Drawer) (gc_FACTOR : GConst W "FACTOR" c_FACTOR) (gc_MORE : GConst W "MORE" c_MORE) (gc_ROUND : GConst W "ROUND" c_ROUND) (gc_CUT : GConst W "CUT" c_CUT) (nb : NB W) : Body W k N_Drawer_draw "Drawer.draw" (defScope s_Drawer_draw) (defBody s_Drawer_draw) (r_Drawer_draw C_Drawer) := fun f cdv A outer s H E hi =>
  have nd := sc_Drawer_draw.nd
  pdss_cons (pds_set (i := 1) nd rfl (by first | exact .inl rfl | exact .inr rfl) (pd_ix (pd_fld c_Drawer hi rfl (pd_var (pv 0))) (pd_op op_modN od_mod (pd_fld c_Drawer hi rfl (pd_var (pv 0))) (pd_callB call_lenA cd_len (by rfl) nb.len (by decide +kernel) (pda_cons (pd_fld c_Drawer hi rfl (pd_var (pv 0))) (pda_nil))))))
      (pdss_cons (pds_fld c_Drawer hi (i := 2) rfl (pd_var (pv 0)) (pd_op op_modN od_mod (pd_op op_addA od_add (pd_op op_addA od_add (pd_op op_mulG od_mul (pd_fld c_Drawer hi rfl (pd_var (pv 0))) ((gc_FACTOR.pd hi rfl))) ((gc_MORE.pd hi rfl))) (pd_var (pv 1))) ((gc_ROUND.pd hi rfl))))
      (pdss_cons (pds_fldaug c_Drawer hi (i := 1) rfl (pd_var (pv 0)) (pd_int) in_addI od_addI)
      (pdss_one (pds_ret (pd_op op_fdivG od_div (pd_fld c_Drawer hi rfl (pd_var (pv 0))) ((gc_CUT.pd hi rfl)))))))
/-! ### draws -/
abbrev s_draws : Stmt := topS 6
abbrev N_draws : List Str := ["numbers", "many", "drawer", "_"]
abbrev P_draws : List Str := ["numbers", "many"]
theorem sc_draws : FnScope N_draws P_draws (defScope s_draws) := ⟨rfl, rfl, rfl, by decide +kernel, rfl, by decide +kernel, by decide +kernel⟩
theorem bd_draws {K : PySem.W.Frag} {f : Addr} {fd : FuncData} (F : FnP K "draws" "draws" s_draws f fd) : Binds K fd P_draws [] := FunD.bindsN F fun _ _ _ _ _ _ us hl => match us, hl with | [_, _], _ => rfl
def r_draws (C_Drawer : Addr) (sp_Drawer_init : DSp) (sp_Drawer_draw : DSp) : DS := sSeq (sAsg (dMake C_Drawer n_Drawer sp_Drawer_init (aCons (dVar 0) (aNil))) (gNm 2)) (sRet (dCB gTuple (aCons (dLc (iRange1 (aCons (dVar 1) (aNil))) (gNm 3) (tYesD) (dMeth C_Drawer n_Drawer sp_Drawer_draw (dVar 2) aNil) [3]) (aNil))))
theorem body_draws {W : Wd} {k : Nat} {C_Drawer : Addr} {sp_Drawer_init : DSp} {sp_Drawer_draw : DSp} (hk : 0 < k) (mk_Drawer : CFn W (k - 1) "Drawer" C_Drawer n_Drawer P_Drawer_init sp_Drawer_init) (ret_Drawer : ∀ xs M R, sp_Drawer_init xs M R → sp_Drawer_init xs M fun d M2 => d = .non ∧ R d M2) (m_Drawer_draw : MFn W k C_Drawer n_Drawer "draw" P_Drawer_draw sp_Drawer_draw) (nb : NB W) : Body W k N_draws "draws" (defScope s_draws) (defBody s_draws) (r_draws C_Drawer sp_Drawer_init sp_Drawer_draw) := fun f cdv A outer s H E hi =>
  have nd := sc_draws.nd
  pdss_cons (pds_set (i := 2) nd rfl (by first | exact .inl rfl | exact .inr rfl) (pd_makeS hk mk_Drawer hi (by rfl) (pda_cons (pd_var (pv 0)) (pda_nil)) ret_Drawer))
      (pdss_one (pds_ret (pd_callTy call_tuple_of cd_tuple (by rfl) nb.tuple_ (by decide +kernel) (pda_cons (pd_lc rfl nd (pdi_range1 (by rfl) nb.range (pda_cons (pd_var (pv 1)) (pda_nil))) (blkOk_by (own := [("_", 3)]) (by show blkC N_draws (defScope s_draws) _ _ = true; decide +kernel)) (fun _ _ _ _ _ => pdg_name (pg_name (i := 3) nd rfl (by first | exact .inl rfl | exact .inr rfl))) (fun _ _ _ _ _ => pdts_nil) (fun _ _ _ _ _ => pd_meth0 m_Drawer_draw hi.blk (pd_var (pv 2))) (by decide)) (pda_nil)))))
/-! ### drawn_polynomial -/
abbrev s_drawn_polynomial : Stmt := topS 7
abbrev N_drawn_polynomial : List Str := ["numbers", "degree", "drawer", "lower", "_"]
abbrev P_drawn_polynomial : List Str := ["numbers", "degree"]
theorem sc_drawn_polynomial : FnScope N_drawn_polynomial P_drawn_polynomial (defScope s_drawn_polynomial) := ⟨rfl, rfl, rfl, by decide +kernel, rfl, by decide +kernel, by decide +kernel⟩
theorem bd_drawn_polynomial {K : PySem.W.Frag} {f : Addr} {fd : FuncData} (F : FnP K "drawn_polynomial" "drawn_polynomial" s_drawn_polynomial f fd) : Binds K fd P_drawn_polynomial [] := FunD.bindsN F fun _ _ _ _ _ _ us hl => match us, hl with | [_, _], _ => rfl
def r_drawn_polynomial (C_Drawer : Addr) (sp_Drawer_init : DSp) (sp_Drawer_draw : DSp) : DS := sSeq (sAsg (dMake C_Drawer n_Drawer sp_Drawer_init (aCons (dVar 0) (aNil))) (gNm 2)) (sSeq (sAsg (dLc (iRange1 (aCons (dVar 1) (aNil))) (gNm 4) (tYesD) (dBin gSub (dBin gMod (dMeth C_Drawer n_Drawer sp_Drawer_draw (dVar 2) aNil) (dC (.int 19))) (dC (.int 9))) [4]) (gNm 3)) (sRet (dCB gTuple (aCons (dBin gAdd (dVar 3) (dLst (aCons (dBin gAdd (dBin gMod (dMeth C_Drawer n_Drawer sp_Drawer_draw (dVar 2) aNil) (dC (.int 9))) (dC (.int 1))) (aNil)))) (aNil)))))
theorem body_drawn_polynomial {W : Wd} {k : Nat} {C_Drawer : Addr} {sp_Drawer_init : DSp} {sp_Drawer_draw : DSp} (hk : 0 < k) (mk_Drawer : CFn W (k - 1) "Drawer" C_Drawer n_Drawer P_Drawer_init sp_Drawer_init) (ret_Drawer : ∀ xs M R, sp_Drawer_init xs M R → sp_Drawer_init xs M fun d M2 => d = .non ∧ R d M2) (m_Drawer_draw : MFn W k C_Drawer n_Drawer "draw" P_Drawer_draw sp_Drawer_draw) (nb : NB W) : Body W k N_drawn_polynomial "drawn_polynomial" (defScope s_drawn_polynomial) (defBody s_drawn_polynomial) (r_drawn_polynomial C_Drawer sp_Drawer_init sp_Drawer_draw) := fun f cdv A outer s H E hi =>
  have nd := sc_drawn_polynomial.nd
  pdss_cons (pds_set (i := 2) nd rfl (by first | exact .inl rfl | exact .inr rfl) (pd_makeS hk mk_Drawer hi (by rfl) (pda_cons (pd_var (pv 0)) (pda_nil)) ret_Drawer))
      (pdss_cons (pds_setLc (i := 3) rfl nd rfl rfl (sw_true rfl rfl rfl (by decide +kernel)) (pdi_range1 (by rfl) nb.range (pda_cons (pd_var (pv 1)) (pda_nil))) (blkOk_by (own := [("_", 4)]) (by show blkC N_drawn_polynomial (defScope s_drawn_polynomial) _ _ = true; decide +kernel)) (fun _ _ _ _ _ => pdg_name (pg_name (i := 4) nd rfl (by first | exact .inl rfl | exact .inr rfl))) (fun _ _ _ _ _ => pdts_nil) (fun _ _ _ _ _ => pd_op op_sub od_sub (pd_op op_modN od_mod (pd_meth0 m_Drawer_draw hi.blk (pd_var (pv 2))) (pd_int)) (pd_int)) (by decide))
      (pdss_one (pds_ret (pd_callTy call_tuple_of cd_tuple (by rfl) nb.tuple_ (by decide +kernel) (pda_cons (pd_op op_addA od_add (pd_var (pv 3)) (pd_lst (pda_cons (pd_op op_addA od_add (pd_op op_modN od_mod (pd_meth0 m_Drawer_draw hi (pd_var (pv 2))) (pd_int)) (pd_int)) (pda_nil)))) (pda_nil))))))
/-! ### drawn_point -/
abbrev s_drawn_point : Stmt := topS 8
abbrev N_drawn_point : List Str := ["drawer", "x"]
abbrev P_drawn_point : List Str := ["drawer"]
theorem sc_drawn_point : FnScope N_drawn_point P_drawn_point (defScope s_drawn_point) := ⟨rfl, rfl, rfl, by decide +kernel, rfl, by decide +kernel, by decide +kernel⟩
theorem bd_drawn_point {K : PySem.W.Frag} {f : Addr} {fd : FuncData} (F : FnP K "drawn_point" "drawn_point" s_drawn_point f fd) : Binds K fd P_drawn_point [] := FunD.bindsN F fun _ _ _ _ _ _ us hl => match us, hl with | [_], _ => rfl
def r_drawn_point (C_Drawer : Addr) (sp_Drawer_draw : DSp) : DS := sSeq (sAsg (dBin gSub (dBin gMod (dMeth C_Drawer n_Drawer sp_Drawer_draw (dVar 0) aNil) (dC (.int 41))) (dC (.int 20))) (gNm 1)) (sRet (dTup (aCons (dTup (aCons (dVar 1) (aCons (dC (.int 1)) (aNil)))) (aCons (dTup (aCons (dBin gSub (dBin gMod (dMeth C_Drawer n_Drawer sp_Drawer_draw (dVar 0) aNil) (dC (.int 41))) (dC (.int 20))) (aCons (dC (.int 1)) (aNil)))) (aNil)))))
theorem body_drawn_point {W : Wd} {k : Nat} {C_Drawer : Addr} {sp_Drawer_draw : DSp} (m_Drawer_draw : MFn W k C_Drawer n_Drawer "draw" P_Drawer_draw sp_Drawer_draw) : Body W k N_drawn_point "drawn_point" (defScope s_drawn_point) (defBody s_drawn_point) (r_drawn_point C_Drawer sp_Drawer_draw) := fun f cdv A outer s H E hi =>
  have nd := sc_drawn_point.nd
  pdss_cons (pds_set (i := 1) nd rfl (by first | exact .inl rfl | exact .inr rfl) (pd_op op_sub od_sub (pd_op op_modN od_mod (pd_meth0 m_Drawer_draw hi (pd_var (pv 0))) (pd_int)) (pd_int)))
      (pdss_one (pds_ret (pd_tup (pda_cons (pd_tup (pda_cons (pd_var (pv 1)) (pda_cons (pd_int) (pda_nil)))) (pda_cons (pd_tup (pda_cons (pd_op op_sub od_sub (pd_op op_modN od_mod (pd_meth0 m_Drawer_draw hi (pd_var (pv 0))) (pd_int)) (pd_int)) (pda_cons (pd_int) (pda_nil)))) (pda_nil))))))
/-! ### drawn_wall -/
abbrev s_drawn_wall : Stmt := topS 9
abbrev N_drawn_wall : List Str := ["drawer", "number", "many", "_", "middle"]
abbrev P_drawn_wall : List Str := ["drawer", "number"]
theorem sc_drawn_wall : FnScope N_drawn_wall P_drawn_wall (defScope s_drawn_wall) := ⟨rfl, rfl, rfl, by decide +kernel, rfl, by decide +kernel, by decide +kernel⟩
theorem bd_drawn_wall {K : PySem.W.Frag} {f : Addr} {fd : FuncData} (F : FnP K "drawn_wall" "drawn_wall" s_drawn_wall f fd) : Binds K fd P_drawn_wall [] := FunD.bindsN F fun _ _ _ _ _ _ us hl => match us, hl with | [_, _], _ => rfl
def r_drawn_wall (C_Drawer : Addr) (sp_Drawer_draw : DSp) (sp_drawn_point : DSp) : DS := sSeq (sIf (dTest (dBin gEq (dBin gMod (dVar 1) (dC (.int 2))) (dC (.int 0)))) (sSeq (sAsg (dBin gAdd (dBin gMod (dMeth C_Drawer n_Drawer sp_Drawer_draw (dVar 0) aNil) (dC (.int 3))) (dC (.int 1))) (gNm 2)) (sRet (dTup (aCons (dC (.str "hull")) (aCons (dCB gTuple (aCons (dLc (iRange1 (aCons (dVar 2) (aNil))) (gNm 3) (tYesD) (dCall sp_drawn_point (aCons (dVar 0) (aNil))) [3]) (aNil))) (aNil)))))) (sNext)) (sSeq (sAsg (dCall sp_drawn_point (aCons (dVar 0) (aNil))) (gNm 4)) (sRet (dTup (aCons (dC (.str "disc")) (aCons (dVar 4) (aCons (dTup (aCons (dBin gAdd (dBin gMod (dMeth C_Drawer n_Drawer sp_Drawer_draw (dVar 0) aNil) (dC (.int 4))) (dC (.int 1))) (aCons (dC (.int 1)) (aNil)))) (aNil)))))))
theorem body_drawn_wall {W : Wd} {k : Nat} {C_Drawer : Addr} {sp_Drawer_draw : DSp} {sp_drawn_point : DSp} (m_Drawer_draw : MFn W k C_Drawer n_Drawer "draw" P_Drawer_draw sp_Drawer_draw) (f_drawn_point : GFn W k "drawn_point" P_drawn_point sp_drawn_point) (nb : NB W) : Body W k N_drawn_wall "drawn_wall" (defScope s_drawn_wall) (defBody s_drawn_wall) (r_drawn_wall C_Drawer sp_Drawer_draw sp_drawn_point) := fun f cdv A outer s H E hi =>
  have nd := sc_drawn_wall.nd
  pdss_cons (pds_if (pdt_cmp (op_eqD hi.room.units) od_eq (pd_op op_modN od_mod (pd_var (pv 1)) (pd_int)) (pd_int) (nomark _)) (pdss_cons (pds_set (i := 2) nd rfl (by first | exact .inl rfl | exact .inr rfl) (pd_op op_addA od_add (pd_op op_modN od_mod (pd_meth0 m_Drawer_draw hi (pd_var (pv 0))) (pd_int)) (pd_int)))
      (pdss_one (pds_ret (pd_tup (pda_cons (pd_str) (pda_cons (pd_callTy call_tuple_of cd_tuple (by rfl) nb.tuple_ (by decide +kernel) (pda_cons (pd_lc rfl nd (pdi_range1 (by rfl) nb.range (pda_cons (pd_var (pv 2)) (pda_nil))) (blkOk_by (own := [("_", 3)]) (by show blkC N_drawn_wall (defScope s_drawn_wall) _ _ = true; decide +kernel)) (fun _ _ _ _ _ => pdg_name (pg_name (i := 3) nd rfl (by first | exact .inl rfl | exact .inr rfl))) (fun _ _ _ _ _ => pdts_nil) (fun _ _ _ _ _ => pd_call f_drawn_point hi.blk (by rfl) (pda_cons (pd_var (pv 0)) (pda_nil))) (by decide)) (pda_nil))) (pda_nil))))))) (pdss_nil))
      (pdss_cons (pds_set (i := 4) nd rfl (by first | exact .inl rfl | exact .inr rfl) (pd_call f_drawn_point hi (by rfl) (pda_cons (pd_var (pv 0)) (pda_nil))))
      (pdss_one (pds_ret (pd_tup (pda_cons (pd_str) (pda_cons (pd_var (pv 4)) (pda_cons (pd_tup (pda_cons (pd_op op_addA od_add (pd_op op_modN od_mod (pd_meth0 m_Drawer_draw hi (pd_var (pv 0))) (pd_int)) (pd_int)) (pda_cons (pd_int) (pda_nil)))) (pda_nil))))))))
/-! ### drawn_terms -/
abbrev s_drawn_terms : Stmt := topS 10
abbrev N_drawn_terms : List Str := ["rows", "number", "i", "j"]
abbrev P_drawn_terms : List Str := ["rows"]
theorem sc_drawn_terms : FnScope N_drawn_terms P_drawn_terms (defScope s_drawn_terms) := ⟨rfl, rfl, rfl, by decide +kernel, rfl, by decide +kernel, by decide +kernel⟩
theorem bd_drawn_terms {K : PySem.W.Frag} {f : Addr} {fd : FuncData} (F : FnP K "drawn_terms" "drawn_terms" s_drawn_terms f fd) : Binds K fd P_drawn_terms [] := FunD.bindsN F fun _ _ _ _ _ _ us hl => match us, hl with | [_], _ => rfl
def r_drawn_terms  : DS := sRet (dCB gTuple (aCons (dCB gSorted (aCons (dLc (iSeq (dVar 0)) (gUnp 2 (gsCons (gUnp 2 (gsCons (gNm 2) (gsCons (gNm 3) (gsNil)))) (gsCons (gNm 1) (gsNil)))) (dTru (dVar 1)) (dTup (aCons (dTup (aCons (dVar 2) (aCons (dVar 3) (aCons (dC (.int 0)) (aNil))))) (aCons (dVar 1) (aNil)))) [1, 2, 3]) (aNil))) (aNil)))
theorem body_drawn_terms {W : Wd} {k : Nat}  (nb : NB W) : Body W k N_drawn_terms "drawn_terms" (defScope s_drawn_terms) (defBody s_drawn_terms) (r_drawn_terms ) := fun f cdv A outer s H E hi =>
  have nd := sc_drawn_terms.nd
  pdss_one (pds_ret (pd_callTy call_tuple_of cd_tuple (by rfl) nb.tuple_ (by decide +kernel) (pda_cons (pd_callB (cr_sortedD hi.room.units) cd_sorted (by rfl) nb.sorted (by decide +kernel) (pda_cons (pd_lc rfl nd (pdi_seq (pd_var (pv 0))) (blkOk_by (own := [("number", 1), ("i", 2), ("j", 3)]) (by show blkC N_drawn_terms (defScope s_drawn_terms) _ _ = true; decide +kernel)) (fun _ _ _ _ _ => pdg_tup rfl (pdgs_cons (pdg_tup rfl (pdgs_cons (pdg_name (pg_name (i := 2) nd rfl (by first | exact .inl rfl | exact .inr rfl))) (pdgs_cons (pdg_name (pg_name (i := 3) nd rfl (by first | exact .inl rfl | exact .inr rfl))) (pdgs_nil)))) (pdgs_cons (pdg_name (pg_name (i := 1) nd rfl (by first | exact .inl rfl | exact .inr rfl))) (pdgs_nil)))) (fun _ _ _ _ _ => pdts_one (pdt_tru (pd_var (pv 1)))) (fun _ _ _ _ _ => pd_tup (pda_cons (pd_tup (pda_cons (pd_var (pv 2)) (pda_cons (pd_var (pv 3)) (pda_cons (pd_int) (pda_nil))))) (pda_cons (pd_var (pv 1)) (pda_nil)))) (by decide)) (pda_nil))) (pda_nil))))
/-! ### drawn_conic -/
abbrev s_drawn_conic : Stmt := topS 11
abbrev N_drawn_conic : List Str := ["drawer", "c", "d", "e", "f", "g", "_"]
abbrev P_drawn_conic : List Str := ["drawer"]
theorem sc_drawn_conic : FnScope N_drawn_conic P_drawn_conic (defScope s_drawn_conic) := ⟨rfl, rfl, rfl, by decide +kernel, rfl, by decide +kernel, by decide +kernel⟩
theorem bd_drawn_conic {K : PySem.W.Frag} {f : Addr} {fd : FuncData} (F : FnP K "drawn_conic" "drawn_conic" s_drawn_conic f fd) : Binds K fd P_drawn_conic [] := FunD.bindsN F fun _ _ _ _ _ _ us hl => match us, hl with | [_], _ => rfl
def r_drawn_conic (C_Drawer : Addr) (sp_Drawer_draw : DSp) (sp_drawn_terms : DSp) : DS := sSeq (sAsg (dBin gSub (dBin gMod (dMeth C_Drawer n_Drawer sp_Drawer_draw (dVar 0) aNil) (dC (.int 3))) (dC (.int 1))) (gNm 1)) (sSeq (sAsg (dLc (iRange1 (aCons (dC (.int 4)) (aNil))) (gNm 6) (tYesD) (dBin gSub (dBin gMod (dMeth C_Drawer n_Drawer sp_Drawer_draw (dVar 0) aNil) (dC (.int 7))) (dC (.int 3))) [6]) (gUnp 4 (gsCons (gNm 2) (gsCons (gNm 3) (gsCons (gNm 4) (gsCons (gNm 5) (gsNil))))))) (sRet (dCall sp_drawn_terms (aCons (dTup (aCons (dTup (aCons (dTup (aCons (dC (.int 2)) (aCons (dC (.int 0)) (aNil)))) (aCons (dC (.int 1)) (aNil)))) (aCons (dTup (aCons (dTup (aCons (dC (.int 0)) (aCons (dC (.int 2)) (aNil)))) (aCons (dVar 1) (aNil)))) (aCons (dTup (aCons (dTup (aCons (dC (.int 1)) (aCons (dC (.int 1)) (aNil)))) (aCons (dVar 2) (aNil)))) (aCons (dTup (aCons (dTup (aCons (dC (.int 1)) (aCons (dC (.int 0)) (aNil)))) (aCons (dVar 3) (aNil)))) (aCons (dTup (aCons (dTup (aCons (dC (.int 0)) (aCons (dC (.int 1)) (aNil)))) (aCons (dVar 4) (aNil)))) (aCons (dTup (aCons (dTup (aCons (dC (.int 0)) (aCons (dC (.int 0)) (aNil)))) (aCons (dVar 5) (aNil)))) (aNil)))))))) (aNil)))))
theorem body_drawn_conic {W : Wd} {k : Nat} {C_Drawer : Addr} {sp_Drawer_draw : DSp} {sp_drawn_terms : DSp} (m_Drawer_draw : MFn W k C_Drawer n_Drawer "draw" P_Drawer_draw sp_Drawer_draw) (f_drawn_terms : GFn W k "drawn_terms" P_drawn_terms sp_drawn_terms) (nb : NB W) : Body W k N_drawn_conic "drawn_conic" (defScope s_drawn_conic) (defBody s_drawn_conic) (r_drawn_conic C_Drawer sp_Drawer_draw sp_drawn_terms) := fun f cdv A outer s H E hi =>
  have nd := sc_drawn_conic.nd
  pdss_cons (pds_set (i := 1) nd rfl (by first | exact .inl rfl | exact .inr rfl) (pd_op op_sub od_sub (pd_op op_modN od_mod (pd_meth0 m_Drawer_draw hi (pd_var (pv 0))) (pd_int)) (pd_int)))
      (pdss_cons (pds_asg (pd_lc rfl nd (pdi_range1 (by rfl) nb.range (pda_cons (pd_int) (pda_nil))) (blkOk_by (own := [("_", 6)]) (by show blkC N_drawn_conic (defScope s_drawn_conic) _ _ = true; decide +kernel)) (fun _ _ _ _ _ => pdg_name (pg_name (i := 6) nd rfl (by first | exact .inl rfl | exact .inr rfl))) (fun _ _ _ _ _ => pdts_nil) (fun _ _ _ _ _ => pd_op op_sub od_sub (pd_op op_modN od_mod (pd_meth0 m_Drawer_draw hi.blk (pd_var (pv 0))) (pd_int)) (pd_int)) (by decide)) (pdg_tup rfl (pdgs_cons (pdg_name (pg_name (i := 2) nd rfl (by first | exact .inl rfl | exact .inr rfl))) (pdgs_cons (pdg_name (pg_name (i := 3) nd rfl (by first | exact .inl rfl | exact .inr rfl))) (pdgs_cons (pdg_name (pg_name (i := 4) nd rfl (by first | exact .inl rfl | exact .inr rfl))) (pdgs_cons (pdg_name (pg_name (i := 5) nd rfl (by first | exact .inl rfl | exact .inr rfl))) (pdgs_nil)))))))
      (pdss_one (pds_ret (pd_call f_drawn_terms hi (by rfl) (pda_cons (pd_tup (pda_cons (pd_tup (pda_cons (pd_tup (pda_cons (pd_int) (pda_cons (pd_int) (pda_nil)))) (pda_cons (pd_int) (pda_nil)))) (pda_cons (pd_tup (pda_cons (pd_tup (pda_cons (pd_int) (pda_cons (pd_int) (pda_nil)))) (pda_cons (pd_var (pv 1)) (pda_nil)))) (pda_cons (pd_tup (pda_cons (pd_tup (pda_cons (pd_int) (pda_cons (pd_int) (pda_nil)))) (pda_cons (pd_var (pv 2)) (pda_nil)))) (pda_cons (pd_tup (pda_cons (pd_tup (pda_cons (pd_int) (pda_cons (pd_int) (pda_nil)))) (pda_cons (pd_var (pv 3)) (pda_nil)))) (pda_cons (pd_tup (pda_cons (pd_tup (pda_cons (pd_int) (pda_cons (pd_int) (pda_nil)))) (pda_cons (pd_var (pv 4)) (pda_nil)))) (pda_cons (pd_tup (pda_cons (pd_tup (pda_cons (pd_int) (pda_cons (pd_int) (pda_nil)))) (pda_cons (pd_var (pv 5)) (pda_nil)))) (pda_nil)))))))) (pda_nil))))))
/-! ### drawn_line -/
abbrev s_drawn_line : Stmt := topS 12
abbrev N_drawn_line : List Str := ["drawer", "e", "f", "g", "_"]
abbrev P_drawn_line : List Str := ["drawer"]
theorem sc_drawn_line : FnScope N_drawn_line P_drawn_line (defScope s_drawn_line) := ⟨rfl, rfl, rfl, by decide +kernel, rfl, by decide +kernel, by decide +kernel⟩
theorem bd_drawn_line {K : PySem.W.Frag} {f : Addr} {fd : FuncData} (F : FnP K "drawn_line" "drawn_line" s_drawn_line f fd) : Binds K fd P_drawn_line [] := FunD.bindsN F fun _ _ _ _ _ _ us hl => match us, hl with | [_], _ => rfl
def r_drawn_line (C_Drawer : Addr) (sp_Drawer_draw : DSp) (sp_drawn_terms : DSp) : DS := sSeq (sAsg (dLc (iRange1 (aCons (dC (.int 3)) (aNil))) (gNm 4) (tYesD) (dBin gSub (dBin gMod (dMeth C_Drawer n_Drawer sp_Drawer_draw (dVar 0) aNil) (dC (.int 7))) (dC (.int 3))) [4]) (gUnp 3 (gsCons (gNm 1) (gsCons (gNm 2) (gsCons (gNm 3) (gsNil)))))) (sSeq (sIf (dAnd (dTest (dBin gEq (dVar 1) (dC (.int 0)))) (dTest (dBin gEq (dVar 2) (dC (.int 0))))) (sAsg (dC (.int 4)) (gNm 1)) (sNext)) (sRet (dCall sp_drawn_terms (aCons (dTup (aCons (dTup (aCons (dTup (aCons (dC (.int 1)) (aCons (dC (.int 0)) (aNil)))) (aCons (dVar 1) (aNil)))) (aCons (dTup (aCons (dTup (aCons (dC (.int 0)) (aCons (dC (.int 1)) (aNil)))) (aCons (dVar 2) (aNil)))) (aCons (dTup (aCons (dTup (aCons (dC (.int 0)) (aCons (dC (.int 0)) (aNil)))) (aCons (dVar 3) (aNil)))) (aNil))))) (aNil)))))
theorem body_drawn_line {W : Wd} {k : Nat} {C_Drawer : Addr} {sp_Drawer_draw : DSp} {sp_drawn_terms : DSp} (m_Drawer_draw : MFn W k C_Drawer n_Drawer "draw" P_Drawer_draw sp_Drawer_draw) (f_drawn_terms : GFn W k "drawn_terms" P_drawn_terms sp_drawn_terms) (nb : NB W) : Body W k N_drawn_line "drawn_line" (defScope s_drawn_line) (defBody s_drawn_line) (r_drawn_line C_Drawer sp_Drawer_draw sp_drawn_terms) := fun f cdv A outer s H E hi =>
  have nd := sc_drawn_line.nd
  pdss_cons (pds_asg (pd_lc rfl nd (pdi_range1 (by rfl) nb.range (pda_cons (pd_int) (pda_nil))) (blkOk_by (own := [("_", 4)]) (by show blkC N_drawn_line (defScope s_drawn_line) _ _ = true; decide +kernel)) (fun _ _ _ _ _ => pdg_name (pg_name (i := 4) nd rfl (by first | exact .inl rfl | exact .inr rfl))) (fun _ _ _ _ _ => pdts_nil) (fun _ _ _ _ _ => pd_op op_sub od_sub (pd_op op_modN od_mod (pd_meth0 m_Drawer_draw hi.blk (pd_var (pv 0))) (pd_int)) (pd_int)) (by decide)) (pdg_tup rfl (pdgs_cons (pdg_name (pg_name (i := 1) nd rfl (by first | exact .inl rfl | exact .inr rfl))) (pdgs_cons (pdg_name (pg_name (i := 2) nd rfl (by first | exact .inl rfl | exact .inr rfl))) (pdgs_cons (pdg_name (pg_name (i := 3) nd rfl (by first | exact .inl rfl | exact .inr rfl))) (pdgs_nil))))))
      (pdss_cons (pds_if ((pdw_and (pdt_cmp (op_eqD hi.room.units) od_eq (pd_var (pv 1)) (pd_int) (nomark _)) (pdw_and1 (pdt_cmp (op_eqD hi.room.units) od_eq (pd_var (pv 2)) (pd_int) (nomark _)))).pt) (pdss_one (pds_set (i := 1) nd rfl (by first | exact .inl rfl | exact .inr rfl) (pd_int))) (pdss_nil))
      (pdss_one (pds_ret (pd_call f_drawn_terms hi (by rfl) (pda_cons (pd_tup (pda_cons (pd_tup (pda_cons (pd_tup (pda_cons (pd_int) (pda_cons (pd_int) (pda_nil)))) (pda_cons (pd_var (pv 1)) (pda_nil)))) (pda_cons (pd_tup (pda_cons (pd_tup (pda_cons (pd_int) (pda_cons (pd_int) (pda_nil)))) (pda_cons (pd_var (pv 2)) (pda_nil)))) (pda_cons (pd_tup (pda_cons (pd_tup (pda_cons (pd_int) (pda_cons (pd_int) (pda_nil)))) (pda_cons (pd_var (pv 3)) (pda_nil)))) (pda_nil))))) (pda_nil))))))
/-! ### drawn_plane -/
abbrev s_drawn_plane : Stmt := topS 13
abbrev N_drawn_plane : List Str := ["numbers", "many", "drawer", "number"]
abbrev P_drawn_plane : List Str := ["numbers", "many"]
theorem sc_drawn_plane : FnScope N_drawn_plane P_drawn_plane (defScope s_drawn_plane) := ⟨rfl, rfl, rfl, by decide +kernel, rfl, by decide +kernel, by decide +kernel⟩
theorem bd_drawn_plane {K : PySem.W.Frag} {f : Addr} {fd : FuncData} (F : FnP K "drawn_plane" "drawn_plane" s_drawn_plane f fd) : Binds K fd P_drawn_plane [] := FunD.bindsN F fun _ _ _ _ _ _ us hl => match us, hl with | [_, _], _ => rfl
def r_drawn_plane (C_Drawer : Addr) (sp_Drawer_init : DSp) (sp_drawn_line : DSp) (sp_drawn_conic : DSp) : DS := sSeq (sAsg (dMake C_Drawer n_Drawer sp_Drawer_init (aCons (dVar 0) (aNil))) (gNm 2)) (sRet (dCB gTuple (aCons (dLc (iRange1 (aCons (dVar 1) (aNil))) (gNm 3) (tYesD) (dIf (dTru (dBin gMod (dVar 3) (dC (.int 2)))) (dCall sp_drawn_line (aCons (dVar 2) (aNil))) (dCall sp_drawn_conic (aCons (dVar 2) (aNil)))) [3]) (aNil))))
theorem body_drawn_plane {W : Wd} {k : Nat} {C_Drawer : Addr} {sp_Drawer_init : DSp} {sp_drawn_line : DSp} {sp_drawn_conic : DSp} (hk : 0 < k) (mk_Drawer : CFn W (k - 1) "Drawer" C_Drawer n_Drawer P_Drawer_init sp_Drawer_init) (ret_Drawer : ∀ xs M R, sp_Drawer_init xs M R → sp_Drawer_init xs M fun d M2 => d = .non ∧ R d M2) (f_drawn_line : GFn W k "drawn_line" P_drawn_line sp_drawn_line) (f_drawn_conic : GFn W k "drawn_conic" P_drawn_conic sp_drawn_conic) (nb : NB W) : Body W k N_drawn_plane "drawn_plane" (defScope s_drawn_plane) (defBody s_drawn_plane) (r_drawn_plane C_Drawer sp_Drawer_init sp_drawn_line sp_drawn_conic) := fun f cdv A outer s H E hi =>
  have nd := sc_drawn_plane.nd
  pdss_cons (pds_set (i := 2) nd rfl (by first | exact .inl rfl | exact .inr rfl) (pd_makeS hk mk_Drawer hi (by rfl) (pda_cons (pd_var (pv 0)) (pda_nil)) ret_Drawer))
      (pdss_one (pds_ret (pd_callTy call_tuple_of cd_tuple (by rfl) nb.tuple_ (by decide +kernel) (pda_cons (pd_lc rfl nd (pdi_range1 (by rfl) nb.range (pda_cons (pd_var (pv 1)) (pda_nil))) (blkOk_by (own := [("number", 3)]) (by show blkC N_drawn_plane (defScope s_drawn_plane) _ _ = true; decide +kernel)) (fun _ _ _ _ _ => pdg_name (pg_name (i := 3) nd rfl (by first | exact .inl rfl | exact .inr rfl))) (fun _ _ _ _ _ => pdts_nil) (fun _ _ _ _ _ => pd_ifExp (pdt_tru (pd_op op_modN od_mod (pd_var (pv 3)) (pd_int))) (pd_call f_drawn_line hi.blk (by rfl) (pda_cons (pd_var (pv 2)) (pda_nil))) (pd_call f_drawn_conic hi.blk (by rfl) (pda_cons (pd_var (pv 2)) (pda_nil)))) (by decide)) (pda_nil)))))
/-! ### drawn_scene -/
abbrev s_drawn_scene : Stmt := topS 14
abbrev N_drawn_scene : List Str := ["numbers", "many", "drawer", "number"]
abbrev P_drawn_scene : List Str := ["numbers", "many"]
theorem sc_drawn_scene : FnScope N_drawn_scene P_drawn_scene (defScope s_drawn_scene) := ⟨rfl, rfl, rfl, by decide +kernel, rfl, by decide +kernel, by decide +kernel⟩
theorem bd_drawn_scene {K : PySem.W.Frag} {f : Addr} {fd : FuncData} (F : FnP K "drawn_scene" "drawn_scene" s_drawn_scene f fd) : Binds K fd P_drawn_scene [] := FunD.bindsN F fun _ _ _ _ _ _ us hl => match us, hl with | [_, _], _ => rfl
def r_drawn_scene (C_Drawer : Addr) (sp_Drawer_init : DSp) (sp_drawn_wall : DSp) : DS := sSeq (sAsg (dMake C_Drawer n_Drawer sp_Drawer_init (aCons (dVar 0) (aNil))) (gNm 2)) (sRet (dTup (aCons (dTup (aCons (dC (.str "disc")) (aCons (dTup (aCons (dC (.int 1)) (aCons (dC (.int 1)) (aNil)))) (aNil)))) (aCons (dCB gTuple (aCons (dLc (iRange1 (aCons (dVar 1) (aNil))) (gNm 3) (tYesD) (dCall sp_drawn_wall (aCons (dVar 2) (aCons (dVar 3) (aNil)))) [3]) (aNil))) (aNil)))))
theorem body_drawn_scene {W : Wd} {k : Nat} {C_Drawer : Addr} {sp_Drawer_init : DSp} {sp_drawn_wall : DSp} (hk : 0 < k) (mk_Drawer : CFn W (k - 1) "Drawer" C_Drawer n_Drawer P_Drawer_init sp_Drawer_init) (ret_Drawer : ∀ xs M R, sp_Drawer_init xs M R → sp_Drawer_init xs M fun d M2 => d = .non ∧ R d M2) (f_drawn_wall : GFn W k "drawn_wall" P_drawn_wall sp_drawn_wall) (nb : NB W) : Body W k N_drawn_scene "drawn_scene" (defScope s_drawn_scene) (defBody s_drawn_scene) (r_drawn_scene C_Drawer sp_Drawer_init sp_drawn_wall) := fun f cdv A outer s H E hi =>
  have nd := sc_drawn_scene.nd
  pdss_cons (pds_set (i := 2) nd rfl (by first | exact .inl rfl | exact .inr rfl) (pd_makeS hk mk_Drawer hi (by rfl) (pda_cons (pd_var (pv 0)) (pda_nil)) ret_Drawer))
      (pdss_one (pds_ret (pd_tup (pda_cons (pd_tup (pda_cons (pd_str) (pda_cons (pd_tup (pda_cons (pd_int) (pda_cons (pd_int) (pda_nil)))) (pda_nil)))) (pda_cons (pd_callTy call_tuple_of cd_tuple (by rfl) nb.tuple_ (by decide +kernel) (pda_cons (pd_lc rfl nd (pdi_range1 (by rfl) nb.range (pda_cons (pd_var (pv 1)) (pda_nil))) (blkOk_by (own := [("number", 3)]) (by show blkC N_drawn_scene (defScope s_drawn_scene) _ _ = true; decide +kernel)) (fun _ _ _ _ _ => pdg_name (pg_name (i := 3) nd rfl (by first | exact .inl rfl | exact .inr rfl))) (fun _ _ _ _ _ => pdts_nil) (fun _ _ _ _ _ => pd_call f_drawn_wall hi.blk (by rfl) (pda_cons (pd_var (pv 2)) (pda_cons (pd_var (pv 3)) (pda_nil)))) (by decide)) (pda_nil))) (pda_nil))))))
/-! ### _law_bag -/
abbrev s_l_bag : Stmt := topS 16
abbrev N_l_bag : List Str := ["script", "cells", "cell", "great"]
abbrev P_l_bag : List Str := ["script"]
theorem sc_l_bag : FnScope N_l_bag P_l_bag (defScope s_l_bag) := ⟨rfl, rfl, rfl, by decide +kernel, rfl, by decide +kernel, by decide +kernel⟩
theorem bd_l_bag {K : PySem.W.Frag} {f : Addr} {fd : FuncData} (F : FnP K "_law_bag" "_law_bag" s_l_bag f fd) : Binds K fd P_l_bag [] := FunD.bindsN F fun _ _ _ _ _ _ us hl => match us, hl with | [_], _ => rfl
def r_l_bag  : DS := sSeq (sAsg (dBin gAdd (dLc (iSeq (dVar 0)) (gNm 2) (tYesD) (dCB gAbs (aCons (dCB gInt (aCons (dVar 2) (aNil))) (aNil))) [2]) (dLst (aCons (dC (.int 7)) (aNil)))) (gNm 1)) (sSeq (sAsg (dLst (aNil)) (gNm 3)) (sSeq (sIf (dTest (dBin gEq (dBin gMod (dCB gInt (aCons (dBin gIx (dVar 1) (dC (.int 0))) (aNil))) (dC (.int 2))) (dC (.int 0)))) (sSeq (sAsg (dLc (iSeq (dVar 1)) (gNm 2) (dTest (dBin gGe (dVar 2) (dBin gPow (dC (.int 10)) (dC (.int 18))))) (dBin gDiv (dVar 2) (dC (.int 2))) [2]) (gNm 3)) (sDrop (dBM0 isLst gReverse (dVar 3)))) (sNext)) (sRet (dLst (aCons (dC (.int 0)) (aCons (dC (.int 0)) (aCons (dVar 3) (aCons (dLc (iSeq (dVar 1)) (gNm 2) (tYesD) (dBin gMod (dCB gInt (aCons (dVar 2) (aNil))) (dC (.int 2147483647))) [2]) (aNil)))))))))
theorem body_l_bag {W : Wd} {k : Nat}  (nb : NB W) : Body W k N_l_bag "_law_bag" (defScope s_l_bag) (defBody s_l_bag) (r_l_bag ) := fun f cdv A outer s H E hi =>
  have nd := sc_l_bag.nd
  pdss_cons (pds_set (i := 1) nd rfl (by first | exact .inl rfl | exact .inr rfl) (pd_op op_addA od_add (pd_lc rfl nd (pdi_seq (pd_var (pv 0))) (blkOk_by (own := [("cell", 2)]) (by show blkC N_l_bag (defScope s_l_bag) _ _ = true; decide +kernel)) (fun _ _ _ _ _ => pdg_name (pg_name (i := 2) nd rfl (by first | exact .inl rfl | exact .inr rfl))) (fun _ _ _ _ _ => pdts_nil) (fun _ _ _ _ _ => pd_callB call_abs cd_abs (by rfl) nb.abs (by decide +kernel) (pda_cons (pd_callTy call_int1 cd_int (by rfl) nb.int_ (by decide +kernel) (pda_cons (pd_var (pv 2)) (pda_nil))) (pda_nil))) (by decide)) (pd_lst (pda_cons (pd_int) (pda_nil)))))
      (pdss_cons (pds_set (i := 3) nd rfl (by first | exact .inl rfl | exact .inr rfl) (pd_lst (pda_nil)))
      (pdss_cons (pds_if (pdt_cmp (op_eqD hi.room.units) od_eq (pd_op op_modN od_mod (pd_callTy call_int1 cd_int (by rfl) nb.int_ (by decide +kernel) (pda_cons (pd_ix (pd_var (pv 1)) (pd_int)) (pda_nil))) (pd_int)) (pd_int) (nomark _)) (pdss_cons (pds_setLc (i := 3) rfl nd rfl rfl (sw_true rfl rfl rfl (by decide +kernel)) (pdi_seq (pd_var (pv 1))) (blkOk_by (own := [("cell", 2)]) (by show blkC N_l_bag (defScope s_l_bag) _ _ = true; decide +kernel)) (fun _ _ _ _ _ => pdg_name (pg_name (i := 2) nd rfl (by first | exact .inl rfl | exact .inr rfl))) (fun _ _ _ _ _ => pdts_one (pdt_cmp op_ge od_ge (pd_var (pv 2)) (pd_op op_pow od_pow (pd_int) (pd_int)) (nomark _))) (fun _ _ _ _ _ => pd_op op_fdivG od_div (pd_var (pv 2)) (pd_int)) (by decide))
      (pdss_one (pds_expr (pd_bm0 PySem.F.plainAttrs_list PySem.F.slot_list_reverse PySem.F.type_list_reverse mt_reverse md_reverse (pd_var (pv 3)))))) (pdss_nil))
      (pdss_one (pds_ret (pd_lst (pda_cons (pd_int) (pda_cons (pd_int) (pda_cons (pd_var (pv 3)) (pda_cons (pd_lc rfl nd (pdi_seq (pd_var (pv 1))) (blkOk_by (own := [("cell", 2)]) (by show blkC N_l_bag (defScope s_l_bag) _ _ = true; decide +kernel)) (fun _ _ _ _ _ => pdg_name (pg_name (i := 2) nd rfl (by first | exact .inl rfl | exact .inr rfl))) (fun _ _ _ _ _ => pdts_nil) (fun _ _ _ _ _ => pd_op op_modN od_mod (pd_callTy call_int1 cd_int (by rfl) nb.int_ (by decide +kernel) (pda_cons (pd_var (pv 2)) (pda_nil))) (pd_int)) (by decide)) (pda_nil))))))))))
/-! ### _law_draw -/
abbrev s_l_draw : Stmt := topS 17
abbrev N_l_draw : List Str := ["bag", "many", "digit", "cell", "mixed"]
abbrev P_l_draw : List Str := ["bag", "many"]
theorem sc_l_draw : FnScope N_l_draw P_l_draw (defScope s_l_draw) := ⟨rfl, rfl, rfl, by decide +kernel, rfl, by decide +kernel, by decide +kernel⟩
theorem bd_l_draw {K : PySem.W.Frag} {f : Addr} {fd : FuncData} (F : FnP K "_law_draw" "_law_draw" s_l_draw f fd) : Binds K fd P_l_draw [] := FunD.bindsN F fun _ _ _ _ _ _ us hl => match us, hl with | [_, _], _ => rfl
def r_l_draw  : DS := sSeq (sAsg (dBin gAdd (dBin gIx (dVar 0) (dC (.int 1))) (dC (.int 1))) (gSubD (dVar 0) (dC (.int 1)) gSetL)) (sSeq (sIf (dAnd (dTest (dBin gEq (dBin gIx (dVar 0) (dC (.int 0))) (dC (.int 0)))) (dTest (dBin gGt (dCB gLen (aCons (dBin gIx (dVar 0) (dC (.int 2))) (aNil))) (dC (.int 0))))) (sAsg (dBM0 isLst gPop (dBin gIx (dVar 0) (dC (.int 2)))) (gSubD (dVar 0) (dC (.int 0)) gSetL)) (sNext)) (sSeq (sIf (dTest (dBin gGt (dBin gIx (dVar 0) (dC (.int 0))) (dC (.int 0)))) (sSeq (sAsg (dBin gMod (dCB gInt (aCons (dBin gIx (dVar 0) (dC (.int 0))) (aNil))) (dVar 1)) (gNm 2)) (sSeq (sAsg (dBin gDiv (dBin gIx (dVar 0) (dC (.int 0))) (dVar 1)) (gSubD (dVar 0) (dC (.int 0)) gSetL)) (sRet (dVar 2)))) (sNext)) (sSeq (sAsg (dBin gIx (dBin gIx (dVar 0) (dC (.int 3))) (dBin gMod (dCB gInt (aCons (dBin gIx (dVar 0) (dC (.int 1))) (aNil))) (dCB gLen (aCons (dBin gIx (dVar 0) (dC (.int 3))) (aNil))))) (gNm 3)) (sSeq (sAsg (dBin gMod (dCB gInt (aCons (dBin gAdd (dBin gAdd (dBin gMul (dVar 3) (dC (.int 48271))) (dBin gMul (dBin gIx (dVar 0) (dC (.int 1))) (dC (.int 69621)))) (dC (.int 1))) (aNil))) (dC (.int 2147483647))) (gNm 4)) (sRet (dBin gMod (dBin gDiv (dBin gMod (dCB gInt (aCons (dBin gAdd (dBin gAdd (dBin gMul (dVar 4) (dVar 4)) (dBin gMul (dVar 4) (dC (.int 16807)))) (dBin gMul (dBin gIx (dVar 0) (dC (.int 1))) (dC (.int 40014)))) (aNil))) (dC (.int 2147483629))) (dC (.int 32))) (dVar 1)))))))
theorem body_l_draw {W : Wd} {k : Nat}  (nb : NB W) : Body W k N_l_draw "_law_draw" (defScope s_l_draw) (defBody s_l_draw) (r_l_draw ) := fun f cdv A outer s H E hi =>
  have nd := sc_l_draw.nd
  pdss_cons (pds_asg (pd_op op_addA od_add (pd_ix (pd_var (pv 0)) (pd_int)) (pd_int)) (pdg_sub (pd_var (pv 0)) (pd_int) set_list sd_lst))
      (pdss_cons (pds_if ((pdw_and (pdt_cmp (op_eqD hi.room.units) od_eq (pd_ix (pd_var (pv 0)) (pd_int)) (pd_int) (nomark _)) (pdw_and1 (pdt_cmp op_gt od_gt (pd_callB call_lenA cd_len (by rfl) nb.len (by decide +kernel) (pda_cons (pd_ix (pd_var (pv 0)) (pd_int)) (pda_nil))) (pd_int) (nomark _)))).pt) (pdss_one (pds_asg (pd_bm0 PySem.F.plainAttrs_list PySem.F.slot_list_pop PySem.F.type_list_pop mt_pop md_pop (pd_ix (pd_var (pv 0)) (pd_int))) (pdg_sub (pd_var (pv 0)) (pd_int) set_list sd_lst))) (pdss_nil))
      (pdss_cons (pds_if (pdt_cmp op_gt od_gt (pd_ix (pd_var (pv 0)) (pd_int)) (pd_int) (nomark _)) (pdss_cons (pds_set (i := 2) nd rfl (by first | exact .inl rfl | exact .inr rfl) (pd_op op_modN od_mod (pd_callTy call_int1 cd_int (by rfl) nb.int_ (by decide +kernel) (pda_cons (pd_ix (pd_var (pv 0)) (pd_int)) (pda_nil))) (pd_var (pv 1))))
      (pdss_cons (pds_asg (pd_op op_fdivG od_div (pd_ix (pd_var (pv 0)) (pd_int)) (pd_var (pv 1))) (pdg_sub (pd_var (pv 0)) (pd_int) set_list sd_lst))
      (pdss_one (pds_ret (pd_var (pv 2)))))) (pdss_nil))
      (pdss_cons (pds_set (i := 3) nd rfl (by first | exact .inl rfl | exact .inr rfl) (pd_ix (pd_ix (pd_var (pv 0)) (pd_int)) (pd_op op_modN od_mod (pd_callTy call_int1 cd_int (by rfl) nb.int_ (by decide +kernel) (pda_cons (pd_ix (pd_var (pv 0)) (pd_int)) (pda_nil))) (pd_callB call_lenA cd_len (by rfl) nb.len (by decide +kernel) (pda_cons (pd_ix (pd_var (pv 0)) (pd_int)) (pda_nil))))))
      (pdss_cons (pds_set (i := 4) nd rfl (by first | exact .inl rfl | exact .inr rfl) (pd_op op_modN od_mod (pd_callTy call_int1 cd_int (by rfl) nb.int_ (by decide +kernel) (pda_cons (pd_op op_addA od_add (pd_op op_addA od_add (pd_op op_mulG od_mul (pd_var (pv 3)) (pd_int)) (pd_op op_mulG od_mul (pd_ix (pd_var (pv 0)) (pd_int)) (pd_int))) (pd_int)) (pda_nil))) (pd_int)))
      (pdss_one (pds_ret (pd_op op_modN od_mod (pd_op op_fdivG od_div (pd_op op_modN od_mod (pd_callTy call_int1 cd_int (by rfl) nb.int_ (by decide +kernel) (pda_cons (pd_op op_addA od_add (pd_op op_addA od_add (pd_op op_mulG od_mul (pd_var (pv 4)) (pd_var (pv 4))) (pd_op op_mulG od_mul (pd_var (pv 4)) (pd_int))) (pd_op op_mulG od_mul (pd_ix (pd_var (pv 0)) (pd_int)) (pd_int))) (pda_nil))) (pd_int)) (pd_int)) (pd_var (pv 1)))))))))
/-! ### _law_pick -/
abbrev s_l_pick : Stmt := topS 18
abbrev N_l_pick : List Str := ["bag", "some"]
abbrev P_l_pick : List Str := ["bag", "some"]
theorem sc_l_pick : FnScope N_l_pick P_l_pick (defScope s_l_pick) := ⟨rfl, rfl, rfl, by decide +kernel, rfl, by decide +kernel, by decide +kernel⟩
theorem bd_l_pick {K : PySem.W.Frag} {f : Addr} {fd : FuncData} (F : FnP K "_law_pick" "_law_pick" s_l_pick f fd) : Binds K fd P_l_pick [] := FunD.bindsN F fun _ _ _ _ _ _ us hl => match us, hl with | [_, _], _ => rfl
def r_l_pick (sp_l_draw : DSp) : DS := sRet (dBin gIx (dVar 1) (dCall sp_l_draw (aCons (dVar 0) (aCons (dCB gLen (aCons (dVar 1) (aNil))) (aNil)))))
theorem body_l_pick {W : Wd} {k : Nat} {sp_l_draw : DSp} (f_l_draw : GFn W k "_law_draw" P_l_draw sp_l_draw) (nb : NB W) : Body W k N_l_pick "_law_pick" (defScope s_l_pick) (defBody s_l_pick) (r_l_pick sp_l_draw) := fun f cdv A outer s H E hi =>
  have nd := sc_l_pick.nd
  pdss_one (pds_ret (pd_ix (pd_var (pv 1)) (pd_call f_l_draw hi (by rfl) (pda_cons (pd_var (pv 0)) (pda_cons (pd_callB call_lenA cd_len (by rfl) nb.len (by decide +kernel) (pda_cons (pd_var (pv 1)) (pda_nil))) (pda_nil))))))
/-! ### _law_same -/
abbrev s_l_same : Stmt := topS 19
abbrev N_l_same : List Str := ["found", "due", "k"]
abbrev P_l_same : List Str := ["found", "due"]
theorem sc_l_same : FnScope N_l_same P_l_same (defScope s_l_same) := ⟨rfl, rfl, rfl, by decide +kernel, rfl, by decide +kernel, by decide +kernel⟩
theorem bd_l_same {K : PySem.W.Frag} {f : Addr} {fd : FuncData} (F : FnP K "_law_same" "_law_same" s_l_same f fd) : Binds K fd P_l_same [] := FunD.bindsN F fun _ _ _ _ _ _ us hl => match us, hl with | [_, _], _ => rfl
def r_l_same (sp_l_same : DSp) : DS := sSeq (sIf (dTest (dBin gIsN (dVar 1) (dC .non))) (sRet (dBin gIsN (dVar 0) (dC .non))) (sNext)) (sSeq (sIf (dOr (dTru (dCB gIsi (aCons (dVar 1) (aCons (dC (.ty "bool")) (aNil))))) (dTru (dCB gIsi (aCons (dVar 0) (aCons (dC (.ty "bool")) (aNil)))))) (sRet (dAndV (dCB gIsi (aCons (dVar 1) (aCons (dC (.ty "bool")) (aNil)))) (dAndV (dCB gIsi (aCons (dVar 0) (aCons (dC (.ty "bool")) (aNil)))) (dBin gEq (dVar 0) (dVar 1))))) (sNext)) (sSeq (sIf (dTru (dCB gIsi (aCons (dVar 1) (aCons (dC (.ty "int")) (aNil))))) (sRet (dAndV (dCB gIsi (aCons (dVar 0) (aCons (dC (.ty "int")) (aNil)))) (dBin gEq (dVar 0) (dVar 1)))) (sNext)) (sSeq (sIf (dTru (dCB gIsi (aCons (dVar 1) (aCons (dC (.ty "str")) (aNil))))) (sRet (dAndV (dCB gIsi (aCons (dVar 0) (aCons (dC (.ty "str")) (aNil)))) (dBin gEq (dVar 0) (dVar 1)))) (sNext)) (sSeq (sIf (dOr (dNot (dTru (dCB gIsi (aCons (dVar 1) (aCons (dC (.ty "tuple")) (aNil)))))) (dOr (dNot (dTru (dCB gIsi (aCons (dVar 0) (aCons (dC (.ty "tuple")) (aNil)))))) (dTest (dBin gNe (dCB gLen (aCons (dVar 0) (aNil))) (dCB gLen (aCons (dVar 1) (aNil))))))) (sRet (dC (.bl false))) (sNext)) (sSeq (sFor (iRange1 (aCons (dCB gLen (aCons (dVar 1) (aNil))) (aNil))) (gNm 2) (sIf (dNot (dTru (dCall sp_l_same (aCons (dBin gIx (dVar 0) (dVar 2)) (aCons (dBin gIx (dVar 1) (dVar 2)) (aNil)))))) (sRet (dC (.bl false))) (sNext))) (sRet (dC (.bl true))))))))
theorem body_l_same {W : Wd} {k : Nat} {sp_l_same : DSp} (f_l_same : GFn W k "_law_same" P_l_same sp_l_same) (nb : NB W) : Body W k N_l_same "_law_same" (defScope s_l_same) (defBody s_l_same) (r_l_same sp_l_same) := fun f cdv A outer s H E hi =>
  have nd := sc_l_same.nd
  pdss_cons (pds_if (pdt_cmp op_isN od_isN (pd_var (pv 1)) (pd_non) (nomark _)) (pdss_one (pds_ret (pd_cmp op_isN od_isN (pd_var (pv 0)) (pd_non) (nomark _)))) (pdss_nil))
      (pdss_cons (pds_if ((pdw_or (pdt_tru (pd_callB call_isi cd_isi (by rfl) nb.isinstance (by decide +kernel) (pda_cons (pd_var (pv 1)) (pda_cons (pd_ty (by rfl) nb.bool_ (by decide +kernel)) (pda_nil))))) (pdw_or1 (pdt_tru (pd_callB call_isi cd_isi (by rfl) nb.isinstance (by decide +kernel) (pda_cons (pd_var (pv 0)) (pda_cons (pd_ty (by rfl) nb.bool_ (by decide +kernel)) (pda_nil))))))).pt) (pdss_one (pds_ret (pd_and (pd_callB call_isi cd_isi (by rfl) nb.isinstance (by decide +kernel) (pda_cons (pd_var (pv 1)) (pda_cons (pd_ty (by rfl) nb.bool_ (by decide +kernel)) (pda_nil)))) (pd_and (pd_callB call_isi cd_isi (by rfl) nb.isinstance (by decide +kernel) (pda_cons (pd_var (pv 0)) (pda_cons (pd_ty (by rfl) nb.bool_ (by decide +kernel)) (pda_nil)))) (pd_one (pd_cmp (op_eqD hi.room.units) od_eq (pd_var (pv 0)) (pd_var (pv 1)) (nomark _))))))) (pdss_nil))
      (pdss_cons (pds_if (pdt_tru (pd_callB call_isi cd_isi (by rfl) nb.isinstance (by decide +kernel) (pda_cons (pd_var (pv 1)) (pda_cons (pd_ty (by rfl) nb.int_ (by decide +kernel)) (pda_nil))))) (pdss_one (pds_ret (pd_and (pd_callB call_isi cd_isi (by rfl) nb.isinstance (by decide +kernel) (pda_cons (pd_var (pv 0)) (pda_cons (pd_ty (by rfl) nb.int_ (by decide +kernel)) (pda_nil)))) (pd_one (pd_cmp (op_eqD hi.room.units) od_eq (pd_var (pv 0)) (pd_var (pv 1)) (nomark _)))))) (pdss_nil))
      (pdss_cons (pds_if (pdt_tru (pd_callB call_isi cd_isi (by rfl) nb.isinstance (by decide +kernel) (pda_cons (pd_var (pv 1)) (pda_cons (pd_ty (by rfl) nb.str_ (by decide +kernel)) (pda_nil))))) (pdss_one (pds_ret (pd_and (pd_callB call_isi cd_isi (by rfl) nb.isinstance (by decide +kernel) (pda_cons (pd_var (pv 0)) (pda_cons (pd_ty (by rfl) nb.str_ (by decide +kernel)) (pda_nil)))) (pd_one (pd_cmp (op_eqD hi.room.units) od_eq (pd_var (pv 0)) (pd_var (pv 1)) (nomark _)))))) (pdss_nil))
      (pdss_cons (pds_if ((pdw_or (pdt_not (pdt_tru (pd_callB call_isi cd_isi (by rfl) nb.isinstance (by decide +kernel) (pda_cons (pd_var (pv 1)) (pda_cons (pd_ty (by rfl) nb.tuple_ (by decide +kernel)) (pda_nil)))))) (pdw_or (pdt_not (pdt_tru (pd_callB call_isi cd_isi (by rfl) nb.isinstance (by decide +kernel) (pda_cons (pd_var (pv 0)) (pda_cons (pd_ty (by rfl) nb.tuple_ (by decide +kernel)) (pda_nil)))))) (pdw_or1 (pdt_cmp (op_neD hi.room.units) od_ne (pd_callB call_lenA cd_len (by rfl) nb.len (by decide +kernel) (pda_cons (pd_var (pv 0)) (pda_nil))) (pd_callB call_lenA cd_len (by rfl) nb.len (by decide +kernel) (pda_cons (pd_var (pv 1)) (pda_nil))) (nomark _))))).pt) (pdss_one (pds_ret (pd_bl))) (pdss_nil))
      (pdss_cons (pds_for PassesOwn.never rfl (pdi_range1 (by rfl) nb.range (pda_cons (pd_callB call_lenA cd_len (by rfl) nb.len (by decide +kernel) (pda_cons (pd_var (pv 1)) (pda_nil))) (pda_nil))) (pdg_name (pg_name (i := 2) nd rfl (by first | exact .inl rfl | exact .inr rfl))) (pdss_one (pds_if (pdt_not (pdt_tru (pd_call f_l_same hi (by rfl) (pda_cons (pd_ix (pd_var (pv 0)) (pd_var (pv 2))) (pda_cons (pd_ix (pd_var (pv 1)) (pd_var (pv 2))) (pda_nil)))))) (pdss_one (pds_ret (pd_bl))) (pdss_nil))))
      (pdss_one (pds_ret (pd_bl))))))))
/-! ### _law_stream -/
abbrev s_l_stream : Stmt := topS 20
abbrev N_l_stream : List Str := ["numbers", "many", "s", "i", "found", "k"]
abbrev P_l_stream : List Str := ["numbers", "many"]
theorem sc_l_stream : FnScope N_l_stream P_l_stream (defScope s_l_stream) := ⟨rfl, rfl, rfl, by decide +kernel, rfl, by decide +kernel, by decide +kernel⟩
theorem bd_l_stream {K : PySem.W.Frag} {f : Addr} {fd : FuncData} (F : FnP K "_law_stream" "_law_stream" s_l_stream f fd) : Binds K fd P_l_stream [] := FunD.bindsN F fun _ _ _ _ _ _ us hl => match us, hl with | [_, _], _ => rfl
def r_l_stream  : DS := sSeq (sAsg (dCB gSum (aCons (dLc (iRange1 (aCons (dCB gLen (aCons (dVar 0) (aNil))) (aNil))) (gNm 3) (tYesD) (dBin gMul (dBin gIx (dVar 0) (dVar 3)) (dBin gAdd (dVar 3) (dC (.int 1)))) [3]) (aNil))) (gNm 2)) (sSeq (sAsg (dLst (aNil)) (gNm 4)) (sSeq (sFor (iRange1 (aCons (dBin gAdd (dVar 1) (dC (.int 1))) (aNil))) (gNm 5) (sSeq (sIf (dTest (dBin gGt (dVar 5) (dC (.int 0)))) (sDrop (dBM isLst gAppend (dVar 4) (aCons (dBin gDiv (dVar 2) (dC (.int 65536))) (aNil)))) (sNext)) (sAsg (dBin gMod (dCB gInt (aCons (dBin gAdd (dBin gAdd (dBin gMul (dVar 2) (dC (.int 1103515245))) (dC (.int 12345))) (dBin gIx (dVar 0) (dBin gMod (dCB gInt (aCons (dVar 5) (aNil))) (dCB gLen (aCons (dVar 0) (aNil)))))) (aNil))) (dC (.int 2147483648))) (gNm 2)))) (sRet (dVar 4))))
theorem body_l_stream {W : Wd} {k : Nat}  (nb : NB W) : Body W k N_l_stream "_law_stream" (defScope s_l_stream) (defBody s_l_stream) (r_l_stream ) := fun f cdv A outer s H E hi =>
  have nd := sc_l_stream.nd
  pdss_cons (pds_set (i := 2) nd rfl (by first | exact .inl rfl | exact .inr rfl) (pd_callB (cr_sum rfl) cd_sum (by rfl) nb.sum (by decide +kernel) (pda_cons (pd_lc rfl nd (pdi_range1 (by rfl) nb.range (pda_cons (pd_callB call_lenA cd_len (by rfl) nb.len (by decide +kernel) (pda_cons (pd_var (pv 0)) (pda_nil))) (pda_nil))) (blkOk_by (own := [("i", 3)]) (by show blkC N_l_stream (defScope s_l_stream) _ _ = true; decide +kernel)) (fun _ _ _ _ _ => pdg_name (pg_name (i := 3) nd rfl (by first | exact .inl rfl | exact .inr rfl))) (fun _ _ _ _ _ => pdts_nil) (fun _ _ _ _ _ => pd_op op_mulG od_mul (pd_ix (pd_var (pv 0)) (pd_var (pv 3))) (pd_op op_addA od_add (pd_var (pv 3)) (pd_int))) (by decide)) (pda_nil))))
      (pdss_cons (pds_set (i := 4) nd rfl (by first | exact .inl rfl | exact .inr rfl) (pd_lst (pda_nil)))
      (pdss_cons (pds_for PassesOwn.never rfl (pdi_range1 (by rfl) nb.range (pda_cons (pd_op op_addA od_add (pd_var (pv 1)) (pd_int)) (pda_nil))) (pdg_name (pg_name (i := 5) nd rfl (by first | exact .inl rfl | exact .inr rfl))) (pdss_cons (pds_if (pdt_cmp op_gt od_gt (pd_var (pv 5)) (pd_int) (nomark _)) (pdss_one (pds_expr (pd_bm PySem.F.plainAttrs_list PySem.F.slot_list_append PySem.F.type_list_append mt_append md_append (pd_var (pv 4)) (pda_cons (pd_op op_fdivG od_div (pd_var (pv 2)) (pd_int)) (pda_nil))))) (pdss_nil))
      (pdss_one (pds_set (i := 2) nd rfl (by first | exact .inl rfl | exact .inr rfl) (pd_op op_modN od_mod (pd_callTy call_int1 cd_int (by rfl) nb.int_ (by decide +kernel) (pda_cons (pd_op op_addA od_add (pd_op op_addA od_add (pd_op op_mulG od_mul (pd_var (pv 2)) (pd_int)) (pd_int)) (pd_ix (pd_var (pv 0)) (pd_op op_modN od_mod (pd_callTy call_int1 cd_int (by rfl) nb.int_ (by decide +kernel) (pda_cons (pd_var (pv 5)) (pda_nil))) (pd_callB call_lenA cd_len (by rfl) nb.len (by decide +kernel) (pda_cons (pd_var (pv 0)) (pda_nil)))))) (pda_nil))) (pd_int))))))
      (pdss_one (pds_ret (pd_var (pv 4))))))
/-! ### _law_plain -/
abbrev s_l_plain : Stmt := topS 21
abbrev N_l_plain : List Str := ["rows", "i", "j", "c"]
abbrev P_l_plain : List Str := ["rows"]
theorem sc_l_plain : FnScope N_l_plain P_l_plain (defScope s_l_plain) := ⟨rfl, rfl, rfl, by decide +kernel, rfl, by decide +kernel, by decide +kernel⟩
theorem bd_l_plain {K : PySem.W.Frag} {f : Addr} {fd : FuncData} (F : FnP K "_law_plain" "_law_plain" s_l_plain f fd) : Binds K fd P_l_plain [] := FunD.bindsN F fun _ _ _ _ _ _ us hl => match us, hl with | [_], _ => rfl
def r_l_plain  : DS := sRet (dCB gTuple (aCons (dCB gSorted (aCons (dLc (iSeq (dVar 0)) (gUnp 3 (gsCons (gNm 1) (gsCons (gNm 2) (gsCons (gNm 3) (gsNil))))) (dTest (dBin gNe (dVar 3) (dC (.int 0)))) (dTup (aCons (dTup (aCons (dVar 1) (aCons (dVar 2) (aCons (dC (.int 0)) (aNil))))) (aCons (dVar 3) (aNil)))) [1, 2, 3]) (aNil))) (aNil)))
theorem body_l_plain {W : Wd} {k : Nat}  (nb : NB W) : Body W k N_l_plain "_law_plain" (defScope s_l_plain) (defBody s_l_plain) (r_l_plain ) := fun f cdv A outer s H E hi =>
  have nd := sc_l_plain.nd
  pdss_one (pds_ret (pd_callTy call_tuple_of cd_tuple (by rfl) nb.tuple_ (by decide +kernel) (pda_cons (pd_callB (cr_sortedD hi.room.units) cd_sorted (by rfl) nb.sorted (by decide +kernel) (pda_cons (pd_lc rfl nd (pdi_seq (pd_var (pv 0))) (blkOk_by (own := [("i", 1), ("j", 2), ("c", 3)]) (by show blkC N_l_plain (defScope s_l_plain) _ _ = true; decide +kernel)) (fun _ _ _ _ _ => pdg_tup rfl (pdgs_cons (pdg_name (pg_name (i := 1) nd rfl (by first | exact .inl rfl | exact .inr rfl))) (pdgs_cons (pdg_name (pg_name (i := 2) nd rfl (by first | exact .inl rfl | exact .inr rfl))) (pdgs_cons (pdg_name (pg_name (i := 3) nd rfl (by first | exact .inl rfl | exact .inr rfl))) (pdgs_nil))))) (fun _ _ _ _ _ => pdts_one (pdt_cmp (op_neD hi.blk.room.units) od_ne (pd_var (pv 3)) (pd_int) (nomark _))) (fun _ _ _ _ _ => pd_tup (pda_cons (pd_tup (pda_cons (pd_var (pv 1)) (pda_cons (pd_var (pv 2)) (pda_cons (pd_int) (pda_nil))))) (pda_cons (pd_var (pv 3)) (pda_nil)))) (by decide)) (pda_nil))) (pda_nil))))
/-! ### _law_own_scene -/
abbrev s_l_own_scene : Stmt := topS 22
abbrev N_l_own_scene : List Str := ["numbers", "many", "found", "at", "walls", "w", "size", "pairs", "k"]
abbrev P_l_own_scene : List Str := ["numbers", "many"]
theorem sc_l_own_scene : FnScope N_l_own_scene P_l_own_scene (defScope s_l_own_scene) := ⟨rfl, rfl, rfl, by decide +kernel, rfl, by decide +kernel, by decide +kernel⟩
theorem bd_l_own_scene {K : PySem.W.Frag} {f : Addr} {fd : FuncData} (F : FnP K "_law_own_scene" "_law_own_scene" s_l_own_scene f fd) : Binds K fd P_l_own_scene [] := FunD.bindsN F fun _ _ _ _ _ _ us hl => match us, hl with | [_, _], _ => rfl
def r_l_own_scene (sp_l_stream : DSp) : DS := sSeq (sAsg (dTup (aCons (dCall sp_l_stream (aCons (dVar 0) (aCons (dBin gAdd (dBin gMul (dC (.int 12)) (dVar 1)) (dC (.int 12))) (aNil)))) (aCons (dC (.int 0)) (aCons (dLst (aNil)) (aNil))))) (gUnp 3 (gsCons (gNm 2) (gsCons (gNm 3) (gsCons (gNm 4) (gsNil)))))) (sSeq (sFor (iRange1 (aCons (dVar 1) (aNil))) (gNm 5) (sIf (dTest (dBin gEq (dBin gMod (dCB gInt (aCons (dVar 5) (aNil))) (dC (.int 2))) (dC (.int 0)))) (sSeq (sAsg (dBin gAdd (dC (.int 1)) (dBin gMod (dCB gInt (aCons (dBin gIx (dVar 2) (dVar 3)) (aNil))) (dC (.int 3)))) (gNm 6)) (sSeq (sAsg (dLc (iRange1 (aCons (dVar 6) (aNil))) (gNm 8) (tYesD) (dTup (aCons (dTup (aCons (dBin gSub (dBin gMod (dCB gInt (aCons (dBin gIx (dVar 2) (dBin gAdd (dBin gAdd (dVar 3) (dC (.int 1))) (dBin gMul (dC (.int 2)) (dVar 8)))) (aNil))) (dC (.int 41))) (dC (.int 20))) (aCons (dC (.int 1)) (aNil)))) (aCons (dTup (aCons (dBin gSub (dBin gMod (dCB gInt (aCons (dBin gIx (dVar 2) (dBin gAdd (dBin gAdd (dVar 3) (dC (.int 2))) (dBin gMul (dC (.int 2)) (dVar 8)))) (aNil))) (dC (.int 41))) (dC (.int 20))) (aCons (dC (.int 1)) (aNil)))) (aNil)))) [8]) (gNm 7)) (sSeq (sDrop (dBM isLst gAppend (dVar 4) (aCons (dTup (aCons (dC (.str "hull")) (aCons (dCB gTuple (aCons (dVar 7) (aNil))) (aNil)))) (aNil)))) (sAsg (dBin gAdd (dBin gAdd (dVar 3) (dC (.int 1))) (dBin gMul (dC (.int 2)) (dVar 6))) (gNm 3))))) (sSeq (sDrop (dBM isLst gAppend (dVar 4) (aCons (dTup (aCons (dC (.str "disc")) (aCons (dTup (aCons (dTup (aCons (dBin gSub (dBin gMod (dCB gInt (aCons (dBin gIx (dVar 2) (dVar 3)) (aNil))) (dC (.int 41))) (dC (.int 20))) (aCons (dC (.int 1)) (aNil)))) (aCons (dTup (aCons (dBin gSub (dBin gMod (dCB gInt (aCons (dBin gIx (dVar 2) (dBin gAdd (dVar 3) (dC (.int 1)))) (aNil))) (dC (.int 41))) (dC (.int 20))) (aCons (dC (.int 1)) (aNil)))) (aNil)))) (aCons (dTup (aCons (dBin gAdd (dC (.int 1)) (dBin gMod (dCB gInt (aCons (dBin gIx (dVar 2) (dBin gAdd (dVar 3) (dC (.int 2)))) (aNil))) (dC (.int 4)))) (aCons (dC (.int 1)) (aNil)))) (aNil))))) (aNil)))) (sAsg (dBin gAdd (dVar 3) (dC (.int 3))) (gNm 3))))) (sRet (dTup (aCons (dTup (aCons (dC (.str "disc")) (aCons (dTup (aCons (dC (.int 1)) (aCons (dC (.int 1)) (aNil)))) (aNil)))) (aCons (dCB gTuple (aCons (dVar 4) (aNil))) (aNil))))))
theorem body_l_own_scene {W : Wd} {k : Nat} {sp_l_stream : DSp} (f_l_stream : GFn W k "_law_stream" P_l_stream sp_l_stream) (nb : NB W) : Body W k N_l_own_scene "_law_own_scene" (defScope s_l_own_scene) (defBody s_l_own_scene) (r_l_own_scene sp_l_stream) := fun f cdv A outer s H E hi =>
  have nd := sc_l_own_scene.nd
  pdss_cons (pds_asg (pd_tup (pda_cons (pd_call f_l_stream hi (by rfl) (pda_cons (pd_var (pv 0)) (pda_cons (pd_op op_addA od_add (pd_op op_mulG od_mul (pd_int) (pd_var (pv 1))) (pd_int)) (pda_nil)))) (pda_cons (pd_int) (pda_cons (pd_lst (pda_nil)) (pda_nil))))) (pdg_tup rfl (pdgs_cons (pdg_name (pg_name (i := 2) nd rfl (by first | exact .inl rfl | exact .inr rfl))) (pdgs_cons (pdg_name (pg_name (i := 3) nd rfl (by first | exact .inl rfl | exact .inr rfl))) (pdgs_cons (pdg_name (pg_name (i := 4) nd rfl (by first | exact .inl rfl | exact .inr rfl))) (pdgs_nil))))))
      (pdss_cons (pds_for PassesOwn.never rfl (pdi_range1 (by rfl) nb.range (pda_cons (pd_var (pv 1)) (pda_nil))) (pdg_name (pg_name (i := 5) nd rfl (by first | exact .inl rfl | exact .inr rfl))) (pdss_one (pds_if (pdt_cmp (op_eqD hi.room.units) od_eq (pd_op op_modN od_mod (pd_callTy call_int1 cd_int (by rfl) nb.int_ (by decide +kernel) (pda_cons (pd_var (pv 5)) (pda_nil))) (pd_int)) (pd_int) (nomark _)) (pdss_cons (pds_set (i := 6) nd rfl (by first | exact .inl rfl | exact .inr rfl) (pd_op op_addA od_add (pd_int) (pd_op op_modN od_mod (pd_callTy call_int1 cd_int (by rfl) nb.int_ (by decide +kernel) (pda_cons (pd_ix (pd_var (pv 2)) (pd_var (pv 3))) (pda_nil))) (pd_int))))
      (pdss_cons (pds_setLc (i := 7) rfl nd rfl rfl (sw_true rfl rfl rfl (by decide +kernel)) (pdi_range1 (by rfl) nb.range (pda_cons (pd_var (pv 6)) (pda_nil))) (blkOk_by (own := [("k", 8)]) (by show blkC N_l_own_scene (defScope s_l_own_scene) _ _ = true; decide +kernel)) (fun _ _ _ _ _ => pdg_name (pg_name (i := 8) nd rfl (by first | exact .inl rfl | exact .inr rfl))) (fun _ _ _ _ _ => pdts_nil) (fun _ _ _ _ _ => pd_tup (pda_cons (pd_tup (pda_cons (pd_op op_sub od_sub (pd_op op_modN od_mod (pd_callTy call_int1 cd_int (by rfl) nb.int_ (by decide +kernel) (pda_cons (pd_ix (pd_var (pv 2)) (pd_op op_addA od_add (pd_op op_addA od_add (pd_var (pv 3)) (pd_int)) (pd_op op_mulG od_mul (pd_int) (pd_var (pv 8))))) (pda_nil))) (pd_int)) (pd_int)) (pda_cons (pd_int) (pda_nil)))) (pda_cons (pd_tup (pda_cons (pd_op op_sub od_sub (pd_op op_modN od_mod (pd_callTy call_int1 cd_int (by rfl) nb.int_ (by decide +kernel) (pda_cons (pd_ix (pd_var (pv 2)) (pd_op op_addA od_add (pd_op op_addA od_add (pd_var (pv 3)) (pd_int)) (pd_op op_mulG od_mul (pd_int) (pd_var (pv 8))))) (pda_nil))) (pd_int)) (pd_int)) (pda_cons (pd_int) (pda_nil)))) (pda_nil)))) (by decide))
      (pdss_cons (pds_expr (pd_bm PySem.F.plainAttrs_list PySem.F.slot_list_append PySem.F.type_list_append mt_append md_append (pd_var (pv 4)) (pda_cons (pd_tup (pda_cons (pd_str) (pda_cons (pd_callTy call_tuple_of cd_tuple (by rfl) nb.tuple_ (by decide +kernel) (pda_cons (pd_var (pv 7)) (pda_nil))) (pda_nil)))) (pda_nil))))
      (pdss_one (pds_set (i := 3) nd rfl (by first | exact .inl rfl | exact .inr rfl) (pd_op op_addA od_add (pd_op op_addA od_add (pd_var (pv 3)) (pd_int)) (pd_op op_mulG od_mul (pd_int) (pd_var (pv 6))))))))) (pdss_cons (pds_expr (pd_bm PySem.F.plainAttrs_list PySem.F.slot_list_append PySem.F.type_list_append mt_append md_append (pd_var (pv 4)) (pda_cons (pd_tup (pda_cons (pd_str) (pda_cons (pd_tup (pda_cons (pd_tup (pda_cons (pd_op op_sub od_sub (pd_op op_modN od_mod (pd_callTy call_int1 cd_int (by rfl) nb.int_ (by decide +kernel) (pda_cons (pd_ix (pd_var (pv 2)) (pd_var (pv 3))) (pda_nil))) (pd_int)) (pd_int)) (pda_cons (pd_int) (pda_nil)))) (pda_cons (pd_tup (pda_cons (pd_op op_sub od_sub (pd_op op_modN od_mod (pd_callTy call_int1 cd_int (by rfl) nb.int_ (by decide +kernel) (pda_cons (pd_ix (pd_var (pv 2)) (pd_op op_addA od_add (pd_var (pv 3)) (pd_int))) (pda_nil))) (pd_int)) (pd_int)) (pda_cons (pd_int) (pda_nil)))) (pda_nil)))) (pda_cons (pd_tup (pda_cons (pd_op op_addA od_add (pd_int) (pd_op op_modN od_mod (pd_callTy call_int1 cd_int (by rfl) nb.int_ (by decide +kernel) (pda_cons (pd_ix (pd_var (pv 2)) (pd_op op_addA od_add (pd_var (pv 3)) (pd_int))) (pda_nil))) (pd_int))) (pda_cons (pd_int) (pda_nil)))) (pda_nil))))) (pda_nil))))
      (pdss_one (pds_set (i := 3) nd rfl (by first | exact .inl rfl | exact .inr rfl) (pd_op op_addA od_add (pd_var (pv 3)) (pd_int))))))))
      (pdss_one (pds_ret (pd_tup (pda_cons (pd_tup (pda_cons (pd_str) (pda_cons (pd_tup (pda_cons (pd_int) (pda_cons (pd_int) (pda_nil)))) (pda_nil)))) (pda_cons (pd_callTy call_tuple_of cd_tuple (by rfl) nb.tuple_ (by decide +kernel) (pda_cons (pd_var (pv 4)) (pda_nil))) (pda_nil)))))))
/-! ### _law_own_plane -/
abbrev s_l_own_plane : Stmt := topS 23
abbrev N_l_own_plane : List Str := ["numbers", "many", "found", "at", "rows", "w", "c", "e", "d", "f", "g", "k"]
abbrev P_l_own_plane : List Str := ["numbers", "many"]
theorem sc_l_own_plane : FnScope N_l_own_plane P_l_own_plane (defScope s_l_own_plane) := ⟨rfl, rfl, rfl, by decide +kernel, rfl, by decide +kernel, by decide +kernel⟩
theorem bd_l_own_plane {K : PySem.W.Frag} {f : Addr} {fd : FuncData} (F : FnP K "_law_own_plane" "_law_own_plane" s_l_own_plane f fd) : Binds K fd P_l_own_plane [] := FunD.bindsN F fun _ _ _ _ _ _ us hl => match us, hl with | [_, _], _ => rfl
def r_l_own_plane (sp_l_stream : DSp) (sp_l_plain : DSp) : DS := sSeq (sAsg (dTup (aCons (dCall sp_l_stream (aCons (dVar 0) (aCons (dBin gAdd (dBin gMul (dC (.int 6)) (dVar 1)) (dC (.int 6))) (aNil)))) (aCons (dC (.int 0)) (aCons (dLst (aNil)) (aNil))))) (gUnp 3 (gsCons (gNm 2) (gsCons (gNm 3) (gsCons (gNm 4) (gsNil)))))) (sSeq (sFor (iRange1 (aCons (dVar 1) (aNil))) (gNm 5) (sIf (dTest (dBin gEq (dBin gMod (dCB gInt (aCons (dVar 5) (aNil))) (dC (.int 2))) (dC (.int 0)))) (sSeq (sAsg (dBin gSub (dBin gMod (dCB gInt (aCons (dBin gIx (dVar 2) (dVar 3)) (aNil))) (dC (.int 3))) (dC (.int 1))) (gNm 6)) (sSeq (sAsg (dLc (iRange1 (aCons (dC (.int 4)) (aNil))) (gNm 11) (tYesD) (dBin gSub (dBin gMod (dCB gInt (aCons (dBin gIx (dVar 2) (dBin gAdd (dBin gAdd (dVar 3) (dC (.int 1))) (dVar 11))) (aNil))) (dC (.int 7))) (dC (.int 3))) [11]) (gUnp 4 (gsCons (gNm 8) (gsCons (gNm 7) (gsCons (gNm 9) (gsCons (gNm 10) (gsNil))))))) (sSeq (sDrop (dBM isLst gAppend (dVar 4) (aCons (dCall sp_l_plain (aCons (dLst (aCons (dTup (aCons (dC (.int 2)) (aCons (dC (.int 0)) (aCons (dC (.int 1)) (aNil))))) (aCons (dTup (aCons (dC (.int 0)) (aCons (dC (.int 2)) (aCons (dVar 6) (aNil))))) (aCons (dTup (aCons (dC (.int 1)) (aCons (dC (.int 1)) (aCons (dVar 8) (aNil))))) (aCons (dTup (aCons (dC (.int 1)) (aCons (dC (.int 0)) (aCons (dVar 7) (aNil))))) (aCons (dTup (aCons (dC (.int 0)) (aCons (dC (.int 1)) (aCons (dVar 9) (aNil))))) (aCons (dTup (aCons (dC (.int 0)) (aCons (dC (.int 0)) (aCons (dVar 10) (aNil))))) (aNil)))))))) (aNil))) (aNil)))) (sAsg (dBin gAdd (dVar 3) (dC (.int 5))) (gNm 3))))) (sSeq (sAsg (dLc (iRange1 (aCons (dC (.int 3)) (aNil))) (gNm 11) (tYesD) (dBin gSub (dBin gMod (dCB gInt (aCons (dBin gIx (dVar 2) (dBin gAdd (dVar 3) (dVar 11))) (aNil))) (dC (.int 7))) (dC (.int 3))) [11]) (gUnp 3 (gsCons (gNm 7) (gsCons (gNm 9) (gsCons (gNm 10) (gsNil)))))) (sSeq (sAsg (dIf (dAnd (dTest (dBin gEq (dVar 7) (dC (.int 0)))) (dTest (dBin gEq (dVar 9) (dC (.int 0))))) (dC (.int 4)) (dVar 7)) (gNm 7)) (sSeq (sDrop (dBM isLst gAppend (dVar 4) (aCons (dCall sp_l_plain (aCons (dLst (aCons (dTup (aCons (dC (.int 1)) (aCons (dC (.int 0)) (aCons (dVar 7) (aNil))))) (aCons (dTup (aCons (dC (.int 0)) (aCons (dC (.int 1)) (aCons (dVar 9) (aNil))))) (aCons (dTup (aCons (dC (.int 0)) (aCons (dC (.int 0)) (aCons (dVar 10) (aNil))))) (aNil))))) (aNil))) (aNil)))) (sAsg (dBin gAdd (dVar 3) (dC (.int 3))) (gNm 3))))))) (sRet (dCB gTuple (aCons (dVar 4) (aNil)))))
theorem body_l_own_plane {W : Wd} {k : Nat} {sp_l_stream : DSp} {sp_l_plain : DSp} (f_l_stream : GFn W k "_law_stream" P_l_stream sp_l_stream) (f_l_plain : GFn W k "_law_plain" P_l_plain sp_l_plain) (nb : NB W) : Body W k N_l_own_plane "_law_own_plane" (defScope s_l_own_plane) (defBody s_l_own_plane) (r_l_own_plane sp_l_stream sp_l_plain) := fun f cdv A outer s H E hi =>
  have nd := sc_l_own_plane.nd
  pdss_cons (pds_asg (pd_tup (pda_cons (pd_call f_l_stream hi (by rfl) (pda_cons (pd_var (pv 0)) (pda_cons (pd_op op_addA od_add (pd_op op_mulG od_mul (pd_int) (pd_var (pv 1))) (pd_int)) (pda_nil)))) (pda_cons (pd_int) (pda_cons (pd_lst (pda_nil)) (pda_nil))))) (pdg_tup rfl (pdgs_cons (pdg_name (pg_name (i := 2) nd rfl (by first | exact .inl rfl | exact .inr rfl))) (pdgs_cons (pdg_name (pg_name (i := 3) nd rfl (by first | exact .inl rfl | exact .inr rfl))) (pdgs_cons (pdg_name (pg_name (i := 4) nd rfl (by first | exact .inl rfl | exact .inr rfl))) (pdgs_nil))))))
      (pdss_cons (pds_for PassesOwn.never rfl (pdi_range1 (by rfl) nb.range (pda_cons (pd_var (pv 1)) (pda_nil))) (pdg_name (pg_name (i := 5) nd rfl (by first | exact .inl rfl | exact .inr rfl))) (pdss_one (pds_if (pdt_cmp (op_eqD hi.room.units) od_eq (pd_op op_modN od_mod (pd_callTy call_int1 cd_int (by rfl) nb.int_ (by decide +kernel) (pda_cons (pd_var (pv 5)) (pda_nil))) (pd_int)) (pd_int) (nomark _)) (pdss_cons (pds_set (i := 6) nd rfl (by first | exact .inl rfl | exact .inr rfl) (pd_op op_sub od_sub (pd_op op_modN od_mod (pd_callTy call_int1 cd_int (by rfl) nb.int_ (by decide +kernel) (pda_cons (pd_ix (pd_var (pv 2)) (pd_var (pv 3))) (pda_nil))) (pd_int)) (pd_int)))
      (pdss_cons (pds_asg (pd_lc rfl nd (pdi_range1 (by rfl) nb.range (pda_cons (pd_int) (pda_nil))) (blkOk_by (own := [("k", 11)]) (by show blkC N_l_own_plane (defScope s_l_own_plane) _ _ = true; decide +kernel)) (fun _ _ _ _ _ => pdg_name (pg_name (i := 11) nd rfl (by first | exact .inl rfl | exact .inr rfl))) (fun _ _ _ _ _ => pdts_nil) (fun _ _ _ _ _ => pd_op op_sub od_sub (pd_op op_modN od_mod (pd_callTy call_int1 cd_int (by rfl) nb.int_ (by decide +kernel) (pda_cons (pd_ix (pd_var (pv 2)) (pd_op op_addA od_add (pd_op op_addA od_add (pd_var (pv 3)) (pd_int)) (pd_var (pv 11)))) (pda_nil))) (pd_int)) (pd_int)) (by decide)) (pdg_tup rfl (pdgs_cons (pdg_name (pg_name (i := 8) nd rfl (by first | exact .inl rfl | exact .inr rfl))) (pdgs_cons (pdg_name (pg_name (i := 7) nd rfl (by first | exact .inl rfl | exact .inr rfl))) (pdgs_cons (pdg_name (pg_name (i := 9) nd rfl (by first | exact .inl rfl | exact .inr rfl))) (pdgs_cons (pdg_name (pg_name (i := 10) nd rfl (by first | exact .inl rfl | exact .inr rfl))) (pdgs_nil)))))))
      (pdss_cons (pds_expr (pd_bm PySem.F.plainAttrs_list PySem.F.slot_list_append PySem.F.type_list_append mt_append md_append (pd_var (pv 4)) (pda_cons (pd_call f_l_plain hi (by rfl) (pda_cons (pd_lst (pda_cons (pd_tup (pda_cons (pd_int) (pda_cons (pd_int) (pda_cons (pd_int) (pda_nil))))) (pda_cons (pd_tup (pda_cons (pd_int) (pda_cons (pd_int) (pda_cons (pd_var (pv 6)) (pda_nil))))) (pda_cons (pd_tup (pda_cons (pd_int) (pda_cons (pd_int) (pda_cons (pd_var (pv 8)) (pda_nil))))) (pda_cons (pd_tup (pda_cons (pd_int) (pda_cons (pd_int) (pda_cons (pd_var (pv 7)) (pda_nil))))) (pda_cons (pd_tup (pda_cons (pd_int) (pda_cons (pd_int) (pda_cons (pd_var (pv 9)) (pda_nil))))) (pda_cons (pd_tup (pda_cons (pd_int) (pda_cons (pd_int) (pda_cons (pd_var (pv 10)) (pda_nil))))) (pda_nil)))))))) (pda_nil))) (pda_nil))))
      (pdss_one (pds_set (i := 3) nd rfl (by first | exact .inl rfl | exact .inr rfl) (pd_op op_addA od_add (pd_var (pv 3)) (pd_int))))))) (pdss_cons (pds_asg (pd_lc rfl nd (pdi_range1 (by rfl) nb.range (pda_cons (pd_int) (pda_nil))) (blkOk_by (own := [("k", 11)]) (by show blkC N_l_own_plane (defScope s_l_own_plane) _ _ = true; decide +kernel)) (fun _ _ _ _ _ => pdg_name (pg_name (i := 11) nd rfl (by first | exact .inl rfl | exact .inr rfl))) (fun _ _ _ _ _ => pdts_nil) (fun _ _ _ _ _ => pd_op op_sub od_sub (pd_op op_modN od_mod (pd_callTy call_int1 cd_int (by rfl) nb.int_ (by decide +kernel) (pda_cons (pd_ix (pd_var (pv 2)) (pd_op op_addA od_add (pd_var (pv 3)) (pd_var (pv 11)))) (pda_nil))) (pd_int)) (pd_int)) (by decide)) (pdg_tup rfl (pdgs_cons (pdg_name (pg_name (i := 7) nd rfl (by first | exact .inl rfl | exact .inr rfl))) (pdgs_cons (pdg_name (pg_name (i := 9) nd rfl (by first | exact .inl rfl | exact .inr rfl))) (pdgs_cons (pdg_name (pg_name (i := 10) nd rfl (by first | exact .inl rfl | exact .inr rfl))) (pdgs_nil))))))
      (pdss_cons (pds_set (i := 7) nd rfl (by first | exact .inl rfl | exact .inr rfl) (pd_ifExp ((pdw_and (pdt_cmp (op_eqD hi.room.units) od_eq (pd_var (pv 7)) (pd_int) (nomark _)) (pdw_and1 (pdt_cmp (op_eqD hi.room.units) od_eq (pd_var (pv 9)) (pd_int) (nomark _)))).pt) (pd_int) (pd_var (pv 7))))
      (pdss_cons (pds_expr (pd_bm PySem.F.plainAttrs_list PySem.F.slot_list_append PySem.F.type_list_append mt_append md_append (pd_var (pv 4)) (pda_cons (pd_call f_l_plain hi (by rfl) (pda_cons (pd_lst (pda_cons (pd_tup (pda_cons (pd_int) (pda_cons (pd_int) (pda_cons (pd_var (pv 7)) (pda_nil))))) (pda_cons (pd_tup (pda_cons (pd_int) (pda_cons (pd_int) (pda_cons (pd_var (pv 9)) (pda_nil))))) (pda_cons (pd_tup (pda_cons (pd_int) (pda_cons (pd_int) (pda_cons (pd_var (pv 10)) (pda_nil))))) (pda_nil))))) (pda_nil))) (pda_nil))))
      (pdss_one (pds_set (i := 3) nd rfl (by first | exact .inl rfl | exact .inr rfl) (pd_op op_addA od_add (pd_var (pv 3)) (pd_int))))))))))
      (pdss_one (pds_ret (pd_callTy call_tuple_of cd_tuple (by rfl) nb.tuple_ (by decide +kernel) (pda_cons (pd_var (pv 4)) (pda_nil))))))
/-! ### law -/
abbrev s_law : Stmt := topS 24
abbrev N_law : List Str := ["script", "bag", "lap", "size", "numbers", "many", "degree", "found", "due", "k", "one", "here"]
abbrev P_law : List Str := ["script"]
theorem sc_law : FnScope N_law P_law (defScope s_law) := ⟨rfl, rfl, rfl, by decide +kernel, rfl, by decide +kernel, by decide +kernel⟩
theorem bd_law {K : PySem.W.Frag} {f : Addr} {fd : FuncData} (F : FnP K "law" "law" s_law f fd) : Binds K fd P_law [] := FunD.bindsN F fun _ _ _ _ _ _ us hl => match us, hl with | [_], _ => rfl
def r_law (sp_l_bag : DSp) (sp_l_pick : DSp) (sp_l_draw : DSp) (sp_l_same : DSp) (sp_draws : DSp) (sp_l_stream : DSp) (sp_drawn_polynomial : DSp) (sp_drawn_scene : DSp) (sp_l_own_scene : DSp) (sp_drawn_plane : DSp) (sp_l_own_plane : DSp) : DS := sSeq (sAsg (dCall sp_l_bag (aCons (dVar 0) (aNil))) (gNm 1)) (sSeq (sFor (iRange1 (aCons (dC (.int 4)) (aNil))) (gNm 2) (sSeq (sAsg (dCall sp_l_pick (aCons (dVar 1) (aCons (dLst (aCons (dC (.int 1)) (aCons (dC (.int 2)) (aCons (dC (.int 3)) (aCons (dBin gAdd (dC (.int 1)) (dCall sp_l_draw (aCons (dVar 1) (aCons (dC (.int 60)) (aNil))))) (aNil)))))) (aNil)))) (gNm 3)) (sSeq (sAsg (dCB gTuple (aCons (dLc (iRange1 (aCons (dVar 3) (aNil))) (gNm 9) (tYesD) (dCall sp_l_pick (aCons (dVar 1) (aCons (dLst (aCons (dC (.int 0)) (aCons (dC (.int 1)) (aCons (dCall sp_l_draw (aCons (dVar 1) (aCons (dC (.int 1000)) (aNil)))) (aCons (dCall sp_l_draw (aCons (dVar 1) (aCons (dBin gPow (dC (.int 2)) (dC (.int 31))) (aNil)))) (aCons (dBin gPow (dC (.int 10)) (dC (.int 11))) (aNil))))))) (aNil)))) [9]) (aNil))) (gNm 4)) (sSeq (sAsg (dCall sp_l_pick (aCons (dVar 1) (aCons (dLst (aCons (dC (.int 0)) (aCons (dC (.int 1)) (aCons (dC (.int 5)) (aCons (dCall sp_l_draw (aCons (dVar 1) (aCons (dC (.int 70)) (aNil)))) (aNil)))))) (aNil)))) (gNm 5)) (sSeq (sIf (dNot (dTru (dCall sp_l_same (aCons (dIf (dTest (dBin gGt (dVar 2) (dC (.int 0)))) (dCall sp_draws (aCons (dVar 4) (aCons (dVar 5) (aNil)))) (dCallK sp_draws [1, 0] 2 (aCons (dVar 5) (aCons (dVar 4) (aNil))))) (aCons (dCB gTuple (aCons (dCall sp_l_stream (aCons (dVar 4) (aCons (dVar 5) (aNil)))) (aNil))) (aNil)))))) (sRet (dC (.bl false))) (sNext)) (sSeq (sAsg (dCall sp_l_draw (aCons (dVar 1) (aCons (dC (.int 13)) (aNil)))) (gNm 6)) (sSeq (sAsg (dCall sp_l_stream (aCons (dVar 4) (aCons (dBin gAdd (dVar 6) (dC (.int 1))) (aNil)))) (gNm 7)) (sSeq (sAsg (dBin gAdd (dCB gTuple (aCons (dLc (iSeq (dSl (dVar 7) (oNone) (oSome (dVar 6)))) (gNm 10) (tYesD) (dBin gSub (dBin gMod (dCB gInt (aCons (dVar 10) (aNil))) (dC (.int 19))) (dC (.int 9))) [10]) (aNil))) (dTup (aCons (dBin gAdd (dC (.int 1)) (dBin gMod (dCB gInt (aCons (dBin gIx (dVar 7) (dVar 6)) (aNil))) (dC (.int 9)))) (aNil)))) (gNm 8)) (sSeq (sIf (dNot (dTru (dCall sp_l_same (aCons (dIf (dTest (dBin gGt (dVar 2) (dC (.int 0)))) (dCall sp_drawn_polynomial (aCons (dVar 4) (aCons (dVar 6) (aNil)))) (dCallK sp_drawn_polynomial [1, 0] 2 (aCons (dVar 6) (aCons (dVar 4) (aNil))))) (aCons (dVar 8) (aNil)))))) (sRet (dC (.bl false))) (sNext)) (sSeq (sAsg (dCall sp_l_pick (aCons (dVar 1) (aCons (dLst (aCons (dCall sp_l_draw (aCons (dVar 1) (aCons (dC (.int 8)) (aNil)))) (aCons (dCall sp_l_draw (aCons (dVar 1) (aCons (dC (.int 8)) (aNil)))) (aCons (dC (.int 40)) (aNil))))) (aNil)))) (gNm 5)) (sSeq (sIf (dNot (dTru (dCall sp_l_same (aCons (dIf (dTest (dBin gGt (dVar 2) (dC (.int 0)))) (dCall sp_drawn_scene (aCons (dVar 4) (aCons (dVar 5) (aNil)))) (dCallK sp_drawn_scene [1, 0] 2 (aCons (dVar 5) (aCons (dVar 4) (aNil))))) (aCons (dCall sp_l_own_scene (aCons (dVar 4) (aCons (dVar 5) (aNil)))) (aNil)))))) (sRet (dC (.bl false))) (sNext)) (sSeq (sAsg (dBin gAdd (dC (.int 1)) (dCall sp_l_draw (aCons (dVar 1) (aCons (dC (.int 4)) (aNil))))) (gNm 5)) (sIf (dNot (dTru (dCall sp_l_same (aCons (dIf (dTest (dBin gGt (dVar 2) (dC (.int 0)))) (dCall sp_drawn_plane (aCons (dVar 4) (aCons (dVar 5) (aNil)))) (dCallK sp_drawn_plane [1, 0] 2 (aCons (dVar 5) (aCons (dVar 4) (aNil))))) (aCons (dCall sp_l_own_plane (aCons (dVar 4) (aCons (dVar 5) (aNil)))) (aNil)))))) (sRet (dC (.bl false))) (sNext)))))))))))))) (sSeq (sFor (iRange1 (aCons (dC (.int 16)) (aNil))) (gNm 2) (sSeq (sAsg (dTup (aCons (dCall sp_l_draw (aCons (dVar 1) (aCons (dBin gPow (dC (.int 10)) (dC (.int 6))) (aNil)))) (aNil))) (gNm 4)) (sSeq (sAsg (dCall sp_drawn_plane (aCons (dVar 4) (aCons (dC (.int 4)) (aNil)))) (gNm 11)) (sIf (dOr (dNot (dTru (dCall sp_l_same (aCons (dVar 11) (aCons (dCall sp_l_own_plane (aCons (dVar 4) (aCons (dC (.int 4)) (aNil)))) (aNil)))))) (dNot (dTru (dCall sp_l_same (aCons (dCall sp_drawn_plane (aCons (dVar 4) (aCons (dC (.int 4)) (aNil)))) (aCons (dVar 11) (aNil))))))) (sRet (dC (.bl false))) (sNext))))) (sRet (dC (.bl true)))))
theorem body_law {W : Wd} {k : Nat} {sp_l_bag : DSp} {sp_l_pick : DSp} {sp_l_draw : DSp} {sp_l_same : DSp} {sp_draws : DSp} {sp_l_stream : DSp} {sp_drawn_polynomial : DSp} {sp_drawn_scene : DSp} {sp_l_own_scene : DSp} {sp_drawn_plane : DSp} {sp_l_own_plane : DSp} (f_l_bag : GFn W k "_law_bag" P_l_bag sp_l_bag) (f_l_pick : GFn W k "_law_pick" P_l_pick sp_l_pick) (f_l_draw : GFn W k "_law_draw" P_l_draw sp_l_draw) (f_l_same : GFn W k "_law_same" P_l_same sp_l_same) (f_draws : GFn W k "draws" P_draws sp_draws) (k_draws_10 : GFnK W k "draws" P_draws sp_draws ["many", "numbers"] [1, 0]) (f_l_stream : GFn W k "_law_stream" P_l_stream sp_l_stream) (f_drawn_polynomial : GFn W k "drawn_polynomial" P_drawn_polynomial sp_drawn_polynomial) (k_drawn_polynomial_10 : GFnK W k "drawn_polynomial" P_drawn_polynomial sp_drawn_polynomial ["degree", "numbers"] [1, 0]) (f_drawn_scene : GFn W k "drawn_scene" P_drawn_scene sp_drawn_scene) (k_drawn_scene_10 : GFnK W k "drawn_scene" P_drawn_scene sp_drawn_scene ["many", "numbers"] [1, 0]) (f_l_own_scene : GFn W k "_law_own_scene" P_l_own_scene sp_l_own_scene) (f_drawn_plane : GFn W k "drawn_plane" P_drawn_plane sp_drawn_plane) (k_drawn_plane_10 : GFnK W k "drawn_plane" P_drawn_plane sp_drawn_plane ["many", "numbers"] [1, 0]) (f_l_own_plane : GFn W k "_law_own_plane" P_l_own_plane sp_l_own_plane) (nb : NB W) : Body W k N_law "law" (defScope s_law) (defBody s_law) (r_law sp_l_bag sp_l_pick sp_l_draw sp_l_same sp_draws sp_l_stream sp_drawn_polynomial sp_drawn_scene sp_l_own_scene sp_drawn_plane sp_l_own_plane) := fun f cdv A outer s H E hi =>
  have nd := sc_law.nd
  pdss_cons (pds_set (i := 1) nd rfl (by first | exact .inl rfl | exact .inr rfl) (pd_call f_l_bag hi (by rfl) (pda_cons (pd_var (pv 0)) (pda_nil))))
      (pdss_cons (pds_for PassesOwn.never rfl (pdi_range1 (by rfl) nb.range (pda_cons (pd_int) (pda_nil))) (pdg_name (pg_name (i := 2) nd rfl (by first | exact .inl rfl | exact .inr rfl))) (pdss_cons (pds_set (i := 3) nd rfl (by first | exact .inl rfl | exact .inr rfl) (pd_call f_l_pick hi (by rfl) (pda_cons (pd_var (pv 1)) (pda_cons (pd_lst (pda_cons (pd_int) (pda_cons (pd_int) (pda_cons (pd_int) (pda_cons (pd_op op_addA od_add (pd_int) (pd_call f_l_draw hi (by rfl) (pda_cons (pd_var (pv 1)) (pda_cons (pd_int) (pda_nil))))) (pda_nil)))))) (pda_nil)))))
      (pdss_cons (pds_set (i := 4) nd rfl (by first | exact .inl rfl | exact .inr rfl) (pd_callTy call_tuple_of cd_tuple (by rfl) nb.tuple_ (by decide +kernel) (pda_cons (pd_lc rfl nd (pdi_range1 (by rfl) nb.range (pda_cons (pd_var (pv 3)) (pda_nil))) (blkOk_by (own := [("k", 9)]) (by show blkC N_law (defScope s_law) _ _ = true; decide +kernel)) (fun _ _ _ _ _ => pdg_name (pg_name (i := 9) nd rfl (by first | exact .inl rfl | exact .inr rfl))) (fun _ _ _ _ _ => pdts_nil) (fun _ _ _ _ _ => pd_call f_l_pick hi.blk (by rfl) (pda_cons (pd_var (pv 1)) (pda_cons (pd_lst (pda_cons (pd_int) (pda_cons (pd_int) (pda_cons (pd_call f_l_draw hi.blk (by rfl) (pda_cons (pd_var (pv 1)) (pda_cons (pd_int) (pda_nil)))) (pda_cons (pd_call f_l_draw hi.blk (by rfl) (pda_cons (pd_var (pv 1)) (pda_cons (pd_op op_pow od_pow (pd_int) (pd_int)) (pda_nil)))) (pda_cons (pd_op op_pow od_pow (pd_int) (pd_int)) (pda_nil))))))) (pda_nil)))) (by decide)) (pda_nil))))
      (pdss_cons (pds_set (i := 5) nd rfl (by first | exact .inl rfl | exact .inr rfl) (pd_call f_l_pick hi (by rfl) (pda_cons (pd_var (pv 1)) (pda_cons (pd_lst (pda_cons (pd_int) (pda_cons (pd_int) (pda_cons (pd_int) (pda_cons (pd_call f_l_draw hi (by rfl) (pda_cons (pd_var (pv 1)) (pda_cons (pd_int) (pda_nil)))) (pda_nil)))))) (pda_nil)))))
      (pdss_cons (pds_if (pdt_not (pdt_tru (pd_call f_l_same hi (by rfl) (pda_cons (pd_ifExp (pdt_cmp op_gt od_gt (pd_var (pv 2)) (pd_int) (nomark _)) (pd_call f_draws hi (by rfl) (pda_cons (pd_var (pv 4)) (pda_cons (pd_var (pv 5)) (pda_nil)))) (pd_callK k_draws_10 hi (by rfl) (pdk_cons (pd_var (pv 5)) (pdk_cons (pd_var (pv 4)) (pdk_nil))))) (pda_cons (pd_callTy call_tuple_of cd_tuple (by rfl) nb.tuple_ (by decide +kernel) (pda_cons (pd_call f_l_stream hi (by rfl) (pda_cons (pd_var (pv 4)) (pda_cons (pd_var (pv 5)) (pda_nil)))) (pda_nil))) (pda_nil)))))) (pdss_one (pds_ret (pd_bl))) (pdss_nil))
      (pdss_cons (pds_set (i := 6) nd rfl (by first | exact .inl rfl | exact .inr rfl) (pd_call f_l_draw hi (by rfl) (pda_cons (pd_var (pv 1)) (pda_cons (pd_int) (pda_nil)))))
      (pdss_cons (pds_set (i := 7) nd rfl (by first | exact .inl rfl | exact .inr rfl) (pd_call f_l_stream hi (by rfl) (pda_cons (pd_var (pv 4)) (pda_cons (pd_op op_addA od_add (pd_var (pv 6)) (pd_int)) (pda_nil)))))
      (pdss_cons (pds_set (i := 8) nd rfl (by first | exact .inl rfl | exact .inr rfl) (pd_op op_addA od_add (pd_callTy call_tuple_of cd_tuple (by rfl) nb.tuple_ (by decide +kernel) (pda_cons (pd_lc rfl nd (pdi_seq (pd_slice (pd_var (pv 7)) (pdo_none) (pdo_some (pd_var (pv 6))))) (blkOk_by (own := [("one", 10)]) (by show blkC N_law (defScope s_law) _ _ = true; decide +kernel)) (fun _ _ _ _ _ => pdg_name (pg_name (i := 10) nd rfl (by first | exact .inl rfl | exact .inr rfl))) (fun _ _ _ _ _ => pdts_nil) (fun _ _ _ _ _ => pd_op op_sub od_sub (pd_op op_modN od_mod (pd_callTy call_int1 cd_int (by rfl) nb.int_ (by decide +kernel) (pda_cons (pd_var (pv 10)) (pda_nil))) (pd_int)) (pd_int)) (by decide)) (pda_nil))) (pd_tup (pda_cons (pd_op op_addA od_add (pd_int) (pd_op op_modN od_mod (pd_callTy call_int1 cd_int (by rfl) nb.int_ (by decide +kernel) (pda_cons (pd_ix (pd_var (pv 7)) (pd_var (pv 6))) (pda_nil))) (pd_int))) (pda_nil)))))
      (pdss_cons (pds_if (pdt_not (pdt_tru (pd_call f_l_same hi (by rfl) (pda_cons (pd_ifExp (pdt_cmp op_gt od_gt (pd_var (pv 2)) (pd_int) (nomark _)) (pd_call f_drawn_polynomial hi (by rfl) (pda_cons (pd_var (pv 4)) (pda_cons (pd_var (pv 6)) (pda_nil)))) (pd_callK k_drawn_polynomial_10 hi (by rfl) (pdk_cons (pd_var (pv 6)) (pdk_cons (pd_var (pv 4)) (pdk_nil))))) (pda_cons (pd_var (pv 8)) (pda_nil)))))) (pdss_one (pds_ret (pd_bl))) (pdss_nil))
      (pdss_cons (pds_set (i := 5) nd rfl (by first | exact .inl rfl | exact .inr rfl) (pd_call f_l_pick hi (by rfl) (pda_cons (pd_var (pv 1)) (pda_cons (pd_lst (pda_cons (pd_call f_l_draw hi (by rfl) (pda_cons (pd_var (pv 1)) (pda_cons (pd_int) (pda_nil)))) (pda_cons (pd_call f_l_draw hi (by rfl) (pda_cons (pd_var (pv 1)) (pda_cons (pd_int) (pda_nil)))) (pda_cons (pd_int) (pda_nil))))) (pda_nil)))))
      (pdss_cons (pds_if (pdt_not (pdt_tru (pd_call f_l_same hi (by rfl) (pda_cons (pd_ifExp (pdt_cmp op_gt od_gt (pd_var (pv 2)) (pd_int) (nomark _)) (pd_call f_drawn_scene hi (by rfl) (pda_cons (pd_var (pv 4)) (pda_cons (pd_var (pv 5)) (pda_nil)))) (pd_callK k_drawn_scene_10 hi (by rfl) (pdk_cons (pd_var (pv 5)) (pdk_cons (pd_var (pv 4)) (pdk_nil))))) (pda_cons (pd_call f_l_own_scene hi (by rfl) (pda_cons (pd_var (pv 4)) (pda_cons (pd_var (pv 5)) (pda_nil)))) (pda_nil)))))) (pdss_one (pds_ret (pd_bl))) (pdss_nil))
      (pdss_cons (pds_set (i := 5) nd rfl (by first | exact .inl rfl | exact .inr rfl) (pd_op op_addA od_add (pd_int) (pd_call f_l_draw hi (by rfl) (pda_cons (pd_var (pv 1)) (pda_cons (pd_int) (pda_nil))))))
      (pdss_one (pds_if (pdt_not (pdt_tru (pd_call f_l_same hi (by rfl) (pda_cons (pd_ifExp (pdt_cmp op_gt od_gt (pd_var (pv 2)) (pd_int) (nomark _)) (pd_call f_drawn_plane hi (by rfl) (pda_cons (pd_var (pv 4)) (pda_cons (pd_var (pv 5)) (pda_nil)))) (pd_callK k_drawn_plane_10 hi (by rfl) (pdk_cons (pd_var (pv 5)) (pdk_cons (pd_var (pv 4)) (pdk_nil))))) (pda_cons (pd_call f_l_own_plane hi (by rfl) (pda_cons (pd_var (pv 4)) (pda_cons (pd_var (pv 5)) (pda_nil)))) (pda_nil)))))) (pdss_one (pds_ret (pd_bl))) (pdss_nil)))))))))))))))
      (pdss_cons (pds_for PassesOwn.never rfl (pdi_range1 (by rfl) nb.range (pda_cons (pd_int) (pda_nil))) (pdg_name (pg_name (i := 2) nd rfl (by first | exact .inl rfl | exact .inr rfl))) (pdss_cons (pds_set (i := 4) nd rfl (by first | exact .inl rfl | exact .inr rfl) (pd_tup (pda_cons (pd_call f_l_draw hi (by rfl) (pda_cons (pd_var (pv 1)) (pda_cons (pd_op op_pow od_pow (pd_int) (pd_int)) (pda_nil)))) (pda_nil))))
      (pdss_cons (pds_set (i := 11) nd rfl (by first | exact .inl rfl | exact .inr rfl) (pd_call f_drawn_plane hi (by rfl) (pda_cons (pd_var (pv 4)) (pda_cons (pd_int) (pda_nil)))))
      (pdss_one (pds_if ((pdw_or (pdt_not (pdt_tru (pd_call f_l_same hi (by rfl) (pda_cons (pd_var (pv 11)) (pda_cons (pd_call f_l_own_plane hi (by rfl) (pda_cons (pd_var (pv 4)) (pda_cons (pd_int) (pda_nil)))) (pda_nil)))))) (pdw_or1 (pdt_not (pdt_tru (pd_call f_l_same hi (by rfl) (pda_cons (pd_call f_drawn_plane hi (by rfl) (pda_cons (pd_var (pv 4)) (pda_cons (pd_int) (pda_nil)))) (pda_cons (pd_var (pv 11)) (pda_nil)))))))).pt) (pdss_one (pds_ret (pd_bl))) (pdss_nil))))))
      (pdss_one (pds_ret (pd_bl)))))
end DD
namespace DD
open PySem PySem.Spec PyProof.Rows L2
theorem updM_swap {M : Mem} {p q : Addr} {a b : MO} (h : p ≠ q) : updM (updM M q a) p b = updM (updM M p b) q a := by
  funext x
  unfold updM
  by_cases h1 : x = p
  · by_cases h2 : x = q
    · exact absurd (h1.symm.trans h2) h
    · simp [h1, h2, h]
  · simp [h1]
/-- a comprehension that walks through states -/
theorem lc_seq {g : DG} {te : DE} {vs : List Nat} {δ : DSt} {R : DK} {ds : List D} {ok : Mem → Prop} {M1 : Mem} (F : Nat → Mem) (f : Nat → D) (F0 : F 0 = M1) (hl : ds.length ≤ sizeLine) (hok : ∀ i p acc, M1 p = none → ok (updM (F i) p (.lst acc)))
    (step : ∀ (i : Nat) (x : D) (p : Addr) (acc : List D) (RY : D → Mem → Prop), ds[i]? = some x → M1 p = none → (∀ M4, M4 = updM (F (i + 1)) p (.lst acc) → RY (f i) M4) → g x (wipeD δ vs) (updM (F i) p (.lst acc)) fun δ2 M2 => te δ2 M2 RY)
    (hR : ∀ p, M1 p = none → R (.ref p) (updM (F ds.length) p (.lst ((List.range ds.length).map f)))) : LcIn g tYesD te vs δ R ds ok M1 := by
  intro p hp
  refine ⟨fun i acc M => M = F i ∧ acc = (List.range i).map f, ⟨F0.symm, by simp⟩, ?_, ?_, ?_⟩
  · rintro i acc M ⟨rfl, rfl⟩
    exact hok i p _ hp
  · rintro i x acc M hx ⟨rfl, rfl⟩
    have hi : i < ds.length := (List.getElem?_eq_some_iff.mp hx).1
    refine ⟨by simp; omega, ?_⟩
    simp only [eq_tYesD, if_true]
    refine step i x p _ _ hx hp fun M4 e => ⟨_, e, rfl, ?_⟩
    rw [List.range_succ]; simp
  · rintro acc M ⟨rfl, rfl⟩
    exact hR p hp
/-! ### the numbers that a Drawer hands out -/
def OkNs (ns : List Int) : Prop := ns ≠ [] ∧ ns.length ≤ 100 ∧ ∀ x ∈ ns, 0 ≤ x ∧ x ≤ 100000000000
def fst0 : Int → Int → Int := fun i n => n * (i + 1)
def stt0 (ns : List Int) : Nat → Int
  | 0 => sumF fst0 ns
  | k + 1 => (stt0 ns k * 1103515245 + 12345 + ns.getD (k % ns.length) 0).fmod 2147483648
theorem seq_ex : ∃ p : (List Int → Nat → Int) × (List Int → Nat → Int), (∀ ns, p.1 ns 0 = sumF fst0 ns) ∧ (∀ ns k, p.1 ns (k + 1) = (p.1 ns k * 1103515245 + 12345 + ns.getD (k % ns.length) 0).fmod 2147483648) ∧ ∀ ns k, p.2 ns k = (p.1 ns (k + 1)).fdiv 65536 :=
  ⟨(stt0, fun ns k => (stt0 ns (k + 1)).fdiv 65536), fun _ => rfl, fun _ _ => rfl, fun _ _ => rfl⟩
/-- the state before the k-th number, the k-th number: known by their laws alone -/
noncomputable def stt : List Int → Nat → Int := (Classical.choose seq_ex).1
noncomputable def outD : List Int → Nat → Int := (Classical.choose seq_ex).2
theorem stt_zero (ns : List Int) : stt ns 0 = sumF fst0 ns := (Classical.choose_spec seq_ex).1 ns
theorem stt_succ (ns : List Int) (k : Nat) : stt ns (k + 1) = (stt ns k * 1103515245 + 12345 + ns.getD (k % ns.length) 0).fmod 2147483648 := (Classical.choose_spec seq_ex).2.1 ns k
theorem outD_eq (ns : List Int) (k : Nat) : outD ns k = (stt ns (k + 1)).fdiv 65536 := (Classical.choose_spec seq_ex).2.2 ns k
theorem getD_ok {ns : List Int} (h : OkNs ns) (k : Nat) : ∃ x, ns.getD (k % ns.length) 0 = x ∧ atI (ns.map D.int) ((k : Int).fmod ns.length) = some (.int x) ∧ 0 ≤ x ∧ x ≤ 100000000000 := by
  obtain ⟨h1, h2, h3⟩ := h
  have hl : 0 < ns.length := List.length_pos_iff.mpr h1
  have hk : k % ns.length < ns.length := Nat.mod_lt _ hl
  have e : (k : Int).fmod ns.length = ((k % ns.length : Nat) : Int) := by
    rw [Int.fmod_eq_emod_of_nonneg _ (by omega)]
    omega
  refine ⟨ns[k % ns.length], by simp [List.getD, hk], ?_, h3 _ (List.getElem_mem hk)⟩
  rw [e]
  exact atI_nat (by omega) (by rw [Int.toNat_natCast]; simp [hk])
theorem val_ok {ns : List Int} (h : OkNs ns) (j : Nat) : 0 ≤ fst0 (j : Int) (ns.getD j 0) ∧ (j < ns.length → fst0 (j : Int) (ns.getD j 0) ≤ 10100000000000) := by
  obtain ⟨h1, h2, h3⟩ := h
  unfold fst0
  by_cases hj : j < ns.length
  · have e : ns.getD j 0 = ns[j] := by simp [List.getD, hj]
    rw [e]
    obtain ⟨a, b⟩ := h3 _ (List.getElem_mem hj)
    refine ⟨Int.mul_nonneg a (by omega), fun _ => ?_⟩
    have c : ((j : Int) + 1) ≤ 101 := by omega
    calc ns[j] * ((j : Int) + 1) ≤ 100000000000 * ((j : Int) + 1) := Int.mul_le_mul_of_nonneg_right b (by omega)
      _ ≤ 100000000000 * 101 := Int.mul_le_mul_of_nonneg_left c (by omega)
      _ = 10100000000000 := by omega
  · have e : ns.getD j 0 = 0 := by simp [List.getD, List.getElem?_eq_none (by omega : ns.length ≤ j)]
    rw [e]
    simp [hj]
theorem pre_ok {ns : List Int} (h : OkNs ns) : ∀ j, j ≤ ns.length → 0 ≤ preSum (fun i => fst0 (i : Int) (ns.getD i 0)) j ∧ preSum (fun i => fst0 (i : Int) (ns.getD i 0)) j ≤ 10100000000000 * j
  | 0, _ => by simp [preSum]
  | j + 1, hj => by
    obtain ⟨a, b⟩ := pre_ok h j (by omega)
    obtain ⟨c, d⟩ := val_ok h j
    have d := d (by omega)
    unfold preSum
    constructor
    · omega
    · push_cast
      omega
theorem stt0_ok {ns : List Int} (h : OkNs ns) : 0 ≤ stt ns 0 ∧ stt ns 0 ≤ 1010000000000000 := by
  obtain ⟨a, b⟩ := pre_ok h ns.length (Nat.le_refl _)
  have := h.2.1
  rw [stt_zero]
  unfold sumF
  constructor
  · exact a
  · omega
theorem stt_ok {ns : List Int} (h : OkNs ns) (k : Nat) : 0 ≤ stt ns k ∧ stt ns k ≤ 1010000000000000 := by
  cases k with
  | zero => exact stt0_ok h
  | succ k =>
    rw [stt_succ]
    have a := fmod_nn (a := stt ns k * 1103515245 + 12345 + ns.getD (k % ns.length) 0) (b := 2147483648) (by omega)
    have b := fmod_lt (a := stt ns k * 1103515245 + 12345 + ns.getD (k % ns.length) 0) (b := 2147483648) (by omega)
    omega
/-- a Drawer at q, k numbers drawn -/
noncomputable abbrev drwO (C : Addr) (ns : List Int) (k : Nat) : MO := .ins C n_Drawer [.tup (ns.map D.int), .int k, .int (stt ns k)]
def spInit (C P : Addr) : DSp := fun ds M R => ∃ p ns, ds = [.ref p, .tup (ns.map D.int)] ∧ OkNs ns ∧ M p = some (.ins C n_Drawer []) ∧ M P = some .tbl ∧ R .non (updM M p (drwO C ns 0))
def spDrw (C : Addr) : DSp := fun ds M R => ∃ q ns k, ds = [.ref q] ∧ OkNs ns ∧ k ≤ 2 ^ 40 ∧ M q = some (drwO C ns k) ∧ R (.int (outD ns k)) (updM M q (drwO C ns (k + 1)))
@[simp] theorem eq_dSumEnum {P : Addr} {C : Int → Int → Prop} {f : Int → Int → Int} {t : DA} {δ : DSt} {M : Mem} {R : DK} : dSumEnum P C f t δ M R = t δ M fun ds M1 => (match ds with
  | [.tup xs] => M1 P = some .tbl ∧ ∃ ns : List Int, xs = ns.map D.int ∧ (∀ (i : Nat) (n : Int), ns[i]? = some n → C (i : Int) n) ∧
      (∀ j, j < ns.length → InLong (f (j : Int) (ns.getD j 0)) ∧ InLong (preSum (fun i => f (i : Int) (ns.getD i 0)) (j + 1))) ∧ R (.int (sumF f ns)) M1
  | _ => False) := propext Iff.rfl
theorem k_init (C P : Addr) (ds : List D) (M : Mem) (R : DK) (h : spInit C P ds M R) : r_Drawer_init C P (endsF R) (startD N_Drawer_init ds) M := by
  obtain ⟨p, ns, rfl, hn, hp, hP, k⟩ := h
  have ne : P ≠ p := fun e => by rw [e, hp] at hP; cases hP
  unfold r_Drawer_init
  simp [hp, hP, ne, putD, updM_upd]
  refine ⟨ns, rfl, fun i n hi => ?_, fun j hj => ?_, ?_⟩
  · have hil : i < ns.length := (List.getElem?_eq_some_iff.mp hi).1
    obtain ⟨a, b⟩ := hn.2.2 n (List.mem_of_getElem? hi)
    have := hn.2.1
    exact mul_ok 60 60 (by omega) (by omega) (by omega) (by omega) (by omega)
  · have a := val_ok hn j
    have b := pre_ok hn (j + 1) (by omega)
    have := hn.2.1
    have c := a.2 hj
    refine ⟨⟨?_, ?_⟩, ⟨?_, ?_⟩⟩
    · exact Int.le_trans (by omega) a.1
    · exact Int.lt_of_le_of_lt c (by omega)
    · exact Int.le_trans (by omega) b.1
    · exact Int.lt_of_le_of_lt b.2 (by push_cast; omega)
  · have k2 := k
    unfold drwO at k2
    rw [stt_zero] at k2
    exact ⟨_, Sub.refl _, k2⟩
theorem k_drw (C : Addr) (ds : List D) (M : Mem) (R : DK) (h : spDrw C ds M R) : r_Drawer_draw C (endsF R) (startD N_Drawer_draw ds) M := by
  obtain ⟨q, ns, j, rfl, hn, hj, hq, k⟩ := h
  obtain ⟨x, hx, hat, x0, x1⟩ := getD_ok hn j
  obtain ⟨s0, s1⟩ := stt_ok hn j
  have m1 : MulOk (stt ns j) 1103515245 := mul_ok 60 40 (by omega) (by omega) (by omega) (by omega) (by omega)
  have d1 : ∀ i, DivOk i 65536 := fun i => div_ok 20 (by omega) (by omega) (by omega) (by omega)
  have hn0 := hn.1
  unfold drwO at hq
  unfold r_Drawer_draw
  simp [hq, hat, putD, updM_upd, m1, d1, hn0]
  refine ⟨_, Sub.refl _, ?_⟩
  have e : stt ns (j + 1) = (stt ns j * 1103515245 + 12345 + x).fmod 2147483648 := by rw [← hx]; exact stt_succ ns j
  have k2 := k
  unfold drwO at k2
  rw [outD_eq, e] at k2
  simpa using k2
/-- all of what draws tells -/
noncomputable def outsD (ns : List Int) (many : Nat) : List D := (List.range many).map fun i => .int (outD ns i)
def spDraws (P : Addr) : DSp := fun ds M R => ∃ ns many, ds = [.tup (ns.map D.int), .int many] ∧ OkNs ns ∧ 0 ≤ many ∧ many ≤ 1000 ∧ M P = some .tbl ∧ R (.tup (outsD ns many.toNat)) M
theorem sub_put {M M' : Mem} {q : Addr} {o : MO} (h : M q = none) (s : Sub M M') : Sub M (updM M' q o) := s.put h
theorem k_draws (C P : Addr) (ds : List D) (M : Mem) (R : DK) (h : spDraws P ds M R) : r_draws C (spInit C P) (spDrw C) (endsF R) (startD N_draws ds) M := by
  obtain ⟨ns, many, rfl, hn, h0, h1, hP, k⟩ := h
  have sl := size_line
  unfold r_draws
  simp
  intro q hq
  have nP : P ≠ q := ne_none hq hP
  refine ⟨q, ns, rfl, hn, updM_same, by simp [nP, hP], ?_⟩
  rw [updM_upd]
  simp
  refine ⟨by omega, lc_seq (fun i => updM M q (drwO C ns i)) (fun i => .int (outD ns i)) rfl (by rw [rangeD_length]; omega) (fun _ _ _ _ => trivial) (fun i x p acc RY hx hp h => ?_) (fun p hp => ?_)⟩
  · obtain ⟨hi, rfl⟩ := range_at hx
    have pq : p ≠ q := fun e => by rw [e, updM_same] at hp; cases hp
    have qp : q ≠ p := pq.symm
    simp [wipeD, qp, drwO]
    refine ⟨q, ns, i, rfl, hn, by omega, by simp [qp, drwO], h _ ?_⟩
    rw [updM_swap qp, updM_upd]
  · rw [rangeD_length]
    simp
    refine ⟨M, ?_, M, Sub.refl _, k⟩
    have pq : M p = none := by
      by_cases e : p = q
      · rw [e, updM_same] at hp; cases hp
      · rw [updM_ne e] at hp; exact hp
    exact ((Sub.refl M).put hq).put pq
end DD
namespace DD
open PySem PySem.Spec PyProof.Rows L2
@[simp] theorem tru_int {M : Mem} {i : Int} : truD M (.int i) = some (i != 0) := rfl
theorem updM_none {M : Mem} {p q : Addr} {o : MO} (h : updM M q o p = none) : p ≠ q ∧ M p = none := by
  by_cases e : p = q
  · rw [e, updM_same] at h; cases h
  · rw [updM_ne e] at h; exact ⟨e, h⟩
/-! ### polynomial, point, wall -/
noncomputable def polyD (ns : List Int) (deg : Nat) : List D := ((List.range deg).map fun i => D.int ((outD ns i).fmod 19 - 9)) ++ [D.int ((outD ns deg).fmod 9 + 1)]
def spPoly (P : Addr) : DSp := fun ds M R => ∃ ns deg, ds = [.tup (ns.map D.int), .int deg] ∧ OkNs ns ∧ 0 ≤ deg ∧ deg ≤ 1000 ∧ M P = some .tbl ∧ R (.tup (polyD ns deg.toNat)) M
theorem k_poly (C P : Addr) (ds : List D) (M : Mem) (R : DK) (h : spPoly P ds M R) : r_drawn_polynomial C (spInit C P) (spDrw C) (endsF R) (startD N_drawn_polynomial ds) M := by
  obtain ⟨ns, many, rfl, hn, h0, h1, hP, k⟩ := h
  have sl := size_line
  unfold r_drawn_polynomial
  simp
  intro q hq
  have nP : P ≠ q := ne_none hq hP
  refine ⟨q, ns, rfl, hn, updM_same, by simp [nP, hP], ?_⟩
  rw [updM_upd]
  simp
  refine ⟨by omega, lc_seq (fun i => updM M q (drwO C ns i)) (fun i => .int ((outD ns i).fmod 19 - 9)) rfl (by rw [rangeD_length]; omega) (fun _ _ _ _ => trivial) (fun i x p acc RY hx hp h => ?_) (fun p hp => ?_)⟩
  · obtain ⟨hi, rfl⟩ := range_at hx
    have pq : p ≠ q := (updM_none hp).1
    have qp : q ≠ p := pq.symm
    simp [wipeD, qp, drwO]
    refine ⟨q, ns, i, rfl, hn, by omega, by simp [qp, drwO], ?_⟩
    simp
    refine h _ ?_
    rw [updM_swap qp, updM_upd]
  · obtain ⟨pq, hp0⟩ := updM_none hp
    have qp : q ≠ p := pq.symm
    rw [rangeD_length]
    simp [qp, drwO]
    refine ⟨q, ns, many.toNat, rfl, hn, by omega, by simp [qp, drwO], ?_⟩
    simp
    refine ⟨by omega, fun p2 hp2 => ?_⟩
    simp [drwO] at hp2
    by_cases e2 : p2 = q
    · simp [e2] at hp2
    simp [e2] at hp2
    by_cases e3 : p2 = p
    · simp [e3] at hp2
    simp [e3] at hp2
    have e3' : ¬ p = p2 := fun z => e3 z.symm
    have e2' : ¬ q = p2 := fun z => e2 z.symm
    simp [pq, e2, e3, e3', drwO]
    refine ⟨by omega, fun p3 hp3 => ?_⟩
    by_cases f2 : p3 = p2
    · simp [f2] at hp3
    simp [f2] at hp3
    by_cases f3 : p3 = q
    · simp [f3] at hp3
    simp [f3] at hp3
    by_cases f4 : p3 = p
    · simp [f4] at hp3
    simp [f4] at hp3
    refine ⟨M, ?_, M, Sub.refl _, ?_⟩
    · exact (((((((Sub.refl M).put hq).put hp0).put hq).put hp2).put hp3))
    · simpa [polyD] using k
noncomputable def ptD (ns : List Int) (k : Nat) : D := .tup [.tup [.int ((outD ns k).fmod 41 - 20), .int 1], .tup [.int ((outD ns (k + 1)).fmod 41 - 20), .int 1]]
def spPoint (C : Addr) : DSp := fun ds M R => ∃ q ns k, ds = [.ref q] ∧ OkNs ns ∧ k ≤ 2 ^ 39 ∧ M q = some (drwO C ns k) ∧ R (ptD ns k) (updM M q (drwO C ns (k + 2)))
theorem k_point (C : Addr) (ds : List D) (M : Mem) (R : DK) (h : spPoint C ds M R) : r_drawn_point C (spDrw C) (endsF R) (startD N_drawn_point ds) M := by
  obtain ⟨q, ns, j, rfl, hn, hj, hq, k⟩ := h
  have sl := size_line
  unfold r_drawn_point
  have hq' := hq
  unfold drwO at hq'
  simp [hq']
  refine ⟨q, ns, j, rfl, hn, by omega, hq, ?_⟩
  simp [size_line]
  refine ⟨q, ns, j + 1, rfl, hn, by omega, by simp, ?_⟩
  simp only [updM_upd]
  simp [-updM_at, size_line]
  exact ⟨_, Sub.refl _, k⟩
noncomputable def wallD (ns : List Int) (k w : Nat) : D × Nat :=
  if w % 2 = 0 then (.tup [.str "hull", .tup ((List.range ((outD ns k).fmod 3 + 1).toNat).map fun j => ptD ns (k + 1 + 2 * j))], k + 1 + 2 * ((outD ns k).fmod 3 + 1).toNat)
  else (.tup [.str "disc", ptD ns k, .tup [.int ((outD ns (k + 2)).fmod 4 + 1), .int 1]], k + 3)
def spWall (C : Addr) : DSp := fun ds M R => ∃ q ns k w, ds = [.ref q, .int (w : Nat)] ∧ OkNs ns ∧ k ≤ 2 ^ 38 ∧ M q = some (drwO C ns k) ∧ R (wallD ns k w).1 (updM M q (drwO C ns (wallD ns k w).2))
theorem k_wall (C : Addr) (ds : List D) (M : Mem) (R : DK) (h : spWall C ds M R) : r_drawn_wall C (spDrw C) (spPoint C) (endsF R) (startD N_drawn_wall ds) M := by
  obtain ⟨q, ns, j, w, rfl, hn, hj, hq, k⟩ := h
  have sl := size_line
  have hq' := hq
  unfold drwO at hq'
  have e2 : (w : Int).fmod 2 = ((w % 2 : Nat) : Int) := by
    rw [Int.fmod_eq_emod_of_nonneg _ (by omega)]; omega
  by_cases hw : w % 2 = 0
  · have c1 : ((w : Int).fmod 2 = 0) := by rw [e2, hw]; rfl
    have a0 := fmod_nn (a := outD ns j) (b := 3) (by omega)
    have a1 := fmod_lt (a := outD ns j) (b := 3) (by omega)
    unfold wallD at k
    rw [if_pos hw] at k
    unfold r_drawn_wall
    simp [c1, hq']
    refine ⟨q, ns, j, rfl, hn, by omega, hq, ?_⟩
    simp
    refine ⟨by omega, lc_seq (fun i => updM M q (drwO C ns (j + 1 + 2 * i))) (fun i => ptD ns (j + 1 + 2 * i)) rfl (by rw [rangeD_length]; omega) (fun _ _ _ _ => trivial) (fun i x p acc RY hx hp h => ?_) (fun p hp => ?_)⟩
    · obtain ⟨hi, rfl⟩ := range_at hx
      obtain ⟨pq, hp0⟩ := updM_none hp
      have qp : q ≠ p := pq.symm
      simp [wipeD]
      refine ⟨q, ns, j + 1 + 2 * i, rfl, hn, by omega, by simp [qp], h _ ?_⟩
      rw [updM_swap qp, updM_upd, Nat.mul_succ, ← Nat.add_assoc]
    · obtain ⟨pq, hp0⟩ := updM_none hp
      rw [rangeD_length]
      simp [size_line]
      refine ⟨_, ?_, _, Sub.refl _, k⟩
      exact Sub.new (by simp [pq, hp0])
  · have c1 : ¬ ((w : Int).fmod 2 = 0) := by rw [e2]; omega
    unfold wallD at k
    rw [if_neg hw] at k
    unfold r_drawn_wall
    simp [c1]
    refine ⟨q, ns, j, rfl, hn, by omega, hq, ?_⟩
    simp
    refine ⟨q, ns, j + 2, rfl, hn, by omega, by simp, ?_⟩
    simp only [updM_upd]
    simp [-updM_at, size_line]
    exact ⟨_, Sub.refl _, k⟩
/-! ### terms -/
def termOf (r : Int × Int × Int) : Option D := if r.2.2 ≠ 0 then some (.tup [.tup [.int r.1, .int r.2.1, .int 0], .int r.2.2]) else none
def termsD (rows : List (Int × Int × Int)) : D := .tup ((rows.filterMap termOf).mergeSort dLe)
def isTerm (d : D) : Prop := ∃ i j k c, d = .tup [.tup [.int i, .int j, .int k], .int c]
theorem terms_are (rows : List (Int × Int × Int)) : ∀ d ∈ rows.filterMap termOf, isTerm d := by
  intro d hd
  obtain ⟨r, _, h⟩ := List.mem_filterMap.mp hd
  unfold termOf at h
  split at h
  · cases h
    exact ⟨_, _, _, _, rfl⟩
  · cases h
theorem pyds_terms : ∀ {ds : List D}, (∀ d ∈ ds, isTerm d) → ∃ ps, pyds ds = some ps
  | [], _ => ⟨[], rfl⟩
  | d :: r, h => by
    obtain ⟨ps, e⟩ := pyds_terms fun x hx => h x (List.mem_cons_of_mem _ hx)
    obtain ⟨i, j, k, c, rfl⟩ := h d List.mem_cons_self
    exact ⟨.tuple [.tuple [.int i, .int j, .int k], .int c] :: ps, by simp [pyds, pyd, e]⟩
theorem toP_term {d : D} (h : isTerm d) : ∃ i j k c, toP d = .tuple [.tuple [.int i, .int j, .int k], .int c] := by
  obtain ⟨i, j, k, c, rfl⟩ := h
  exact ⟨i, j, k, c, by simp [toP, pyd, pyds]⟩
@[simp] theorem eq_gSorted {M : Mem} {R : DK} {d : D} : gSorted [d] M R = (match itemsD M d with
    | some ys => isLst d M ∧ (∃ ps, pyds ys = some ps) ∧ PySem.W.AllAlike (ys.map toP) ∧ PySem.W.Sortable (ys.map toP) ∧ (∀ y ∈ ys, (toP y).depth ≤ 60) ∧ ys.length ≤ sizeLine ∧
      ∃ M0, Sub M0 M ∧ ∀ p, M0 p = none → R (.ref p) (updM M0 p (.lst (ys.mergeSort dLe)))
    | none => False) := rfl
theorem sort_terms {ds : List D} (h : ∀ d ∈ ds, isTerm d) : (∃ ps, pyds ds = some ps) ∧ PySem.W.AllAlike (ds.map toP) ∧ PySem.W.Sortable (ds.map toP) ∧ (∀ y ∈ ds, (toP y).depth ≤ 60) := by
  refine ⟨pyds_terms h, ?_, .inl ?_, ?_⟩
  · intro a ha b hb
    obtain ⟨x, hx, rfl⟩ := List.mem_map.mp ha
    obtain ⟨y, hy, rfl⟩ := List.mem_map.mp hb
    obtain ⟨i, j, k, c, e⟩ := toP_term (h x hx)
    obtain ⟨i', j', k', c', e'⟩ := toP_term (h y hy)
    rw [e, e']
    rfl
  · intro a ha
    obtain ⟨x, hx, rfl⟩ := List.mem_map.mp ha
    obtain ⟨i, j, k, c, e⟩ := toP_term (h x hx)
    exact ⟨_, _, e⟩
  · intro y hy
    obtain ⟨i, j, k, c, e⟩ := toP_term (h y hy)
    rw [e]
    show _ ≤ _
    simp [PyData.depth, PyData.depthAll]
def rowT (r : Int × Int × Int) : D := .tup [.tup [.int r.1, .int r.2.1], .int r.2.2]
def rowL (r : Int × Int × Int) : D := .tup [.int r.1, .int r.2.1, .int r.2.2]
def spTerms : DSp := fun ds M R => ∃ rows, ds = [.tup (rows.map rowT)] ∧ rows.length ≤ 100 ∧ R (termsD rows) M
def spPlain : DSp := fun ds M R => ∃ a rows, ds = [.ref a] ∧ M a = some (.lst (rows.map rowL)) ∧ rows.length ≤ 100 ∧ R (termsD rows) M
theorem k_terms (ds : List D) (M : Mem) (R : DK) (h : spTerms ds M R) : r_drawn_terms (endsF R) (startD N_drawn_terms ds) M := by
  obtain ⟨rows, rfl, hl, k⟩ := h
  have sl := size_line
  unfold r_drawn_terms
  simp
  have key : ∀ x ∈ rows.map rowT, ∃ r, x = rowT r := fun x hx => let ⟨r, _, e⟩ := List.mem_map.mp hx; ⟨r, e.symm⟩
  refine lc_fm (fun x => match x with
    | .tup [.tup [.int i, .int j], .int c] => termOf (i, j, c)
    | _ => none) (by simp; omega) (fun _ _ _ => trivial) (fun x p acc RY RN hx hp h1 h2 => ?_) (fun p hp => ?_)
  · obtain ⟨⟨i, j, c⟩, rfl⟩ := key x hx
    by_cases hc : c = 0
    · subst hc
      have := h2 rfl
      simpa [rowT, wipeD] using this
    · have := h1 (.tup [.tup [.int i, .int j, .int 0], .int c]) (if_pos hc)
      simp [rowT, wipeD, hc]
      exact ⟨by omega, by omega, this⟩
  · have e : (rows.map rowT).filterMap (fun x => match x with
      | .tup [.tup [.int i, .int j], .int c] => termOf (i, j, c)
      | _ => none) = rows.filterMap termOf := by
      rw [List.filterMap_map]
      rfl
    have e' := e
    simp only [List.filterMap_map] at e'
    have hle := List.length_filterMap_le termOf rows
    obtain ⟨s1, s2, s3, s4⟩ := sort_terms (terms_are rows)
    rw [e]
    simp
    refine ⟨s1, by simpa using s2, by simpa using s3, fun y i j c hr hy => s4 y (List.mem_filterMap.mpr ⟨(i, j, c), hr, hy⟩), by omega, _, Sub.refl _, fun p2 hp2 => ?_⟩
    simp at hp2
    by_cases e2 : p2 = p
    · simp [e2] at hp2
    simp [e2] at hp2
    refine ⟨M, ((Sub.refl M).put hp).put hp2, M, Sub.refl _, k⟩
theorem k_plain (ds : List D) (M : Mem) (R : DK) (h : spPlain ds M R) : r_l_plain (endsF R) (startD N_l_plain ds) M := by
  obtain ⟨a, rows, rfl, ha, hl, k⟩ := h
  have sl := size_line
  unfold r_l_plain
  simp [ha]
  have key : ∀ x ∈ rows.map rowL, ∃ r, x = rowL r := fun x hx => let ⟨r, _, e⟩ := List.mem_map.mp hx; ⟨r, e.symm⟩
  refine lc_fm (fun x => match x with
    | .tup [.int i, .int j, .int c] => termOf (i, j, c)
    | _ => none) (by simp; omega) (fun p acc hp => by rw [updM_ne (ne_none hp ha)]; exact ha) (fun x p acc RY RN hx hp h1 h2 => ?_) (fun p hp => ?_)
  · obtain ⟨⟨i, j, c⟩, rfl⟩ := key x hx
    by_cases hc : c = 0
    · subst hc
      have := h2 rfl
      simpa [rowL, wipeD] using this
    · have := h1 (.tup [.tup [.int i, .int j, .int 0], .int c]) (if_pos hc)
      simp [rowL, wipeD, hc]
      exact ⟨by omega, by omega, this⟩
  · have e : (rows.map rowL).filterMap (fun x => match x with
      | .tup [.int i, .int j, .int c] => termOf (i, j, c)
      | _ => none) = rows.filterMap termOf := by
      rw [List.filterMap_map]
      rfl
    have hle := List.length_filterMap_le termOf rows
    obtain ⟨s1, s2, s3, s4⟩ := sort_terms (terms_are rows)
    rw [e]
    simp
    refine ⟨s1, by simpa using s2, by simpa using s3, fun y i j c hr hy => s4 y (List.mem_filterMap.mpr ⟨(i, j, c), hr, hy⟩), by omega, _, Sub.refl _, fun p2 hp2 => ?_⟩
    simp at hp2
    by_cases e2 : p2 = p
    · simp [e2] at hp2
    simp [e2] at hp2
    refine ⟨M, ((Sub.refl M).put hp).put hp2, M, Sub.refl _, k⟩
end DD
namespace DD
open PySem PySem.Spec PyProof.Rows L2
/-! ### conic, line -/
noncomputable def co (ns : List Int) (k : Nat) : Int := (outD ns k).fmod 7 - 3
noncomputable def conicD (ns : List Int) (k : Nat) : D × Nat := (termsD [(2, 0, 1), (0, 2, (outD ns k).fmod 3 - 1), (1, 1, co ns (k + 1)), (1, 0, co ns (k + 2)), (0, 1, co ns (k + 3)), (0, 0, co ns (k + 4))], k + 5)
noncomputable def lineD (ns : List Int) (k : Nat) : D × Nat := (termsD [(1, 0, if co ns k = 0 ∧ co ns (k + 1) = 0 then 4 else co ns k), (0, 1, co ns (k + 1)), (0, 0, co ns (k + 2))], k + 3)
def spPart (C : Addr) (f : List Int → Nat → D × Nat) : DSp := fun ds M R => ∃ q ns k, ds = [.ref q] ∧ OkNs ns ∧ k ≤ 2 ^ 38 ∧ M q = some (drwO C ns k) ∧ R (f ns k).1 (updM M q (drwO C ns (f ns k).2))
theorem range4 {α : Type} (f : Nat → α) : (List.range 4).map f = [f 0, f 1, f 2, f 3] := rfl
theorem range3 {α : Type} (f : Nat → α) : (List.range 3).map f = [f 0, f 1, f 2] := rfl
theorem k_conic (C : Addr) (ds : List D) (M : Mem) (R : DK) (h : spPart C conicD ds M R) : r_drawn_conic C (spDrw C) spTerms (endsF R) (startD N_drawn_conic ds) M := by
  obtain ⟨q, ns, j, rfl, hn, hj, hq, k⟩ := h
  have sl := size_line
  unfold r_drawn_conic
  simp [hq]
  refine ⟨q, ns, j, rfl, hn, by omega, hq, ?_⟩
  simp
  refine lc_seq (fun i => updM M q (drwO C ns (j + 1 + i))) (fun i => .int (co ns (j + 1 + i))) rfl (by rw [rangeD_length]; omega) (fun _ _ _ _ => trivial) (fun i x p acc RY hx hp h => ?_) (fun p hp => ?_)
  · obtain ⟨hi, rfl⟩ := range_at hx
    obtain ⟨pq, hp0⟩ := updM_none hp
    have qp : q ≠ p := pq.symm
    simp [wipeD, qp]
    refine ⟨q, ns, j + 1 + i, rfl, hn, by omega, by simp [qp], ?_⟩
    simp
    refine h _ ?_
    rw [updM_swap qp, updM_upd]
    rfl
  · obtain ⟨pq, hp0⟩ := updM_none hp
    rw [rangeD_length]
    have e4 : (4 : Int).toNat = 4 := rfl
    simp only [range4]
    simp [size_line]
    refine ⟨[(2, 0, 1), (0, 2, (outD ns j).fmod 3 - 1), (1, 1, co ns (j + 1)), (1, 0, co ns (j + 2)), (0, 1, co ns (j + 3)), (0, 0, co ns (j + 4))], rfl, by simp, ?_⟩
    simp
    exact ⟨_, Sub.new (by simp [pq, hp0]), k⟩
theorem k_line (C : Addr) (ds : List D) (M : Mem) (R : DK) (h : spPart C lineD ds M R) : r_drawn_line C (spDrw C) spTerms (endsF R) (startD N_drawn_line ds) M := by
  obtain ⟨q, ns, j, rfl, hn, hj, hq, k⟩ := h
  have sl := size_line
  unfold r_drawn_line
  simp
  refine lc_seq (fun i => if i = 0 then M else updM M q (drwO C ns (j + i))) (fun i => .int (co ns (j + i))) rfl (by rw [rangeD_length]; omega) (fun _ _ _ _ => trivial) (fun i x p acc RY hx hp h => ?_) (fun p hp => ?_)
  · obtain ⟨hi, rfl⟩ := range_at hx
    have qp : q ≠ p := ne_none hp hq
    have e : (if i = 0 then M else updM M q (drwO C ns (j + i))) q = some (drwO C ns (j + i)) := by
      by_cases hi0 : i = 0
      · subst hi0; simpa using hq
      · simp [hi0]
    have e2 : updM (if i = 0 then M else updM M q (drwO C ns (j + i))) q (drwO C ns (j + i + 1)) = updM M q (drwO C ns (j + i + 1)) := by
      by_cases hi0 : i = 0
      · subst hi0; simp
      · simp only [hi0, if_false, updM_upd]
    simp [wipeD, qp, e]
    refine ⟨q, ns, j + i, rfl, hn, by omega, by simp [qp, e], ?_⟩
    simp
    refine h _ ?_
    rw [updM_swap qp, e2]
    rfl
  · have qp : q ≠ p := ne_none hp hq
    have pq := qp.symm
    rw [rangeD_length]
    have e4 : (3 : Int).toNat = 3 := rfl
    simp only [range3]
    have fin : ∃ M0, Sub M0 (updM (updM M q (drwO C ns (j + 3))) p (.lst [.int (co ns j), .int (co ns (j + 1)), .int (co ns (j + 2))])) ∧ ∃ M1, Sub M1 M0 ∧ R (lineD ns j).1 M1 :=
      ⟨_, Sub.new (by simp [pq, hp]), _, Sub.refl _, k⟩
    by_cases h1 : co ns j = 0
    · by_cases h2 : co ns (j + 1) = 0
      · simp [size_line, h1, h2]
        refine ⟨[(1, 0, 4), (0, 1, co ns (j + 1)), (0, 0, co ns (j + 2))], by simp [rowT, h2], by simp, ?_⟩
        simp
        refine ⟨_, Sub.new (by simp [pq, hp]), ?_⟩
        have := k
        unfold lineD at this
        simp only [h1, h2, and_self, if_true] at this
        rw [h2]
        exact this
      · simp [size_line, h1, h2]
        refine ⟨[(1, 0, 0), (0, 1, co ns (j + 1)), (0, 0, co ns (j + 2))], by simp [rowT], by simp, ?_⟩
        simp
        refine ⟨_, Sub.new (by simp [pq, hp]), ?_⟩
        have := k
        unfold lineD at this
        simp only [h1, h2, and_false, if_false] at this
        exact this
    · simp [size_line, h1]
      refine ⟨[(1, 0, co ns j), (0, 1, co ns (j + 1)), (0, 0, co ns (j + 2))], by simp [rowT], by simp, ?_⟩
      simp
      refine ⟨_, Sub.new (by simp [pq, hp]), ?_⟩
      have := k
      unfold lineD at this
      simp only [h1, false_and, if_false] at this
      exact this
/-! ### plane, scene -/
def posOf (f : Nat → Nat → D × Nat) : Nat → Nat
  | 0 => 0
  | i + 1 => (f (posOf f i) i).2
def listOf (f : Nat → Nat → D × Nat) (n : Nat) : List D := (List.range n).map fun i => (f (posOf f i) i).1
theorem pos_le {f : Nat → Nat → D × Nat} {c : Nat} (h : ∀ k i, (f k i).2 ≤ k + c) : ∀ i, posOf f i ≤ c * i
  | 0 => by simp [posOf]
  | i + 1 => by
    have a := pos_le h i
    have b := h (posOf f i) i
    unfold posOf
    rw [Nat.mul_succ]
    omega
noncomputable def itemD (ns : List Int) (k w : Nat) : D × Nat := if w % 2 = 0 then conicD ns k else lineD ns k
theorem item_pos (ns : List Int) (k i : Nat) : (itemD ns k i).2 ≤ k + 7 := by
  unfold itemD conicD lineD
  split <;> simp
theorem wall_pos (ns : List Int) (k i : Nat) : (wallD ns k i).2 ≤ k + 7 := by
  have a1 := fmod_lt (a := outD ns k) (b := 3) (by omega)
  unfold wallD
  split
  · simp only; omega
  · simp only; omega
def spPlane (P : Addr) : DSp := fun ds M R => ∃ ns many, ds = [.tup (ns.map D.int), .int many] ∧ OkNs ns ∧ 0 ≤ many ∧ many ≤ 1000 ∧ M P = some .tbl ∧ R (.tup (listOf (itemD ns) many.toNat)) M
noncomputable def sceneD (ns : List Int) (n : Nat) : D := .tup [.tup [.str "disc", .tup [.int 1, .int 1]], .tup (listOf (wallD ns) n)]
def spScene (P : Addr) : DSp := fun ds M R => ∃ ns many, ds = [.tup (ns.map D.int), .int many] ∧ OkNs ns ∧ 0 ≤ many ∧ many ≤ 1000 ∧ M P = some .tbl ∧ R (sceneD ns many.toNat) M
theorem nat_mod2 (i : Nat) : (i : Int).fmod 2 = ((i % 2 : Nat) : Int) := by
  rw [Int.fmod_eq_emod_of_nonneg _ (by omega)]; omega
theorem k_plane (C P : Addr) (ds : List D) (M : Mem) (R : DK) (h : spPlane P ds M R) : r_drawn_plane C (spInit C P) (spPart C lineD) (spPart C conicD) (endsF R) (startD N_drawn_plane ds) M := by
  obtain ⟨ns, many, rfl, hn, h0, h1, hP, k⟩ := h
  have sl := size_line
  unfold r_drawn_plane
  simp
  intro q hq
  have nP : P ≠ q := ne_none hq hP
  refine ⟨q, ns, rfl, hn, updM_same, by simp [nP, hP], ?_⟩
  rw [updM_upd]
  simp
  refine ⟨by omega, lc_seq (fun i => updM M q (drwO C ns (posOf (itemD ns) i))) (fun i => (itemD ns (posOf (itemD ns) i) i).1) rfl (by rw [rangeD_length]; omega) (fun _ _ _ _ => trivial) (fun i x p acc RY hx hp h => ?_) (fun p hp => ?_)⟩
  · obtain ⟨hi, rfl⟩ := range_at hx
    obtain ⟨pq, hp0⟩ := updM_none hp
    have qp : q ≠ p := pq.symm
    have hb := pos_le (item_pos ns) i
    have fin : ∀ f : List Int → Nat → D × Nat, f ns (posOf (itemD ns) i) = itemD ns (posOf (itemD ns) i) i → spPart C f [.ref q] (updM (updM M q (drwO C ns (posOf (itemD ns) i))) p (.lst acc)) RY := fun f e => by
      refine ⟨q, ns, posOf (itemD ns) i, rfl, hn, by omega, by simp [qp], ?_⟩
      rw [e]
      refine h _ ?_
      rw [updM_swap qp, updM_upd]
      rfl
    by_cases hw : i % 2 = 0
    · have c1 : ((i : Int).fmod 2 = 0) := by rw [nat_mod2, hw]; rfl
      simp [wipeD, c1]
      exact fin conicD (by unfold itemD; rw [if_pos hw])
    · have c1 : ¬ ((i : Int).fmod 2 = 0) := by rw [nat_mod2]; omega
      simp [wipeD, c1]
      exact fin lineD (by unfold itemD; rw [if_neg hw])
  · obtain ⟨pq, hp0⟩ := updM_none hp
    rw [rangeD_length]
    simp
    refine ⟨M, ?_, M, Sub.refl _, k⟩
    exact ((Sub.refl M).put hq).put hp0
theorem k_scene (C P : Addr) (ds : List D) (M : Mem) (R : DK) (h : spScene P ds M R) : r_drawn_scene C (spInit C P) (spWall C) (endsF R) (startD N_drawn_scene ds) M := by
  obtain ⟨ns, many, rfl, hn, h0, h1, hP, k⟩ := h
  have sl := size_line
  unfold r_drawn_scene
  simp
  intro q hq
  have nP : P ≠ q := ne_none hq hP
  refine ⟨q, ns, rfl, hn, updM_same, by simp [nP, hP], ?_⟩
  rw [updM_upd]
  simp [size_line]
  refine ⟨by omega, lc_seq (fun i => updM M q (drwO C ns (posOf (wallD ns) i))) (fun i => (wallD ns (posOf (wallD ns) i) i).1) rfl (by rw [rangeD_length]; omega) (fun _ _ _ _ => trivial) (fun i x p acc RY hx hp h => ?_) (fun p hp => ?_)⟩
  · obtain ⟨hi, rfl⟩ := range_at hx
    obtain ⟨pq, hp0⟩ := updM_none hp
    have qp : q ≠ p := pq.symm
    have hb := pos_le (wall_pos ns) i
    simp [wipeD]
    refine ⟨q, ns, posOf (wallD ns) i, i, rfl, hn, by omega, by simp [qp], ?_⟩
    refine h _ ?_
    rw [updM_swap qp, updM_upd]
    rfl
  · obtain ⟨pq, hp0⟩ := updM_none hp
    rw [rangeD_length]
    simp
    refine ⟨M, ?_, M, Sub.refl _, k⟩
    exact ((Sub.refl M).put hq).put hp0
end DD
namespace DD
open PySem PySem.Spec PyProof.Rows L2
@[simp] theorem eq_gSum {M : Mem} {R : DK} {a : Addr} : gSum [.ref a] M R = (match M a with
    | some (.lst ys) => (match intsD ys with
      | some ns => ∃ M0, Sub M0 M ∧ R (.int ns.sum) M0
      | none => False)
    | _ => False) := propext Iff.rfl
theorem gsum_ints {M : Mem} {R : DK} {p : Addr} {ns : List Int} (h : M p = some (.lst (ns.map D.int))) : gSum [.ref p] M R = ∃ M0, Sub M0 M ∧ R (.int ns.sum) M0 := by
  rw [eq_gSum, h]
  show (match intsD (ns.map D.int) with
      | some ns => ∃ M0, Sub M0 M ∧ R (.int ns.sum) M0
      | none => False) = _
  rw [intsD_map]
/-! ### the law's own stream -/
noncomputable def spStream : DSp := fun ds M R => ∃ ns many, ds = [.tup (ns.map D.int), .int many] ∧ OkNs ns ∧ 0 ≤ many ∧ many ≤ 100000 ∧ ∀ p M', M p = none → M' = updM M p (.lst (outsD ns many.toNat)) → R (.ref p) M'
theorem sum_pre (ns : List Int) (n : Nat) : ((List.range n).map fun (i : Nat) => fst0 (i : Int) (ns.getD i 0)).sum = preSum (fun i => fst0 (i : Int) (ns.getD i 0)) n := by
  induction n with
  | zero => rfl
  | succ n ih =>
    rw [List.range_succ, List.map_append, List.sum_append, ih]
    simp [preSum]
theorem outs_succ (ns : List Int) (n : Nat) : outsD ns (n + 1) = outsD ns n ++ [.int (outD ns n)] := by
  unfold outsD
  rw [List.range_succ]; simp
theorem outs_len (ns : List Int) (n : Nat) : (outsD ns n).length = n := by simp [outsD]
theorem outs_at (ns : List Int) {n k : Nat} (h : k < n) : atI (outsD ns n) (k : Int) = some (.int (outD ns k)) := atI_nat (by omega) (by simp [outsD, h])
def mulF (ns : List Int) (x : D) : D := match x with
  | .int i => .int (fst0 i (ns.getD i.toNat 0))
  | _ => x
theorem mulF_range (ns : List Int) (n : Nat) : (rangeD 0 n).map (mulF ns) = (((List.range n).map fun (i : Nat) => fst0 (i : Int) (ns.getD i 0)).map D.int) := by
  unfold rangeD
  rw [List.map_map, List.map_map]
  refine List.map_congr_left fun i _ => ?_
  show D.int _ = D.int _
  have e : ((0 : Int) + (i : Int)).toNat = i := by omega
  rw [e]
  simp
theorem k_stream (ds : List D) (M : Mem) (R : DK) (h : spStream ds M R) : r_l_stream (endsF R) (startD N_l_stream ds) M := by
  obtain ⟨ns, many, rfl, hn, h0, h1, k⟩ := h
  have sl := size_line
  have hl := hn.2.1
  unfold r_l_stream
  simp
  refine ⟨by omega, lc_map (mulF ns) (by rw [rangeD_length]; omega) (fun _ _ _ => trivial) (fun x p acc RY hx hp h => ?_) (fun p hp => ?_)⟩
  · obtain ⟨i, hi2⟩ := List.mem_iff_getElem?.mp hx
    obtain ⟨hi, rfl⟩ := range_at hi2
    have e : ns.getD i 0 = ns[i] := by simp [List.getD, hi]
    have hat : atI (ns.map D.int) (i : Int) = some (.int ns[i]) := atI_nat (by omega) (by simp [hi])
    have hx := hn.2.2 ns[i] (List.getElem_mem hi)
    have hm : MulOk ns[i] ((i : Int) + 1) := mul_ok 60 60 (by omega) (by omega) (by omega) (by omega) (by omega)
    have e0 : (0 : Int) + (i : Int) = i := by omega
    rw [e0] at h ⊢
    unfold mulF fst0 at h
    simp only [Int.toNat_natCast, e] at h
    simp [wipeD, hat]
    exact ⟨hm, h⟩
  · rw [mulF_range]
    rw [gsum_ints updM_same, sum_pre]
    refine ⟨M, Sub.new hp, ?_⟩
    have es : preSum (fun i => fst0 (i : Int) (ns.getD i 0)) ns.length = stt ns 0 := (stt_zero ns).symm
    rw [es]
    intro l hl2
    refine ⟨⟨by omega, by omega⟩, for_in (fun i δ M' => M' = updM M l (.lst (outsD ns (i - 1))) ∧ ∃ o1 o2, δ = [some (.tup (ns.map D.int)), some (.int many), some (.int (stt ns i)), o1, some (.ref l), o2]) ⟨by simp [outsD], _, _, rfl⟩ (fun _ _ _ _ _ => trivial) ?_ ?_⟩
    · rintro i x δ M' hx ⟨rfl, o1, o2, rfl⟩
      obtain ⟨hi, rfl⟩ := range_at hx
      have e0 : (0 : Int) + (i : Int) = i := by omega
      rw [e0]
      obtain ⟨y, hy, hat, y0, y1⟩ := getD_ok hn i
      obtain ⟨s0, s1⟩ := stt_ok hn i
      have m1 : MulOk (stt ns i) 1103515245 := mul_ok 60 40 (by omega) (by omega) (by omega) (by omega) (by omega)
      have d1 : ∀ i, DivOk i 65536 := fun i => div_ok 20 (by omega) (by omega) (by omega) (by omega)
      have hn0 := hn.1
      have es : stt ns (i + 1) = (stt ns i * 1103515245 + 12345 + y).fmod 2147483648 := by rw [← hy]; exact stt_succ ns i
      cases i with
      | zero =>
        simp [m1, hn0]
        simp at hat es
        simp [hat, es]
      | succ j =>
        have c : (0 : Int) < ((j + 1 : Nat) : Int) := by omega
        have hz : (outsD ns j).length < 16777216 := by rw [outs_len]; omega
        have eo : (stt ns (j + 1)).fdiv 65536 = outD ns j := (outD_eq ns j).symm
        simp only [Nat.add_sub_cancel]
        rw [outs_succ]
        simp [c, d1, m1, hn0, hat, es, eo, size_line, hz, updM_upd]
        simp at hat
        simp [hat]
    · rintro δ M' ⟨rfl, o1, o2, rfl⟩
      rw [rangeD_length]
      have e2 : (many + 1).toNat - 1 = many.toNat := by omega
      simp only [e2]
      simp [-updM_at]
      exact ⟨_, Sub.refl _, k l _ hl2 rfl⟩
end DD
namespace DD
open PySem PySem.Spec PyProof.Rows L2
theorem list_succ (f : Nat → Nat → D × Nat) (n : Nat) : listOf f (n + 1) = listOf f n ++ [(f (posOf f n) n).1] := by
  unfold listOf
  rw [List.range_succ]; simp
theorem list_len (f : Nat → Nat → D × Nat) (n : Nat) : (listOf f n).length = n := by simp [listOf]
def spOwnScene : DSp := fun ds M R => ∃ ns many, ds = [.tup (ns.map D.int), .int many] ∧ OkNs ns ∧ 0 ≤ many ∧ many ≤ 1000 ∧ R (sceneD ns many.toNat) M
theorem k_own_scene (ds : List D) (M : Mem) (R : DK) (h : spOwnScene ds M R) : r_l_own_scene spStream (endsF R) (startD N_l_own_scene ds) M := by
  obtain ⟨ns, many, rfl, hn, h0, h1, k⟩ := h
  have sl := size_line
  have hl := hn.2.1
  have m12 : MulOk 12 many := mul_ok 40 40 (by omega) (by omega) (by omega) (by omega) (by omega)
  unfold r_l_own_scene
  simp [m12, size_line]
  refine ⟨ns, 12 * many + 12, rfl, hn, by omega, by omega, fun f M1 hf e1 => ?_⟩
  have S1 : Sub M M1 := by rw [e1]; exact Sub.new hf
  have f1 : M1 f = some (.lst (outsD ns (12 * many + 12).toNat)) := by rw [e1, updM_same]
  clear e1
  simp
  intro l hl1
  have fl : f ≠ l := ne_none hl1 f1
  have lM : M l = none := S1.un hl1
  refine ⟨by omega, for_in (fun i δ M' => (Sub M M' ∧ M' f = some (.lst (outsD ns (12 * many + 12).toNat)) ∧ M' l = some (.lst (listOf (wallD ns) i))) ∧
    ∃ o1 o2 o3 o4, δ = [some (.tup (ns.map D.int)), some (.int many), some (.ref f), some (.int (posOf (wallD ns) i)), some (.ref l), o1, o2, o3, o4]) ⟨⟨S1.put lM, by rw [updM_ne fl]; exact f1, by rw [updM_same]; rfl⟩, _, _, _, _, rfl⟩ (fun _ _ _ _ _ => trivial) ?_ ?_⟩
  · rintro i x δ M' hx ⟨⟨S, hf', hl'⟩, o1, o2, o3, o4, rfl⟩
    obtain ⟨hi, rfl⟩ := range_at hx
    have hb := pos_le (wall_pos ns) i
    have lt := list_len (wallD ns) i
    have e0 : (0 : Int) + (i : Int) = i := by omega
    rw [e0]
    generalize hk : posOf (wallD ns) i = j at hb
    have at0 : atI (outsD ns (12 * many + 12).toNat) (j : Int) = some (.int (outD ns j)) := outs_at ns (by omega)
    by_cases hw : i % 2 = 0
    · have c1 : ((i : Int).fmod 2 = 0) := by rw [nat_mod2, hw]; rfl
      have a0 := fmod_nn (a := outD ns j) (b := 3) (by omega)
      have a1 := fmod_lt (a := outD ns j) (b := 3) (by omega)
      simp [c1, hf', at0]
      have key : ∀ x : D, x ∈ rangeD 0 (1 + (outD ns j).fmod 3).toNat → ∃ t : Nat, x = .int (t : Nat) ∧ t < 3 := fun x hx => by
        obtain ⟨t, ht⟩ := List.mem_iff_getElem?.mp hx
        obtain ⟨h1, rfl⟩ := range_at ht
        exact ⟨t, by simp, by omega⟩
      refine ⟨by omega, lc_map (fun x => match x with
        | .int t => ptD ns (j + 1 + 2 * t.toNat)
        | _ => x) (by rw [rangeD_length]; omega) (fun _ _ _ => trivial) (fun x p acc RY hx hp h => ?_) (fun p hp => ?_)⟩
      · obtain ⟨t, rfl, ht⟩ := key x hx
        have fp : f ≠ p := ne_none hp hf'
        have m2 : MulOk 2 (t : Int) := mul_ok 40 40 (by omega) (by omega) (by omega) (by omega) (by omega)
        have at1 : atI (outsD ns (12 * many + 12).toNat) ((j : Int) + 1 + 2 * (t : Int)) = some (.int (outD ns (j + 1 + 2 * t))) := by
          have := outs_at ns (n := (12 * many + 12).toNat) (k := j + 1 + 2 * t) (by omega)
          simpa using this
        have at2 : atI (outsD ns (12 * many + 12).toNat) ((j : Int) + 2 + 2 * (t : Int)) = some (.int (outD ns (j + 1 + 2 * t + 1))) := by
          have := outs_at ns (n := (12 * many + 12).toNat) (k := j + 1 + 2 * t + 1) (by omega)
          have e : ((j + 1 + 2 * t + 1 : Nat) : Int) = (j : Int) + 2 + 2 * (t : Int) := by omega
          rw [e] at this
          exact this
        simp [wipeD, fp, hf', m2, at1, at2, size_line]
        simpa [ptD] using h
      · have fp : f ≠ p := ne_none hp hf'
        have lp : l ≠ p := ne_none hp hl'
        have pM : M p = none := S.un hp
        have hz : (listOf (wallD ns) i).length < 16777216 := by omega
        have m2 : MulOk 2 (1 + (outD ns j).fmod 3) := mul_ok 40 40 (by omega) (by omega) (by omega) (by omega) (by omega)
        have ee : (rangeD 0 (1 + (outD ns j).fmod 3).toNat).map (fun x => match x with
          | .int t => ptD ns (j + 1 + 2 * t.toNat)
          | _ => x) = (List.range ((outD ns j).fmod 3 + 1).toNat).map fun t => ptD ns (j + 1 + 2 * t) := by
          unfold rangeD
          rw [List.map_map, Int.add_comm 1]
          refine List.map_congr_left fun t _ => ?_
          simp
        rw [ee]
        simp [lp, hl', size_line]
        refine ⟨_, Sub.refl _, ?_⟩
        simp [lp, hl', hz, m2]
        refine ⟨⟨(S.put pM).put lM, by simp [fl, fp, hf'], ?_⟩, ?_⟩
        · rw [list_succ, hk]
          unfold wallD
          rw [if_pos hw]
        · show _ = ((wallD ns (posOf (wallD ns) i) i).2 : Int)
          rw [hk]
          unfold wallD
          rw [if_pos hw]
          simp only
          omega
    · have c1 : ¬ ((i : Int).fmod 2 = 0) := by rw [nat_mod2]; omega
      have hz : (listOf (wallD ns) i).length < 16777216 := by omega
      have at1 : atI (outsD ns (12 * many + 12).toNat) ((j : Int) + 1) = some (.int (outD ns (j + 1))) := by
        have := outs_at ns (n := (12 * many + 12).toNat) (k := j + 1) (by omega)
        simpa using this
      have at2 : atI (outsD ns (12 * many + 12).toNat) ((j : Int) + 2) = some (.int (outD ns (j + 2))) := by
        have := outs_at ns (n := (12 * many + 12).toNat) (k := j + 2) (by omega)
        simpa using this
      simp [c1, hf', hl', at0, at1, at2, size_line, hz]
      refine ⟨⟨S.put lM, by simp [fl, hf'], ?_⟩, ?_⟩
      · rw [list_succ, hk]
        unfold wallD
        rw [if_neg hw]
        simp [ptD, Int.add_comm]
      · show _ = ((wallD ns (posOf (wallD ns) i) i).2 : Int)
        rw [hk]
        unfold wallD
        rw [if_neg hw]
        simp
  · rintro δ M' ⟨⟨S, hf', hl'⟩, o1, o2, o3, o4, rfl⟩
    rw [rangeD_length] at hl'
    simp [hl', size_line]
    refine ⟨M, S, M, Sub.refl _, k⟩
end DD
namespace DD
open PySem PySem.Spec PyProof.Rows L2
def spOwnPlane : DSp := fun ds M R => ∃ ns many, ds = [.tup (ns.map D.int), .int many] ∧ OkNs ns ∧ 0 ≤ many ∧ many ≤ 1000 ∧ R (.tup (listOf (itemD ns) many.toNat)) M
noncomputable def coF (ns : List Int) (j : Nat) (x : D) : D := match x with
  | .int t => .int (co ns (j + t.toNat))
  | _ => x
theorem coF_range4 (ns : List Int) (j : Nat) : (rangeD 0 4).map (coF ns j) = [.int (co ns j), .int (co ns (j + 1)), .int (co ns (j + 2)), .int (co ns (j + 3))] := rfl
theorem coF_range3 (ns : List Int) (j : Nat) : (rangeD 0 3).map (coF ns j) = [.int (co ns j), .int (co ns (j + 1)), .int (co ns (j + 2))] := rfl
theorem k_own_plane (ds : List D) (M : Mem) (R : DK) (h : spOwnPlane ds M R) : r_l_own_plane spStream spPlain (endsF R) (startD N_l_own_plane ds) M := by
  obtain ⟨ns, many, rfl, hn, h0, h1, k⟩ := h
  have sl := size_line
  have hl := hn.2.1
  have m12 : MulOk 6 many := mul_ok 40 40 (by omega) (by omega) (by omega) (by omega) (by omega)
  unfold r_l_own_plane
  simp [m12, size_line]
  refine ⟨ns, 6 * many + 6, rfl, hn, by omega, by omega, fun f M1 hf e1 => ?_⟩
  have S1 : Sub M M1 := by rw [e1]; exact Sub.new hf
  have f1 : M1 f = some (.lst (outsD ns (6 * many + 6).toNat)) := by rw [e1, updM_same]
  clear e1
  simp
  intro l hl1
  have fl : f ≠ l := ne_none hl1 f1
  have lM : M l = none := S1.un hl1
  refine ⟨by omega, for_in (fun i δ M' => (Sub M M' ∧ M' f = some (.lst (outsD ns (6 * many + 6).toNat)) ∧ M' l = some (.lst (listOf (itemD ns) i)) ∧ posOf (itemD ns) i ≤ 5 * i) ∧
    ∃ o1 o2 o3 o4 o5 o6 o7, δ = [some (.tup (ns.map D.int)), some (.int many), some (.ref f), some (.int (posOf (itemD ns) i)), some (.ref l), o1, o2, o3, o4, o5, o6, o7]) ⟨⟨S1.put lM, by rw [updM_ne fl]; exact f1, by rw [updM_same]; rfl, by simp [posOf]⟩, _, _, _, _, _, _, _, rfl⟩ (fun _ _ _ _ _ => trivial) ?_ ?_⟩
  · rintro i x δ M' hx ⟨⟨S, hf', hl', hb⟩, o1, o2, o3, o4, o5, o6, o7, rfl⟩
    obtain ⟨hi, rfl⟩ := range_at hx
    have lt := list_len (itemD ns) i
    have e0 : (0 : Int) + (i : Int) = i := by omega
    rw [e0]
    have hz : (listOf (itemD ns) i).length < 16777216 := by omega
    have hn1 : posOf (itemD ns) (i + 1) = (itemD ns (posOf (itemD ns) i) i).2 := rfl
    have hls := list_succ (itemD ns) i
    generalize hk : posOf (itemD ns) i = j at hb hn1 hls
    have at0 : atI (outsD ns (6 * many + 6).toNat) (j : Int) = some (.int (outD ns j)) := outs_at ns (by omega)
    by_cases hw : i % 2 = 0
    · have c1 : ((i : Int).fmod 2 = 0) := by rw [nat_mod2, hw]; rfl
      have eit : itemD ns j i = conicD ns j := by unfold itemD; rw [if_pos hw]
      rw [eit] at hn1 hls
      simp [c1, hf', at0]
      have key : ∀ x : D, x ∈ rangeD 0 4 → ∃ t : Nat, x = .int (t : Nat) ∧ t < 4 := fun x hx => by
        obtain ⟨t, ht⟩ := List.mem_iff_getElem?.mp hx
        obtain ⟨h1, rfl⟩ := range_at ht
        exact ⟨t, by simp, by omega⟩
      refine lc_map (coF ns (j + 1)) (by rw [rangeD_length]; omega) (fun _ _ _ => trivial) (fun x p acc RY hx hp h => ?_) (fun p hp => ?_)
      · obtain ⟨t, rfl, ht⟩ := key x hx
        have fp : f ≠ p := ne_none hp hf'
        have at1 : atI (outsD ns (6 * many + 6).toNat) ((j : Int) + 1 + (t : Int)) = some (.int (outD ns (j + 1 + t))) := by
          have := outs_at ns (n := (6 * many + 6).toNat) (k := j + 1 + t) (by omega)
          simpa using this
        simp [wipeD, fp, hf', at1]
        exact h
      · have fp : f ≠ p := ne_none hp hf'
        have lp : l ≠ p := ne_none hp hl'
        have pM : M p = none := S.un hp
        rw [coF_range4]
        simp [lp, hl', size_line]
        intro p2 hp2
        obtain ⟨n1, n2⟩ := updM_none (q := p) (M := M') (o := .lst [.int (co ns (j + 1)), .int (co ns (j + 1 + 1)), .int (co ns (j + 1 + 2)), .int (co ns (j + 1 + 3))]) (by simpa using hp2)
        have f2 : f ≠ p2 := ne_none n2 hf'
        have l2 : l ≠ p2 := ne_none n2 hl'
        have p2M : M p2 = none := S.un n2
        refine ⟨p2, [(2, 0, 1), (0, 2, (outD ns j).fmod 3 - 1), (1, 1, co ns (j + 1)), (1, 0, co ns (j + 2)), (0, 1, co ns (j + 3)), (0, 0, co ns (j + 4))], rfl, by simp [rowL, Nat.add_assoc], by simp, ?_⟩
        have ee : termsD [(2, 0, 1), (0, 2, (outD ns j).fmod 3 - 1), (1, 1, co ns (j + 1)), (1, 0, co ns (j + 2)), (0, 1, co ns (j + 3)), (0, 0, co ns (j + 4))] = (conicD ns j).1 := rfl
        simp [lp, l2, hl', hz, hn1, hls, ee]
        refine ⟨⟨((S.put pM).put p2M).put lM, by simp [fl, fp, f2, hf'], ?_⟩, ?_⟩
        · have e5 : (conicD ns j).2 = j + 5 := rfl
          omega
        · have e5 : (conicD ns j).2 = j + 5 := rfl
          omega
    · have c1 : ¬ ((i : Int).fmod 2 = 0) := by rw [nat_mod2]; omega
      have eit : itemD ns j i = lineD ns j := by unfold itemD; rw [if_neg hw]
      rw [eit] at hn1 hls
      simp [c1]
      have key : ∀ x : D, x ∈ rangeD 0 3 → ∃ t : Nat, x = .int (t : Nat) ∧ t < 3 := fun x hx => by
        obtain ⟨t, ht⟩ := List.mem_iff_getElem?.mp hx
        obtain ⟨h1, rfl⟩ := range_at ht
        exact ⟨t, by simp, by omega⟩
      refine lc_map (coF ns j) (by rw [rangeD_length]; omega) (fun _ _ _ => trivial) (fun x p acc RY hx hp h => ?_) (fun p hp => ?_)
      · obtain ⟨t, rfl, ht⟩ := key x hx
        have fp : f ≠ p := ne_none hp hf'
        have at1 : atI (outsD ns (6 * many + 6).toNat) ((j : Int) + (t : Int)) = some (.int (outD ns (j + t))) := by
          have := outs_at ns (n := (6 * many + 6).toNat) (k := j + t) (by omega)
          simpa using this
        simp [wipeD, fp, hf', at1]
        exact h
      · have fp : f ≠ p := ne_none hp hf'
        have lp : l ≠ p := ne_none hp hl'
        have pM : M p = none := S.un hp
        rw [coF_range3]
        have go : ∀ (e : Int) (o : Option D), (e = if co ns j = 0 ∧ co ns (j + 1) = 0 then 4 else co ns j) → sSeq (sDrop (dBM isLst gAppend (dVar 4) (aCons (dCall spPlain (aCons (dLst (aCons (dTup (aCons (dC (.int 1)) (aCons (dC (.int 0)) (aCons (dVar 7) (aNil))))) (aCons (dTup (aCons (dC (.int 0)) (aCons (dC (.int 1)) (aCons (dVar 9) (aNil))))) (aCons (dTup (aCons (dC (.int 0)) (aCons (dC (.int 0)) (aCons (dVar 10) (aNil))))) (aNil))))) (aNil))) (aNil)))) (sAsg (dBin gAdd (dVar 3) (dC (.int 3))) (gNm 3))
            { nx := fun δ M' => (Sub M M' ∧ M' f = some (.lst (outsD ns (6 * many + 6).toNat)) ∧ M' l = some (.lst (listOf (itemD ns) (i + 1))) ∧ posOf (itemD ns) (i + 1) ≤ 5 * (i + 1)) ∧
              ∃ o1 o2 o3 o4 o5 o6 o7, δ = [some (.tup (ns.map D.int)), some (.int many), some (.ref f), some (.int (posOf (itemD ns) (i + 1))), some (.ref l), o1, o2, o3, o4, o5, o6, o7], rt := (endsF R).rt } [some (.tup (ns.map D.int)), some (.int many), some (.ref f), some (.int j), some (.ref l), some (.int i), o2, some (.int e), o, some (.int (co ns (j + 1))), some (.int (co ns (j + 2))), o7]
            (updM M' p (.lst [.int (co ns j), .int (co ns (j + 1)), .int (co ns (j + 2))])) := fun e o he => by
          simp [lp, hl', size_line]
          intro p2 hp2
          obtain ⟨n1, n2⟩ := updM_none (q := p) (M := M') (o := .lst [.int (co ns j), .int (co ns (j + 1)), .int (co ns (j + 2))]) (by simpa using hp2)
          have f2 : f ≠ p2 := ne_none n2 hf'
          have l2 : l ≠ p2 := ne_none n2 hl'
          have p2M : M p2 = none := S.un n2
          refine ⟨p2, [(1, 0, e), (0, 1, co ns (j + 1)), (0, 0, co ns (j + 2))], rfl, by simp [rowL], by simp, ?_⟩
          have ee : termsD [(1, 0, e), (0, 1, co ns (j + 1)), (0, 0, co ns (j + 2))] = (lineD ns j).1 := by rw [he]; rfl
          simp [lp, l2, hl', hz, hn1, hls, ee]
          refine ⟨⟨((S.put pM).put p2M).put lM, by simp [fl, fp, f2, hf'], ?_⟩, ?_⟩
          · have e5 : (lineD ns j).2 = j + 3 := rfl
            omega
          · have e5 : (lineD ns j).2 = j + 3 := rfl
            omega
        by_cases q1 : co ns j = 0
        · by_cases q2 : co ns (j + 1) = 0
          · have := go 4 o4 (by simp [q1, q2])
            simp [q1, q2, size_line] at this ⊢
            exact this
          · have := go 0 o4 (by simp [q1, q2])
            simp [q1, q2, size_line] at this ⊢
            exact this
        · have := go (co ns j) o4 (by simp [q1])
          simp [q1, size_line] at this ⊢
          exact this
  · rintro δ M' ⟨⟨S, hf', hl', _⟩, o1, o2, o3, o4, o5, o6, o7, rfl⟩
    rw [rangeD_length] at hl'
    simp [hl', size_line]
    refine ⟨M, S, M, Sub.refl _, k⟩
end DD
namespace DD
open PySem PySem.Spec PyProof.Rows L2
@[simp] theorem eq_oNone {δ : DSt} {M : Mem} {R : Option Int → Mem → Prop} : oNone δ M R = R none M := propext Iff.rfl
@[simp] theorem eq_oSome {t : DE} {δ : DSt} {M : Mem} {R : Option Int → Mem → Prop} : oSome t δ M R = t δ M fun d M1 => (match d with
  | .int i => R (some i) M1
  | _ => False) := propext Iff.rfl
@[simp] theorem eq_dSl {te : DE} {tl th : DO} {δ : DSt} {M : Mem} {R : DK} : dSl te tl th δ M R = te δ M fun x M1 => tl δ M1 fun lo M2 => th δ M2 fun hi M3 => gSl x lo hi M3 R := propext Iff.rfl
@[simp] theorem eq_gSll {a : Addr} {lo hi : Option Int} {M : Mem} {R : DK} : gSl (.ref a) lo hi M R = (match M a with
    | some (.lst xs) => ∀ p, M p = none → R (.ref p) (updM M p (.lst (cutD xs lo hi)))
    | _ => False) := propext Iff.rfl
@[simp] theorem eq_gSlt {xs : List D} {lo hi : Option Int} {M : Mem} {R : DK} : gSl (.tup xs) lo hi M R = R (.tup (cutD xs lo hi)) M := propext Iff.rfl
theorem cut_to {xs : List D} {k : Int} (h0 : 0 ≤ k) (h1 : k ≤ xs.length) : cutD xs none (some k) = xs.take k.toNat := by
  unfold cutD HT.sIx
  simp only [List.drop_zero, Nat.sub_zero]
  rw [if_neg (by omega), Nat.min_eq_left (by omega)]
/-- what laws know between draws -/
structure BagT (P b g c : Addr) (M : Mem) (N : Nat) : Prop where
  bag : Bag M b g c N
  tab : M P = some .tbl
section
variable {P b g c : Addr} {M : Mem} {N : Nat}
theorem BagT.new {p : Addr} {o : MO} (h : BagT P b g c M N) (hp : M p = none) : BagT P b g c (updM M p o) N := ⟨h.bag.new hp, by rw [updM_ne (ne_none hp h.tab)]; exact h.tab⟩
theorem BagT.mono {N' : Nat} (h : BagT P b g c M N) (hn : N ≤ N') : BagT P b g c M N' := ⟨h.bag.mono hn, h.tab⟩
theorem BagT.nPb (h : BagT P b g c M N) : P ≠ b ∧ P ≠ g := by
  obtain ⟨⟨⟨z, n, gs, cs, h1, h2, h3, _⟩, _⟩, ht⟩ := h
  refine ⟨fun e => ?_, fun e => ?_⟩
  · rw [e, h1] at ht; cases ht
  · rw [e, h2] at ht; cases ht
theorem BagT.draw {many : Int} {R : DK} (h : BagT P b g c M N) (hN : N ≤ 2 ^ 40) (h0 : 0 < many) (h1 : many < 2 ^ 200) (k : ∀ x M', 0 ≤ x → x < many → BagT P b g c M' (N + 1) → SameBut b g M M' → R (.int x) M') : spDraw [.ref b, .int many] M R :=
  ⟨b, g, c, N, many, rfl, h.bag, hN, h0, h1, fun x M' a1 a2 a3 a4 => k x M' a1 a2 ⟨a3, (a4 P h.nPb.1 h.nPb.2).trans h.tab⟩ a4⟩
theorem BagT.pick {p : Addr} {xs : List D} {R : DK} (h : BagT P b g c M N) (hN : N ≤ 2 ^ 40) (hp : M p = none) (h0 : xs ≠ []) (h1 : xs.length < 2 ^ 60) (k : ∀ x M', x ∈ xs → BagT P b g c M' (N + 1) → SameBut b g (updM M p (.lst xs)) M' → R x M') : spPick [.ref b, .ref p] (updM M p (.lst xs)) R :=
  have n := h.bag.ne hp
  ⟨b, g, c, p, N, xs, rfl, h.bag.new hp, hN, updM_same, h0, h1, n.1, n.2.1, n.2.2, fun x M' a1 a2 a3 => k x M' a1 ⟨a2, (a3 P h.nPb.1 h.nPb.2).trans (h.new hp).tab⟩ a3⟩
end
/-- the memory but for p -/
def hideM (M : Mem) (p : Addr) : Mem := fun a => if a = p then none else M a
theorem hide_put {M : Mem} {p : Addr} {o : MO} (h : M p = some o) : M = updM (hideM M p) p o := by
  funext a
  unfold updM hideM
  by_cases e : a = p
  · simp [e, h]
  · simp [e]
theorem hide_none {M : Mem} {p : Addr} : hideM M p p = none := by unfold hideM; simp
theorem hide_ne {M : Mem} {p a : Addr} (h : a ≠ p) : hideM M p a = M a := by unfold hideM; simp [h]
theorem BagT.hide {P b g c p : Addr} {M : Mem} {N : Nat} (h : BagT P b g c M N) (h1 : b ≠ p) (h2 : g ≠ p) (h3 : c ≠ p) (h4 : P ≠ p) : BagT P b g c (hideM M p) N :=
  ⟨h.bag.frame (hide_ne h1) (hide_ne h2) (hide_ne h3), by rw [hide_ne h4]; exact h.tab⟩
/-! ### data that may be compared -/
theorem ok_outs (ns : List Int) (n : Nat) (h : n < 2 ^ 61) : okD 8 (.tup (outsD ns n)) := ⟨by rw [outs_len]; exact h, fun x hx => by
  unfold outsD at hx
  obtain ⟨i, _, rfl⟩ := List.mem_map.mp hx
  trivial⟩
theorem ok_poly (ns : List Int) (n : Nat) (h : n < 2 ^ 60) : okD 8 (.tup (polyD ns n)) := ⟨by unfold polyD; simp; omega, fun x hx => by
  unfold polyD at hx
  rcases List.mem_append.mp hx with hx | hx
  · obtain ⟨i, _, rfl⟩ := List.mem_map.mp hx
    trivial
  · rw [List.mem_singleton.mp hx]; trivial⟩
theorem ok_pair (n : Nat) (a b : D) (h1 : okD n a) (h2 : okD n b) : okD (n + 1) (.tup [a, b]) := ⟨by simp, fun x hx => by
  simp at hx
  rcases hx with rfl | rfl
  · exact h1
  · exact h2⟩
theorem ok_three (n : Nat) (a b c : D) (h1 : okD n a) (h2 : okD n b) (h3 : okD n c) : okD (n + 1) (.tup [a, b, c]) := ⟨by simp, fun x hx => by
  simp at hx
  rcases hx with rfl | rfl | rfl
  · exact h1
  · exact h2
  · exact h3⟩
theorem ok_int (n : Nat) (i : Int) : okD n (.int i) := by cases n <;> trivial
theorem ok_pt (ns : List Int) (k : Nat) (n : Nat) : okD (n + 2) (ptD ns k) := ok_pair _ _ _ (ok_pair _ _ _ (ok_int _ _) (ok_int _ _)) (ok_pair _ _ _ (ok_int _ _) (ok_int _ _))
theorem ok_hull (n : Nat) : okD n (.str "hull") := by cases n <;> (show SeqAt.shaped _ = true; decide +kernel)
theorem ok_disc (n : Nat) : okD n (.str "disc") := by cases n <;> (show SeqAt.shaped _ = true; decide +kernel)
theorem ok_wall (ns : List Int) (k w : Nat) (n : Nat) : okD (n + 4) (wallD ns k w).1 := by
  have a1 := fmod_lt (a := outD ns k) (b := 3) (by omega)
  unfold wallD
  split
  · refine ok_pair _ _ _ (ok_hull _) ⟨by simp; omega, fun x hx => ?_⟩
    obtain ⟨i, _, rfl⟩ := List.mem_map.mp hx
    exact ok_pt ns _ _
  · exact ok_three _ _ _ _ (ok_disc _) (ok_pt _ _ _) (ok_pair _ _ _ (ok_int _ _) (ok_int _ _))
theorem ok_scene (ns : List Int) (n : Nat) (h : n < 2 ^ 61) : okD 8 (sceneD ns n) := by
  refine ok_pair _ _ _ (ok_pair _ _ _ (ok_disc _) (ok_pair _ _ _ (ok_int _ _) (ok_int _ _))) ⟨by rw [list_len]; exact h, fun x hx => ?_⟩
  obtain ⟨i, _, rfl⟩ := List.mem_map.mp hx
  exact ok_wall ns _ _ _
theorem ok_term {d : D} (h : isTerm d) (n : Nat) : okD (n + 2) d := by
  obtain ⟨i, j, k, c, rfl⟩ := h
  exact ok_pair _ _ _ (ok_three _ _ _ _ (ok_int _ _) (ok_int _ _) (ok_int _ _)) (ok_int _ _)
theorem ok_terms (rows : List (Int × Int × Int)) (h : rows.length < 2 ^ 60) (n : Nat) : okD (n + 3) (termsD rows) := by
  refine ⟨?_, fun x hx => ok_term (terms_are rows x (List.mem_mergeSort.mp hx)) n⟩
  rw [List.length_mergeSort]
  have := List.length_filterMap_le termOf rows
  omega
theorem ok_item (ns : List Int) (k w n : Nat) : okD (n + 3) (itemD ns k w).1 := by
  unfold itemD
  split
  · exact ok_terms _ (by simp) n
  · exact ok_terms _ (by simp) n
theorem ok_plane (ns : List Int) (n : Nat) (h : n < 2 ^ 61) : okD 8 (.tup (listOf (itemD ns) n)) := by
  refine ⟨by rw [list_len]; exact h, fun x hx => ?_⟩
  obtain ⟨i, _, rfl⟩ := List.mem_map.mp hx
  exact ok_item ns _ _ _
end DD
namespace DD
open PySem PySem.Spec PyProof.Rows L2
theorem perm10 (a b : D) : permL [1, 0] [a, b] = [b, a] := rfl
def poF (x : D) : D := match x with
  | .int i => .int (i.fmod 19 - 9)
  | _ => x
theorem poly_eq (ns : List Int) (n : Nat) : (outsD ns n).map poF ++ [.int (1 + (outD ns n).fmod 9)] = polyD ns n := by
  unfold outsD polyD
  rw [List.map_map, Int.add_comm 1]
  rfl
section
variable {P b g c : Addr}
/-- a lap of the first loop, from its draws on: size and numbers are drawn -/
theorem k_law (P : Addr) (ds : List D) (M : Mem) (R : DK) (h : spLaw [P] ds M R) :
    r_law spBag spPick spDraw (spSame 8) (spDraws P) spStream (spPoly P) (spScene P) spOwnScene (spPlane P) spOwnPlane (endsF R) (startD N_law ds) M := by
  obtain ⟨d, cells, rfl, hit, hsc, hl, hbits, hT, k⟩ := h
  have hP : M P = some .tbl := hT P (by simp)
  have sl := size_line
  have p31 : CPow 2 31 := ⟨by omega, by omega, by decide⟩
  have p11 : CPow 10 11 := ⟨by omega, by omega, by decide⟩
  have p6 : CPow 10 6 := ⟨by omega, by omega, by decide⟩
  obtain ⟨ok, hsrc, hok⟩ : ∃ ok, srcD M d = some (cells.map D.int, ok) ∧ ∀ p o, M p = none → ok (updM M p o) := by
    cases d with
    | rol xs => cases hit; exact ⟨_, rfl, fun _ _ _ => trivial⟩
    | ref a =>
      obtain ⟨xs, hx⟩ := hsc
      simp [hx] at hit
      subst hit
      exact ⟨fun M' => M' a = some (.lst (cells.map D.int)), by simp [hx], fun p o hp => (updM_ne (ne_none hp hx)).trans hx⟩
    | _ => exact hsc.elim
  unfold r_law
  simp
  refine ⟨d, cells, ok, rfl, hsrc, hok, hl, fun b g c M1 nb ng nc hB hS => ?_⟩
  have B0 : BagT P b g c M1 0 := ⟨hB, hS _ _ hP⟩
  have hdb : ∀ (M : Mem) (d2 : D), ∃ M0, Sub M0 M ∧ R (.bl true) M0 := fun M _ => ⟨M, Sub.refl _, k M⟩
  clear hB hS hok hsrc hsc hit
  simp
  refine for_in (fun i δ M' => BagT P b g c M' (300 * i) ∧ ∃ o2 o3 o4 o5 o6 o7 o8 o9 o10 o11, δ = [some d, some (.ref b), o2, o3, o4, o5, o6, o7, o8, o9, o10, o11])
    ⟨B0, _, _, _, _, _, _, _, _, _, _, rfl⟩ (fun _ _ _ _ _ => trivial) ?_ ?_
  · rintro i x δ M' hx ⟨hB, o2, o3, o4, o5, o6, o7, o8, o9, o10, o11, rfl⟩
    obtain ⟨hi, rfl⟩ := range_at hx
    have e0 : (0 : Int) + (i : Int) = i := by omega
    rw [e0]
    have hi4 : i < 4 := hi
    simp
    -- the size
    refine hB.draw (by omega) (by omega) (by omega) fun x1 M2 x10 x11 B2 _ => ?_
    simp [size_line]
    intro p hp
    refine B2.pick (by omega) hp (by simp) (by simp) fun sz M3 hsz B3 _ => ?_
    obtain ⟨size, rfl, s0, s1⟩ : ∃ size : Int, sz = .int size ∧ 1 ≤ size ∧ size ≤ 60 := by
      simp at hsz
      rcases hsz with rfl | rfl | rfl | rfl
      · exact ⟨1, rfl, by omega, by omega⟩
      · exact ⟨2, rfl, by omega, by omega⟩
      · exact ⟨3, rfl, by omega, by omega⟩
      · exact ⟨_, rfl, by omega, by omega⟩
    clear hsz
    simp
    -- the numbers
    refine ⟨by omega, fun q hq => ⟨fun t acc M => BagT P b g c M (300 * i + 2 + 3 * t) ∧ M q = none ∧ ∃ ns : List Int, acc = ns.map D.int ∧ ns.length = t ∧ ∀ x ∈ ns, 0 ≤ x ∧ x ≤ 100000000000, ⟨B3.mono (by omega), hq, [], rfl, rfl, fun _ z => nomatch z⟩, fun _ _ _ _ => trivial, ?_, ?_⟩⟩
    · rintro t x acc M4 hx ⟨B4, q4, ns, rfl, hlen, hns⟩
      obtain ⟨ht, rfl⟩ := range_at hx
      have ht2 : t < 60 := by omega
      refine ⟨by simp; omega, ?_⟩
      have nq := B4.bag.ne q4
      have nP : P ≠ q := ne_none q4 B4.tab
      simp [wipeD]
      refine (B4.new q4).draw (by omega) (by omega) (by omega) fun x1 M5 x10 x11 B5 S5 => ?_
      simp [p31]
      refine B5.draw (by omega) (by omega) (by omega) fun x2 M6 x20 x21 B6 S6 => ?_
      simp [p11, size_line]
      intro p2 hp2
      have qq : M6 q = some (.lst (ns.map D.int)) := by rw [S6 q nq.1 nq.2.1, S5 q nq.1 nq.2.1, updM_same]
      have n2 : q ≠ p2 := ne_none hp2 qq
      refine B6.pick (by omega) hp2 (by simp) (by simp) fun y M7 hy B7 S7 => ?_
      have q7 : M7 q = some (.lst (ns.map D.int)) := by rw [S7 q nq.1 nq.2.1, updM_ne n2]; exact qq
      obtain ⟨z, rfl, z0, z1⟩ : ∃ z : Int, y = .int z ∧ 0 ≤ z ∧ z ≤ 100000000000 := by
        simp at hy
        rcases hy with rfl | rfl | rfl | rfl | rfl
        · exact ⟨0, rfl, by omega, by omega⟩
        · exact ⟨1, rfl, by omega, by omega⟩
        · exact ⟨_, rfl, by omega, by omega⟩
        · exact ⟨_, rfl, by omega, by omega⟩
        · exact ⟨_, rfl, by omega, by omega⟩
      refine ⟨hideM M7 q, hide_put q7, (B7.hide nq.1.symm nq.2.1.symm nq.2.2.symm nP).mono (by omega), hide_none, ns ++ [z], by simp, by simp [hlen], fun x hx => ?_⟩
      rcases List.mem_append.mp hx with hx | hx
      · exact hns x hx
      · rw [List.mem_singleton.mp hx]; exact ⟨z0, z1⟩
    · rintro acc M4 ⟨B4, q4, ns, rfl, hlen, hns⟩
      rw [rangeD_length] at B4 hlen
      have hn : OkNs ns := ⟨fun e => by rw [e] at hlen; simp at hlen; omega, by omega, hns⟩
      have B4' : BagT P b g c M4 (300 * i + 190) := B4.mono (by omega)
      clear B4 hB B2 B3
      try simp
      refine ⟨M4, Sub.new q4, ?_⟩
      -- many
      refine B4'.draw (by omega) (by omega) (by omega) fun x1 M5 x10 x11 B5 _ => ?_
      try simp [size_line]
      intro p hp
      refine B5.pick (by omega) hp (by simp) (by simp) fun mz M6 hmz B6 _ => ?_
      obtain ⟨many, rfl, m0, m1⟩ : ∃ many : Int, mz = .int many ∧ 0 ≤ many ∧ many ≤ 70 := by
        simp at hmz
        rcases hmz with rfl | rfl | rfl | rfl
        · exact ⟨0, rfl, by omega, by omega⟩
        · exact ⟨1, rfl, by omega, by omega⟩
        · exact ⟨5, rfl, by omega, by omega⟩
        · exact ⟨_, rfl, by omega, by omega⟩
      have key : ∀ (Q : DK), Q (.tup (outsD ns many.toNat)) M6 → spDraws P [.tup (ns.map D.int), .int many] M6 Q := fun Q h => ⟨ns, many, rfl, hn, m0, by omega, B6.tab, h⟩
      try simp [perm10]
      refine key _ ?_
      refine ⟨ns, many, rfl, hn, m0, by omega, fun p6 M7 hp6 e7 => ?_⟩
      try simp [e7]
      refine ⟨M6, Sub.new hp6, _, rfl, ok_outs _ _ (by omega), ?_⟩
      clear e7
      try simp
      -- the polynomial
      refine B6.draw (by omega) (by omega) (by omega) fun dg M7 d0 d1 B7 _ => ?_
      try simp
      refine ⟨ns, dg + 1, rfl, hn, by omega, by omega, fun f M8 hf e8 => ?_⟩
      have B8 : BagT P b g c M8 (300 * i + 193) := by rw [e8]; exact B7.new hf
      have f8 : M8 f = some (.lst (outsD ns (dg + 1).toNat)) := by rw [e8, updM_same]
      clear e8
      have ecut : cutD (outsD ns (dg + 1).toNat) none (some dg) = outsD ns dg.toNat := by
        rw [cut_to d0 (by rw [outs_len]; omega)]
        have e : (dg + 1).toNat = dg.toNat + 1 := by omega
        rw [e, outs_succ, List.take_append_of_le_length (by rw [outs_len]; omega), List.take_of_length_le (by rw [outs_len]; omega)]
      have atd : atI (outsD ns (dg + 1).toNat) dg = some (.int (outD ns dg.toNat)) := by
        have := outs_at ns (n := (dg + 1).toNat) (k := dg.toNat) (by omega)
        rw [Int.toNat_of_nonneg d0] at this
        exact this
      try simp [f8, ecut]
      intro p9 hp9
      have f9 : f ≠ p9 := ne_none hp9 f8
      refine lc_map poF (by rw [outs_len]; omega) (fun q acc hq => by rw [updM_ne (ne_none hq updM_same)]; exact updM_same) (fun x q acc RY hx hq h => ?_) (fun q hq => ?_)
      · unfold outsD at hx
        obtain ⟨t, _, rfl⟩ := List.mem_map.mp hx
        simpa [wipeD, poF] using h
      · have fq : f ≠ q := (ne_none hq (by rw [updM_ne f9]; exact f8))
        try simp
        refine ⟨M8, (Sub.new hp9).trans (Sub.new hq), ?_⟩
        try simp [f8, atd, size_line, outs_len]
        refine ⟨by omega, ?_⟩
        rw [poly_eq]
        have key2 : ∀ (Q : DK), Q (.tup (polyD ns dg.toNat)) M8 → spPoly P [.tup (ns.map D.int), .int dg] M8 Q := fun Q h => ⟨ns, dg, rfl, hn, d0, by omega, B8.tab, h⟩
        try simp [perm10]
        refine key2 _ ⟨_, rfl, ok_poly _ _ (by omega), ?_⟩
        try simp
        -- the scene
        refine B8.draw (by omega) (by omega) (by omega) fun a1 M9 a10 a11 B9 _ => ?_
        try simp
        refine B9.draw (by omega) (by omega) (by omega) fun a2 M10 a20 a21 B10 _ => ?_
        try simp [size_line]
        intro p10 hp10
        refine B10.pick (by omega) hp10 (by simp) (by simp) fun mz M11 hmz B11 _ => ?_
        obtain ⟨mn, rfl, m0, m1⟩ : ∃ many : Int, mz = .int many ∧ 0 ≤ many ∧ many ≤ 70 := by
          simp at hmz
          rcases hmz with rfl | rfl | rfl
          · exact ⟨_, rfl, by omega, by omega⟩
          · exact ⟨_, rfl, by omega, by omega⟩
          · exact ⟨40, rfl, by omega, by omega⟩
        have key3 : ∀ (Q : DK), Q (sceneD ns mn.toNat) M11 → spScene P [.tup (ns.map D.int), .int mn] M11 Q := fun Q h => ⟨ns, mn, rfl, hn, m0, by omega, B11.tab, h⟩
        try simp [perm10]
        refine key3 _ ⟨ns, mn, rfl, hn, m0, by omega, _, rfl, ok_scene _ _ (by omega), ?_⟩
        try simp
        -- the plane
        refine B11.draw (by omega) (by omega) (by omega) fun a3 M12 a30 a31 B12 _ => ?_
        have key4 : ∀ (Q : DK), Q (.tup (listOf (itemD ns) (1 + a3).toNat)) M12 → spPlane P [.tup (ns.map D.int), .int (1 + a3)] M12 Q := fun Q h => ⟨ns, 1 + a3, rfl, hn, by omega, by omega, B12.tab, h⟩
        try simp [perm10]
        refine key4 _ ⟨ns, 1 + a3, rfl, hn, by omega, by omega, _, rfl, ok_plane _ _ (by omega), ?_⟩
        try simp
        exact B12.mono (by omega)
  · rintro δ M' ⟨hB, o2, o3, o4, o5, o6, o7, o8, o9, o10, o11, rfl⟩
    rw [rangeD_length] at hB
    try simp
    refine for_in (fun i δ M' => BagT P b g c M' (2000 + i) ∧ ∃ o2 o3 o4 o5 o6 o7 o8 o9 o10 o11, δ = [some d, some (.ref b), o2, o3, o4, o5, o6, o7, o8, o9, o10, o11])
      ⟨hB.mono (by simp), _, _, _, _, _, _, _, _, _, _, rfl⟩ (fun _ _ _ _ _ => trivial) ?_ ?_
    · rintro i x δ M2 hx ⟨hB2, o2, o3, o4, o5, o6, o7, o8, o9, o10, o11, rfl⟩
      obtain ⟨hi, rfl⟩ := range_at hx
      have hi4 : i < 16 := hi
      try simp [p6]
      refine hB2.draw (by omega) (by omega) (by omega) fun x1 M3 x10 x11 B3 _ => ?_
      have hn : OkNs [x1] := ⟨by simp, by simp, by simp; omega⟩
      try simp [size_line]
      refine ⟨[x1], 4, rfl, hn, by omega, by omega, B3.tab, ?_⟩
      try simp
      refine ⟨[x1], 4, rfl, hn, by omega, by omega, _, rfl, ok_plane _ _ (by decide), ?_⟩
      try simp
      refine ⟨[x1], 4, rfl, hn, by omega, by omega, B3.tab, _, rfl, ok_plane _ _ (by decide), ?_⟩
      try simp
      exact B3.mono (by omega)
    · rintro δ M2 ⟨hB2, o2, o3, o4, o5, o6, o7, o8, o9, o10, o11, rfl⟩
      try simp
      exact hdb _ d
end
end DD
namespace DD
open PySem PySem.Spec PyProof.Rows L2
/-! ### the head: facts by names -/
def d_Drawer_init : He.DefD := ⟨("Drawer", some "__init__"), "__init__", "Drawer.__init__", defArgs s_Drawer_init, defBody s_Drawer_init, defScope s_Drawer_init, [], []⟩
def d_Drawer_draw : He.DefD := ⟨("Drawer", some "draw"), "draw", "Drawer.draw", defArgs s_Drawer_draw, defBody s_Drawer_draw, defScope s_Drawer_draw, [], []⟩
def d_draws : He.DefD := ⟨("draws", none), "draws", "draws", defArgs s_draws, defBody s_draws, defScope s_draws, [], []⟩
def d_drawn_polynomial : He.DefD := ⟨("drawn_polynomial", none), "drawn_polynomial", "drawn_polynomial", defArgs s_drawn_polynomial, defBody s_drawn_polynomial, defScope s_drawn_polynomial, [], []⟩
def d_drawn_point : He.DefD := ⟨("drawn_point", none), "drawn_point", "drawn_point", defArgs s_drawn_point, defBody s_drawn_point, defScope s_drawn_point, [], []⟩
def d_drawn_wall : He.DefD := ⟨("drawn_wall", none), "drawn_wall", "drawn_wall", defArgs s_drawn_wall, defBody s_drawn_wall, defScope s_drawn_wall, [], []⟩
def d_drawn_terms : He.DefD := ⟨("drawn_terms", none), "drawn_terms", "drawn_terms", defArgs s_drawn_terms, defBody s_drawn_terms, defScope s_drawn_terms, [], []⟩
def d_drawn_conic : He.DefD := ⟨("drawn_conic", none), "drawn_conic", "drawn_conic", defArgs s_drawn_conic, defBody s_drawn_conic, defScope s_drawn_conic, [], []⟩
def d_drawn_line : He.DefD := ⟨("drawn_line", none), "drawn_line", "drawn_line", defArgs s_drawn_line, defBody s_drawn_line, defScope s_drawn_line, [], []⟩
def d_drawn_plane : He.DefD := ⟨("drawn_plane", none), "drawn_plane", "drawn_plane", defArgs s_drawn_plane, defBody s_drawn_plane, defScope s_drawn_plane, [], []⟩
def d_drawn_scene : He.DefD := ⟨("drawn_scene", none), "drawn_scene", "drawn_scene", defArgs s_drawn_scene, defBody s_drawn_scene, defScope s_drawn_scene, [], []⟩
def d_l_bag : He.DefD := ⟨("_law_bag", none), "_law_bag", "_law_bag", defArgs s_l_bag, defBody s_l_bag, defScope s_l_bag, [], []⟩
def d_l_draw : He.DefD := ⟨("_law_draw", none), "_law_draw", "_law_draw", defArgs s_l_draw, defBody s_l_draw, defScope s_l_draw, [], []⟩
def d_l_pick : He.DefD := ⟨("_law_pick", none), "_law_pick", "_law_pick", defArgs s_l_pick, defBody s_l_pick, defScope s_l_pick, [], []⟩
def d_l_same : He.DefD := ⟨("_law_same", none), "_law_same", "_law_same", defArgs s_l_same, defBody s_l_same, defScope s_l_same, [], []⟩
def d_l_stream : He.DefD := ⟨("_law_stream", none), "_law_stream", "_law_stream", defArgs s_l_stream, defBody s_l_stream, defScope s_l_stream, [], []⟩
def d_l_plain : He.DefD := ⟨("_law_plain", none), "_law_plain", "_law_plain", defArgs s_l_plain, defBody s_l_plain, defScope s_l_plain, [], []⟩
def d_l_own_scene : He.DefD := ⟨("_law_own_scene", none), "_law_own_scene", "_law_own_scene", defArgs s_l_own_scene, defBody s_l_own_scene, defScope s_l_own_scene, [], []⟩
def d_l_own_plane : He.DefD := ⟨("_law_own_plane", none), "_law_own_plane", "_law_own_plane", defArgs s_l_own_plane, defBody s_l_own_plane, defScope s_l_own_plane, [], []⟩
def d_law : He.DefD := ⟨("law", none), "law", "law", defArgs s_law, defBody s_law, defScope s_law, [], []⟩
def fnAll0 : List He.DefD := [d_Drawer_init, d_Drawer_draw, d_draws, d_drawn_polynomial, d_drawn_point, d_drawn_wall, d_drawn_terms, d_drawn_conic, d_drawn_line, d_drawn_plane, d_drawn_scene, d_l_bag, d_l_draw, d_l_pick, d_l_same, d_l_stream, d_l_plain, d_l_own_scene, d_l_own_plane, d_law]
def fnAll : List He.DefD := fnAll0
def faAll0 : List He.Fa := [.glo "draws", .glo "drawn_polynomial", .glo "drawn_point", .glo "drawn_wall", .glo "drawn_terms", .glo "drawn_conic", .glo "drawn_line", .glo "drawn_plane", .glo "drawn_scene", .glo "_law_bag", .glo "_law_draw", .glo "_law_pick", .glo "_law_same", .glo "_law_stream", .glo "_law_plain", .glo "_law_own_scene", .glo "_law_own_plane", .glo "law", .free "len", .free "abs", .free "sum", .free "min", .free "max", .free "any", .free "all", .free "sorted", .free "isinstance", .free "int", .free "bool", .free "str"]
def faAll1 : List He.Fa := [.free "list", .free "tuple", .free "dict", .free "set", .free "range", .free "enumerate", .free "zip", .free "reversed", .int "FACTOR" 1103515245, .int "MORE" 12345, .int "ROUND" 2147483648, .int "CUT" 65536, .glo "Drawer", .cls "Drawer", .mkr "Drawer", .noat "Drawer" "numbers", .noat "Drawer" "place", .noat "Drawer" "state", .meth "Drawer" "draw"]
def faAll : List He.Fa := faAll0 ++ faAll1
def tfAll : List He.Defn := [("Drawer", some "__init__")]
def exAll : PySem.W.Frag → Bool := fun _ => true
def looseAll0 : List Str := ["FACTOR", "MORE", "ROUND", "CUT", "Drawer", "draws", "drawn_polynomial", "drawn_point", "drawn_wall", "drawn_terms", "drawn_conic", "drawn_line", "drawn_plane", "drawn_scene", "_law_bag", "_law_draw", "_law_pick", "_law_same", "_law_stream", "_law_plain", "_law_own_scene", "_law_own_plane"]
def looseAll : List Str := looseAll0
abbrev Rw : PySem.W.OpenRow := PySem.W.OpenLaw.row PySem.Challenge.rw_wayorring_k67_drawn_cases
abbrev hkAll : PySem.W.Hook := He.hookX 5 faAll fnAll [] tfAll exAll
def obAll (s : PySem.W.SharedT) : He.AlX := He.obsX 5 faAll fnAll [] tfAll exAll (HandSHeadRun.getT s)
theorem obAll_eq (s : PySem.W.SharedT) : obAll s = hkAll.obs s.abs := He.obsX_eq (HandSHeadRun.getT_eq s)
theorem runAll (w : World) : HandSHeadRun.RunEq Rw (PySem.W.view Rw.prog [24]) hkAll obAll 4000 looseAll w := by
  intro os
  kernel_rfl
structure Told (K : PySem.W.Frag) (mg : Str → Option Value) : Prop where
  t_Drawer_init : ∃ fd, FnP K "__init__" "Drawer.__init__" s_Drawer_init (He.fAd K d_Drawer_init.at_) fd
  t_Drawer_draw : ∃ fd, FnP K "draw" "Drawer.draw" s_Drawer_draw (He.fAd K d_Drawer_draw.at_) fd
  t_draws : ∃ fd, FnP K "draws" "draws" s_draws (He.fAd K d_draws.at_) fd
  g_draws : mg "draws" = some (.ref (He.fAd K d_draws.at_))
  t_drawn_polynomial : ∃ fd, FnP K "drawn_polynomial" "drawn_polynomial" s_drawn_polynomial (He.fAd K d_drawn_polynomial.at_) fd
  g_drawn_polynomial : mg "drawn_polynomial" = some (.ref (He.fAd K d_drawn_polynomial.at_))
  t_drawn_point : ∃ fd, FnP K "drawn_point" "drawn_point" s_drawn_point (He.fAd K d_drawn_point.at_) fd
  g_drawn_point : mg "drawn_point" = some (.ref (He.fAd K d_drawn_point.at_))
  t_drawn_wall : ∃ fd, FnP K "drawn_wall" "drawn_wall" s_drawn_wall (He.fAd K d_drawn_wall.at_) fd
  g_drawn_wall : mg "drawn_wall" = some (.ref (He.fAd K d_drawn_wall.at_))
  t_drawn_terms : ∃ fd, FnP K "drawn_terms" "drawn_terms" s_drawn_terms (He.fAd K d_drawn_terms.at_) fd
  g_drawn_terms : mg "drawn_terms" = some (.ref (He.fAd K d_drawn_terms.at_))
  t_drawn_conic : ∃ fd, FnP K "drawn_conic" "drawn_conic" s_drawn_conic (He.fAd K d_drawn_conic.at_) fd
  g_drawn_conic : mg "drawn_conic" = some (.ref (He.fAd K d_drawn_conic.at_))
  t_drawn_line : ∃ fd, FnP K "drawn_line" "drawn_line" s_drawn_line (He.fAd K d_drawn_line.at_) fd
  g_drawn_line : mg "drawn_line" = some (.ref (He.fAd K d_drawn_line.at_))
  t_drawn_plane : ∃ fd, FnP K "drawn_plane" "drawn_plane" s_drawn_plane (He.fAd K d_drawn_plane.at_) fd
  g_drawn_plane : mg "drawn_plane" = some (.ref (He.fAd K d_drawn_plane.at_))
  t_drawn_scene : ∃ fd, FnP K "drawn_scene" "drawn_scene" s_drawn_scene (He.fAd K d_drawn_scene.at_) fd
  g_drawn_scene : mg "drawn_scene" = some (.ref (He.fAd K d_drawn_scene.at_))
  t_l_bag : ∃ fd, FnP K "_law_bag" "_law_bag" s_l_bag (He.fAd K d_l_bag.at_) fd
  g_l_bag : mg "_law_bag" = some (.ref (He.fAd K d_l_bag.at_))
  t_l_draw : ∃ fd, FnP K "_law_draw" "_law_draw" s_l_draw (He.fAd K d_l_draw.at_) fd
  g_l_draw : mg "_law_draw" = some (.ref (He.fAd K d_l_draw.at_))
  t_l_pick : ∃ fd, FnP K "_law_pick" "_law_pick" s_l_pick (He.fAd K d_l_pick.at_) fd
  g_l_pick : mg "_law_pick" = some (.ref (He.fAd K d_l_pick.at_))
  t_l_same : ∃ fd, FnP K "_law_same" "_law_same" s_l_same (He.fAd K d_l_same.at_) fd
  g_l_same : mg "_law_same" = some (.ref (He.fAd K d_l_same.at_))
  t_l_stream : ∃ fd, FnP K "_law_stream" "_law_stream" s_l_stream (He.fAd K d_l_stream.at_) fd
  g_l_stream : mg "_law_stream" = some (.ref (He.fAd K d_l_stream.at_))
  t_l_plain : ∃ fd, FnP K "_law_plain" "_law_plain" s_l_plain (He.fAd K d_l_plain.at_) fd
  g_l_plain : mg "_law_plain" = some (.ref (He.fAd K d_l_plain.at_))
  t_l_own_scene : ∃ fd, FnP K "_law_own_scene" "_law_own_scene" s_l_own_scene (He.fAd K d_l_own_scene.at_) fd
  g_l_own_scene : mg "_law_own_scene" = some (.ref (He.fAd K d_l_own_scene.at_))
  t_l_own_plane : ∃ fd, FnP K "_law_own_plane" "_law_own_plane" s_l_own_plane (He.fAd K d_l_own_plane.at_) fd
  g_l_own_plane : mg "_law_own_plane" = some (.ref (He.fAd K d_l_own_plane.at_))
  t_law : ∃ fd, FnP K "law" "law" s_law (He.fAd K d_law.at_) fd
  g_law : mg "law" = some (.ref (He.fAd K d_law.at_))
  nb_len : mg "len" = none
  nb_abs : mg "abs" = none
  nb_sum : mg "sum" = none
  nb_min : mg "min" = none
  nb_max : mg "max" = none
  nb_any : mg "any" = none
  nb_all : mg "all" = none
  nb_sorted : mg "sorted" = none
  nb_isinstance : mg "isinstance" = none
  nb_int : mg "int" = none
  nb_bool : mg "bool" = none
  nb_str : mg "str" = none
  nb_list : mg "list" = none
  nb_tuple : mg "tuple" = none
  nb_dict : mg "dict" = none
  nb_set : mg "set" = none
  nb_range : mg "range" = none
  nb_enumerate : mg "enumerate" = none
  nb_zip : mg "zip" = none
  nb_reversed : mg "reversed" = none
  gc_FACTOR : ∃ t, mg "FACTOR" = some (.int 1103515245 t)
  gc_MORE : ∃ t, mg "MORE" = some (.int 12345 t)
  gc_ROUND : ∃ t, mg "ROUND" = some (.int 2147483648 t)
  gc_CUT : ∃ t, mg "CUT" = some (.int 65536 t)
  cg_Drawer : mg "Drawer" = some (.ref (He.ga K "Drawer"))
  cc_Drawer : DCls0 K (He.ga K "Drawer") n_Drawer
  ck_Drawer : Mk K (He.ga K "Drawer") (He.fAd K d_Drawer_init.at_)
  cm_Drawer_draw : Meth K (He.ga K "Drawer") "draw" (He.fAd K d_Drawer_draw.at_)
theorem told {K : PySem.W.Frag} {h : Heap} {mg : Str → Option Value} (X : K.In h) (G : h.Ns mainGlobals mg) (c : He.SaysD faAll fnAll K) : Told K mg where
  t_Drawer_init := c.def_ 0 (d := d_Drawer_init) rfl
  t_Drawer_draw := c.def_ 1 (d := d_Drawer_draw) rfl
  t_draws := c.def_ 2 (d := d_draws) rfl
  g_draws := He.glo_ok X G (c.fact 0 (f := .glo "draws") rfl)
  t_drawn_polynomial := c.def_ 3 (d := d_drawn_polynomial) rfl
  g_drawn_polynomial := He.glo_ok X G (c.fact 1 (f := .glo "drawn_polynomial") rfl)
  t_drawn_point := c.def_ 4 (d := d_drawn_point) rfl
  g_drawn_point := He.glo_ok X G (c.fact 2 (f := .glo "drawn_point") rfl)
  t_drawn_wall := c.def_ 5 (d := d_drawn_wall) rfl
  g_drawn_wall := He.glo_ok X G (c.fact 3 (f := .glo "drawn_wall") rfl)
  t_drawn_terms := c.def_ 6 (d := d_drawn_terms) rfl
  g_drawn_terms := He.glo_ok X G (c.fact 4 (f := .glo "drawn_terms") rfl)
  t_drawn_conic := c.def_ 7 (d := d_drawn_conic) rfl
  g_drawn_conic := He.glo_ok X G (c.fact 5 (f := .glo "drawn_conic") rfl)
  t_drawn_line := c.def_ 8 (d := d_drawn_line) rfl
  g_drawn_line := He.glo_ok X G (c.fact 6 (f := .glo "drawn_line") rfl)
  t_drawn_plane := c.def_ 9 (d := d_drawn_plane) rfl
  g_drawn_plane := He.glo_ok X G (c.fact 7 (f := .glo "drawn_plane") rfl)
  t_drawn_scene := c.def_ 10 (d := d_drawn_scene) rfl
  g_drawn_scene := He.glo_ok X G (c.fact 8 (f := .glo "drawn_scene") rfl)
  t_l_bag := c.def_ 11 (d := d_l_bag) rfl
  g_l_bag := He.glo_ok X G (c.fact 9 (f := .glo "_law_bag") rfl)
  t_l_draw := c.def_ 12 (d := d_l_draw) rfl
  g_l_draw := He.glo_ok X G (c.fact 10 (f := .glo "_law_draw") rfl)
  t_l_pick := c.def_ 13 (d := d_l_pick) rfl
  g_l_pick := He.glo_ok X G (c.fact 11 (f := .glo "_law_pick") rfl)
  t_l_same := c.def_ 14 (d := d_l_same) rfl
  g_l_same := He.glo_ok X G (c.fact 12 (f := .glo "_law_same") rfl)
  t_l_stream := c.def_ 15 (d := d_l_stream) rfl
  g_l_stream := He.glo_ok X G (c.fact 13 (f := .glo "_law_stream") rfl)
  t_l_plain := c.def_ 16 (d := d_l_plain) rfl
  g_l_plain := He.glo_ok X G (c.fact 14 (f := .glo "_law_plain") rfl)
  t_l_own_scene := c.def_ 17 (d := d_l_own_scene) rfl
  g_l_own_scene := He.glo_ok X G (c.fact 15 (f := .glo "_law_own_scene") rfl)
  t_l_own_plane := c.def_ 18 (d := d_l_own_plane) rfl
  g_l_own_plane := He.glo_ok X G (c.fact 16 (f := .glo "_law_own_plane") rfl)
  t_law := c.def_ 19 (d := d_law) rfl
  g_law := He.glo_ok X G (c.fact 17 (f := .glo "law") rfl)
  nb_len := He.free_ok X G (c.fact 18 (f := .free "len") rfl)
  nb_abs := He.free_ok X G (c.fact 19 (f := .free "abs") rfl)
  nb_sum := He.free_ok X G (c.fact 20 (f := .free "sum") rfl)
  nb_min := He.free_ok X G (c.fact 21 (f := .free "min") rfl)
  nb_max := He.free_ok X G (c.fact 22 (f := .free "max") rfl)
  nb_any := He.free_ok X G (c.fact 23 (f := .free "any") rfl)
  nb_all := He.free_ok X G (c.fact 24 (f := .free "all") rfl)
  nb_sorted := He.free_ok X G (c.fact 25 (f := .free "sorted") rfl)
  nb_isinstance := He.free_ok X G (c.fact 26 (f := .free "isinstance") rfl)
  nb_int := He.free_ok X G (c.fact 27 (f := .free "int") rfl)
  nb_bool := He.free_ok X G (c.fact 28 (f := .free "bool") rfl)
  nb_str := He.free_ok X G (c.fact 29 (f := .free "str") rfl)
  nb_list := He.free_ok X G (c.fact 30 (f := .free "list") rfl)
  nb_tuple := He.free_ok X G (c.fact 31 (f := .free "tuple") rfl)
  nb_dict := He.free_ok X G (c.fact 32 (f := .free "dict") rfl)
  nb_set := He.free_ok X G (c.fact 33 (f := .free "set") rfl)
  nb_range := He.free_ok X G (c.fact 34 (f := .free "range") rfl)
  nb_enumerate := He.free_ok X G (c.fact 35 (f := .free "enumerate") rfl)
  nb_zip := He.free_ok X G (c.fact 36 (f := .free "zip") rfl)
  nb_reversed := He.free_ok X G (c.fact 37 (f := .free "reversed") rfl)
  gc_FACTOR := He.int_ok X G (c.fact 38 (f := .int "FACTOR" 1103515245) rfl)
  gc_MORE := He.int_ok X G (c.fact 39 (f := .int "MORE" 12345) rfl)
  gc_ROUND := He.int_ok X G (c.fact 40 (f := .int "ROUND" 2147483648) rfl)
  gc_CUT := He.int_ok X G (c.fact 41 (f := .int "CUT" 65536) rfl)
  cg_Drawer := He.glo_ok X G (c.fact 42 (f := .glo "Drawer") rfl)
  cc_Drawer := ⟨He.cls_ok (c.fact 43 (f := .cls "Drawer") rfl), fun f hf => by
    simp only [List.mem_cons, List.not_mem_nil, or_false] at hf
    rcases hf with rfl | rfl | rfl
    · exact He.noat_ok (c.fact 45 (f := .noat "Drawer" "numbers") rfl)
    · exact He.noat_ok (c.fact 46 (f := .noat "Drawer" "place") rfl)
    · exact He.noat_ok (c.fact 47 (f := .noat "Drawer" "state") rfl)
    , by decide +kernel, by decide⟩
  ck_Drawer := He.mkr_ok (c.fact 44 (f := .mkr "Drawer") rfl)
  cm_Drawer_draw := He.meth_ok (c.fact 48 (f := .meth "Drawer" "draw") rfl)
theorem Told.nb {K : PySem.W.Frag} {W : Wd} (T : Told K W.mg) : NB W := ⟨T.nb_len, T.nb_abs, T.nb_sum, T.nb_min, T.nb_max, T.nb_any, T.nb_all, T.nb_sorted, T.nb_isinstance, T.nb_int, T.nb_bool, T.nb_str, T.nb_list, T.nb_tuple, T.nb_dict, T.nb_set, T.nb_range, T.nb_enumerate, T.nb_zip, T.nb_reversed⟩
end DD
namespace DD
open PySem PySem.Spec PyProof.Rows L2
/-! ### every def keeps its promise -/
theorem all67 {W : Wd} (T : Told W.K W.mg) (TB : GxR.TabB W.base W.mg (He.cT W.K ("Drawer", some "__init__")).1 (He.cT W.K ("Drawer", some "__init__")).2)
    {fl : FuncData} (Fl : FnP W.K "law" "law" s_law (He.fAd W.K ("law", none)) fl) : DFn W 12 (He.fAd W.K ("law", none)) fl ["script"] (spLaw [(He.cT W.K ("Drawer", some "__init__")).2]) := by
  have nb := T.nb
  have cl := T.cc_Drawer.at
  have gF : GConst W "FACTOR" c_FACTOR := gconst_int T.gc_FACTOR
  have gM : GConst W "MORE" c_MORE := gconst_int T.gc_MORE
  have gR : GConst W "ROUND" c_ROUND := gconst_int T.gc_ROUND
  have gC : GConst W "CUT" c_CUT := gconst_int T.gc_CUT
  generalize hP : (He.cT W.K ("Drawer", some "__init__")).2 = P at TB ⊢
  generalize hC : He.ga W.K "Drawer" = C at cl
  -- the Drawer
  obtain ⟨fI, FI⟩ := T.t_Drawer_init
  have dI : DFn W 1 _ fI P_Drawer_init (spInit C P) := dfn_mkD FI sc_Drawer_init (bd_Drawer_init FI) (fun ds M R h => by obtain ⟨p, ns, rfl, _⟩ := h; rfl)
    ⟨r_Drawer_init C P, by rw [code_at FI]; exact body_Drawer_init cl nb TB, k_init C P⟩
  have mk : CFn W 1 "Drawer" C n_Drawer P_Drawer_init (spInit C P) := ⟨_, _, by rw [← hC]; exact T.cg_Drawer, by rw [← hC]; exact T.ck_Drawer, dI⟩
  have ret : ∀ xs M R, spInit C P xs M R → spInit C P xs M fun d M2 => d = .non ∧ R d M2 := fun xs M R h => by
    obtain ⟨p, ns, h1, h2, h3, h4, h5⟩ := h
    exact ⟨p, ns, h1, h2, h3, h4, rfl, h5⟩
  obtain ⟨fD, FD⟩ := T.t_Drawer_draw
  have dD : DFn W 1 _ fD P_Drawer_draw (spDrw C) := dfn_mkD FD sc_Drawer_draw (bd_Drawer_draw FD) (fun ds M R h => by obtain ⟨p, ns, k, rfl, _⟩ := h; rfl)
    ⟨r_Drawer_draw C, (body_Drawer_draw cl gF gM gR gC nb).c, k_drw C⟩
  have mD : MFn W 1 C n_Drawer "draw" P_Drawer_draw (spDrw C) := ⟨⟨_, _, by rw [← hC]; exact T.cm_Drawer_draw, dD⟩, by decide +kernel, cl⟩
  -- the program's defs
  obtain ⟨f1, F1⟩ := T.t_draws
  have d1 : DFn W 3 _ f1 P_draws (spDraws P) := dfn_mkD F1 sc_draws (bd_draws F1) (fun ds M R h => by obtain ⟨ns, m, rfl, _⟩ := h; rfl)
    ⟨r_draws C (spInit C P) (spDrw C), (body_draws (by decide) mk ret (mD.mono (by decide)) nb).c, k_draws C P⟩
  obtain ⟨f2, F2⟩ := T.t_drawn_polynomial
  have d2 : DFn W 3 _ f2 P_drawn_polynomial (spPoly P) := dfn_mkD F2 sc_drawn_polynomial (bd_drawn_polynomial F2) (fun ds M R h => by obtain ⟨ns, m, rfl, _⟩ := h; rfl)
    ⟨r_drawn_polynomial C (spInit C P) (spDrw C), (body_drawn_polynomial (by decide) mk ret (mD.mono (by decide)) nb).c, k_poly C P⟩
  obtain ⟨f3, F3⟩ := T.t_drawn_point
  have d3 : DFn W 2 _ f3 P_drawn_point (spPoint C) := dfn_mkD F3 sc_drawn_point (bd_drawn_point F3) (fun ds M R h => by obtain ⟨q, ns, k, rfl, _⟩ := h; rfl)
    ⟨r_drawn_point C (spDrw C), (body_drawn_point mD).c, k_point C⟩
  have g3 : GFn W 2 "drawn_point" P_drawn_point (spPoint C) := ⟨_, _, T.g_drawn_point, d3⟩
  obtain ⟨f4, F4⟩ := T.t_drawn_wall
  have d4 : DFn W 3 _ f4 P_drawn_wall (spWall C) := dfn_mkD F4 sc_drawn_wall (bd_drawn_wall F4) (fun ds M R h => by obtain ⟨q, ns, k, w, rfl, _⟩ := h; rfl)
    ⟨r_drawn_wall C (spDrw C) (spPoint C), (body_drawn_wall (mD.mono (by decide)) g3 nb).c, k_wall C⟩
  have g4 : GFn W 3 "drawn_wall" P_drawn_wall (spWall C) := ⟨_, _, T.g_drawn_wall, d4⟩
  obtain ⟨f5, F5⟩ := T.t_drawn_terms
  have d5 : DFn W 1 _ f5 P_drawn_terms spTerms := dfn_mkD F5 sc_drawn_terms (bd_drawn_terms F5) (fun ds M R h => by obtain ⟨q, rfl, _⟩ := h; rfl)
    ⟨r_drawn_terms, (body_drawn_terms nb).c, k_terms⟩
  have g5 : GFn W 1 "drawn_terms" P_drawn_terms spTerms := ⟨_, _, T.g_drawn_terms, d5⟩
  obtain ⟨f6, F6⟩ := T.t_drawn_conic
  have d6 : DFn W 2 _ f6 P_drawn_conic (spPart C conicD) := dfn_mkD F6 sc_drawn_conic (bd_drawn_conic F6) (fun ds M R h => by obtain ⟨q, ns, k, rfl, _⟩ := h; rfl)
    ⟨r_drawn_conic C (spDrw C) spTerms, (body_drawn_conic mD g5 nb).c, k_conic C⟩
  have g6 : GFn W 2 "drawn_conic" P_drawn_conic (spPart C conicD) := ⟨_, _, T.g_drawn_conic, d6⟩
  obtain ⟨f7, F7⟩ := T.t_drawn_line
  have d7 : DFn W 2 _ f7 P_drawn_line (spPart C lineD) := dfn_mkD F7 sc_drawn_line (bd_drawn_line F7) (fun ds M R h => by obtain ⟨q, ns, k, rfl, _⟩ := h; rfl)
    ⟨r_drawn_line C (spDrw C) spTerms, (body_drawn_line mD g5 nb).c, k_line C⟩
  have g7 : GFn W 2 "drawn_line" P_drawn_line (spPart C lineD) := ⟨_, _, T.g_drawn_line, d7⟩
  obtain ⟨f8, F8⟩ := T.t_drawn_plane
  have d8 : DFn W 3 _ f8 P_drawn_plane (spPlane P) := dfn_mkD F8 sc_drawn_plane (bd_drawn_plane F8) (fun ds M R h => by obtain ⟨ns, m, rfl, _⟩ := h; rfl)
    ⟨r_drawn_plane C (spInit C P) (spPart C lineD) (spPart C conicD), (body_drawn_plane (by decide) mk ret g7 g6 nb).c, k_plane C P⟩
  obtain ⟨f9, F9⟩ := T.t_drawn_scene
  have d9 : DFn W 4 _ f9 P_drawn_scene (spScene P) := dfn_mkD F9 sc_drawn_scene (bd_drawn_scene F9) (fun ds M R h => by obtain ⟨ns, m, rfl, _⟩ := h; rfl)
    ⟨r_drawn_scene C (spInit C P) (spWall C), (body_drawn_scene (by decide) (mk.mono (by decide)) ret g4 nb).c, k_scene C P⟩
  -- the law's defs
  obtain ⟨fa, Fa⟩ := T.t_l_bag
  have da : DFn W 1 _ fa P_l_bag spBag := dfn_mkD Fa sc_l_bag (bd_l_bag Fa) len_bag ⟨r_l_bag, (body_l_bag nb).c, k_bag⟩
  obtain ⟨fb, Fb⟩ := T.t_l_draw
  have db : DFn W 1 _ fb P_l_draw spDraw := dfn_mkD Fb sc_l_draw (bd_l_draw Fb) len_draw ⟨r_l_draw, (body_l_draw nb).c, k_draw⟩
  have gb : GFn W 1 "_law_draw" P_l_draw spDraw := ⟨_, _, T.g_l_draw, db⟩
  obtain ⟨fc, Fc⟩ := T.t_l_pick
  have dc : DFn W 2 _ fc P_l_pick spPick := dfn_mkD Fc sc_l_pick (bd_l_pick Fc) len_pick ⟨r_l_pick spDraw, (body_l_pick gb nb).c, k_pick⟩
  obtain ⟨fs, Fs⟩ := T.t_l_same
  have dS : ∀ n, DFn W (n + 1) (He.fAd W.K ("_law_same", none)) fs P_l_same (spSame n) := by
    intro n
    induction n with
    | zero => exact dfn_mkD Fs sc_l_same (bd_l_same Fs) (len_same 0) ⟨r_l_same spNo, (body_l_same ⟨_, _, T.g_l_same, dfn_no Fs (bd_l_same Fs)⟩ nb).c, k_same 0 spNo (fun m h => by cases h)⟩
    | succ n ih => exact dfn_mkD Fs sc_l_same (bd_l_same Fs) (len_same (n + 1)) ⟨r_l_same (spSame n), (body_l_same ⟨_, _, T.g_l_same, ih⟩ nb).c, k_same (n + 1) (spSame n) (fun m h => by cases h; rfl)⟩
  obtain ⟨ft, Ft⟩ := T.t_l_stream
  have dt : DFn W 1 _ ft P_l_stream spStream := dfn_mkD Ft sc_l_stream (bd_l_stream Ft) (fun ds M R h => by obtain ⟨ns, m, rfl, _⟩ := h; rfl) ⟨r_l_stream, (body_l_stream nb).c, k_stream⟩
  have gt : GFn W 1 "_law_stream" P_l_stream spStream := ⟨_, _, T.g_l_stream, dt⟩
  obtain ⟨fp, Fp⟩ := T.t_l_plain
  have dp : DFn W 1 _ fp P_l_plain spPlain := dfn_mkD Fp sc_l_plain (bd_l_plain Fp) (fun ds M R h => by obtain ⟨a, r, rfl, _⟩ := h; rfl) ⟨r_l_plain, (body_l_plain nb).c, k_plain⟩
  have gp : GFn W 1 "_law_plain" P_l_plain spPlain := ⟨_, _, T.g_l_plain, dp⟩
  obtain ⟨fo, Fo⟩ := T.t_l_own_scene
  have dO : DFn W 2 _ fo P_l_own_scene spOwnScene := dfn_mkD Fo sc_l_own_scene (bd_l_own_scene Fo) (fun ds M R h => by obtain ⟨ns, m, rfl, _⟩ := h; rfl) ⟨r_l_own_scene spStream, (body_l_own_scene gt nb).c, k_own_scene⟩
  obtain ⟨fw, Fw⟩ := T.t_l_own_plane
  have dw : DFn W 2 _ fw P_l_own_plane spOwnPlane := dfn_mkD Fw sc_l_own_plane (bd_l_own_plane Fw) (fun ds M R h => by obtain ⟨ns, m, rfl, _⟩ := h; rfl) ⟨r_l_own_plane spStream spPlain, (body_l_own_plane gt gp nb).c, k_own_plane⟩
  -- calls by names
  have kb1 : GFnK W 11 "draws" P_draws (spDraws P) ["many", "numbers"] [1, 0] := ⟨_, _, T.g_draws, d1.mono (by decide), bindsK F1 fun _ _ _ _ _ _ ws hl => match ws, hl with | [_, _], _ => rfl⟩
  have kb2 : GFnK W 11 "drawn_polynomial" P_drawn_polynomial (spPoly P) ["degree", "numbers"] [1, 0] := ⟨_, _, T.g_drawn_polynomial, d2.mono (by decide), bindsK F2 fun _ _ _ _ _ _ ws hl => match ws, hl with | [_, _], _ => rfl⟩
  have kb3 : GFnK W 11 "drawn_scene" P_drawn_scene (spScene P) ["many", "numbers"] [1, 0] := ⟨_, _, T.g_drawn_scene, d9.mono (by decide), bindsK F9 fun _ _ _ _ _ _ ws hl => match ws, hl with | [_, _], _ => rfl⟩
  have kb4 : GFnK W 11 "drawn_plane" P_drawn_plane (spPlane P) ["many", "numbers"] [1, 0] := ⟨_, _, T.g_drawn_plane, d8.mono (by decide), bindsK F8 fun _ _ _ _ _ _ ws hl => match ws, hl with | [_, _], _ => rfl⟩
  exact dfn_mkD Fl sc_law (bd_law Fl) (fun ds M R h => by obtain ⟨d, c, rfl, _⟩ := h; rfl)
    ⟨r_law spBag spPick spDraw (spSame 8) (spDraws P) spStream (spPoly P) (spScene P) spOwnScene (spPlane P) spOwnPlane,
      (body_law ⟨_, _, T.g_l_bag, da.mono (by decide)⟩ ⟨_, _, T.g_l_pick, dc.mono (by decide)⟩ (gb.mono (by decide)) ⟨_, _, T.g_l_same, (dS 8).mono (by decide)⟩ ⟨_, _, T.g_draws, d1.mono (by decide)⟩ kb1 (gt.mono (by decide))
        ⟨_, _, T.g_drawn_polynomial, d2.mono (by decide)⟩ kb2 ⟨_, _, T.g_drawn_scene, d9.mono (by decide)⟩ kb3 ⟨_, _, T.g_l_own_scene, dO.mono (by decide)⟩ ⟨_, _, T.g_drawn_plane, d8.mono (by decide)⟩ kb4 ⟨_, _, T.g_l_own_plane, dw.mono (by decide)⟩ nb).c,
      k_law P⟩
end DD
open PySem PySem.W PySem.Calls PyProof.Rows
theorem PySem.Challenge.cw_wayorring_k67_drawn_cases_holds : PySem.Challenge.rw_wayorring_k67_drawn_cases.Holds := by
  w_on; o_law
  refine HandSHeadRun.head_any (r := OpenLaw.row PySem.Challenge.rw_wayorring_k67_drawn_cases) (q := view (OpenLaw.row PySem.Challenge.rw_wayorring_k67_drawn_cases).prog [24]) (H := DD.hkAll) (ob := DD.obAll) (M := 4000) (loose := DD.looseAll) (d := HandSHeadRun.topDef (OpenLaw.row PySem.Challenge.rw_wayorring_k67_drawn_cases).prog 24) (kwd := []) DD.obAll_eq
    (by kernel_rfl) (fun s => by kernel_rfl) DD.runAll (by kernel_rfl) (by kernel_rfl) (by kernel_rfl) (by rfl) (by first | assumption | decide +kernel) (by decide +kernel) ⟨rfl, rfl, rfl, rfl, rfl, by decide +kernel⟩ ?hw ?hc
  case hw => w_witness2
  case hc =>
    refine LamX.walk_ofTsE (l := PySem.Challenge.rw_wayorring_k67_drawn_cases) (n := 63) (k := 12) (x := "script") (CX := fun _ => L2.CX0) rfl (by decide) (by kernel_rfl) ⟨rfl, by decide, by decide⟩ ?F (fun _ _ _ _ _ z => z)
    intro w mg fa h Y G hmg0
    obtain ⟨K, KX, Y⟩ := Y
    have hmg : mg ("law" : PySem.Str) = some (.ref fa) := by
      have e : (HandSHeadRun.topDef (OpenLaw.row PySem.Challenge.rw_wayorring_k67_drawn_cases).prog 24).name = ("law" : PySem.Str) := by kernel_rfl
      rw [← e]
      exact hmg0
    have T := DD.told KX G Y.t.d
    have e := hmg.symm.trans T.g_law
    cases e
    obtain ⟨fl, Fl⟩ := T.t_law
    exact ⟨K, KX, DD.lawAt Y KX (fun s u => L2.FunD.bindsA (ps := ["script"]) Fl (fun _ _ _ _ _ _ us hl => match us, hl with | [_], _ => rfl) s [u] rfl)
      fun base hK hN hT => DD.all67 (W := ⟨(PySem.Challenge.rw_wayorring_k67_drawn_cases).prog, w, K, mg, base⟩) T (hT ("Drawer", some "__init__") (by decide)) Fl⟩
