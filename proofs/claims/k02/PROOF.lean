import PyProof.Rows.All
import Wide.All
import OpenK.AllK
import Wide.FinOn
import HandS.ForExc
import HandS.Comp
import HandS.Iter
import HandS.Text
import HandS.CallSlots
import HandS.Wide
import HandS.Lambda
import HandS.Flow
import HandS.TupAny
import HandS.Walk
import HandS.Zip
import HandS.Conv
import HandS.Replace
import HandS.StrMore
import HandS.AnyAll
import HandS.EndOwn
import KE.IntTextLaws
import KE.IntTextText
import KE.KIntText
import PySem.Challenge.RW_cellstack_k02_spots_and_ranges
set_option Elab.async false
set_option linter.all false
set_option maxRecDepth 100000
set_option maxHeartbeats 4000000
/-! GA: the data layer's core. Tuples are values; lists, dicts, instances stand in a store by their addresses. -/
namespace G
open PySem PySem.Spec PyProof.Rows L2

/-- data: tuples by value; rol: a list that is only read -/
inductive D where
  | non | bl (b : Bool) | int (i : Int) | str (x : Str) | tup (xs : List D) | rol (xs : List D) | ref (a : Addr)

/-- a list that is only read: known, or of the written part -/
def RoL (K : PySem.W.Frag) (H : Hp) (a : Addr) (xs : List V) : Prop :=
  (∃ o, H a = some (.frz o (.lst xs))) ∨
    ∃ (o : Obj) (its : Array Value) (n : Nat), K.lookup a = some o ∧ o.cls = .type "list" ∧ o.dict = none ∧ o.data = .seq its n ∧ its.size ≤ sizeLine ∧ Vals xs its.toList
theorem RoL.sq {K : PySem.W.Frag} {H : Hp} {a : Addr} {xs : List V} (h : RoL K H a xs) : SqL K H a xs := by
  rcases h with h | h
  · exact .inl (.inr h)
  · exact .inr h

mutual
def DV (K : PySem.W.Frag) (H : Hp) : D → V → Prop
  | .non, v => v = .non
  | .bl b, v => v = .bl b
  | .int i, v => v = .int i
  | .str x, v => v = .str x
  | .ref a, v => v = .ref a
  | .tup ds, v => ∃ p vs, v = .ref p ∧ SqT K H p vs ∧ DVs K H ds vs
  | .rol ds, v => ∃ p vs, v = .ref p ∧ RoL K H p vs ∧ DVs K H ds vs
def DVs (K : PySem.W.Frag) (H : Hp) : List D → List V → Prop
  | [], vs => vs = []
  | d :: ds, vs => ∃ v r, vs = v :: r ∧ DV K H d v ∧ DVs K H ds r
end

/-- how the abstract heap goes on: tuples and what is known stay, nothing is lost -/
structure Evo (H H' : Hp) : Prop where
  tup : ∀ a xs, H a = some (.tup xs) → H' a = some (.tup xs)
  frz : ∀ a o u, H a = some (.frz o u) → H' a = some (.frz o u)
  dom : ∀ a, H a ≠ none → H' a ≠ none
  ext : ∀ a φ, H a = some (.ext φ) → H' a = some (.ext φ)
theorem Evo.refl (H : Hp) : Evo H H := ⟨fun _ _ h => h, fun _ _ _ h => h, fun _ h => h, fun _ _ h => h⟩
theorem Evo.trans {H H1 H2 : Hp} (a : Evo H H1) (b : Evo H1 H2) : Evo H H2 := ⟨fun x xs h => b.tup x xs (a.tup x xs h), fun x o u h => b.frz x o u (a.frz x o u h), fun x h => b.dom x (a.dom x h), fun x o h => b.ext x o (a.ext x o h)⟩
theorem upd_dom {H : Hp} {p a : Addr} {o : HO} (h : H a ≠ none) : upd H p o a ≠ none := by
  by_cases e : a = p
  · rw [e, upd_same]; exact fun z => nomatch z
  · rw [upd_ne e]; exact h
theorem Evo.new {H : Hp} {p : Addr} {o : HO} (h : H p = none) : Evo H (upd H p o) :=
  ⟨fun a xs e => by rw [upd_ne (ne_of_none e h)]; exact e, fun a ob u e => by rw [upd_ne (ne_of_none e h)]; exact e, fun _ => upd_dom, fun a ob e => by rw [upd_ne (ne_of_none e h)]; exact e⟩
theorem Evo.put {H : Hp} {p : Addr} {o o' : HO} (h : H p = some o) (h1 : ∀ xs, o ≠ .tup xs) (h2 : ∀ ob u, o ≠ .frz ob u) (h3 : ∀ φ, o ≠ .ext φ) : Evo H (upd H p o') :=
  ⟨fun a xs e => by rw [upd_ne (ne_of e h (fun q => h1 xs q.symm))]; exact e, fun a ob u e => by rw [upd_ne (ne_of e h (fun q => h2 ob u q.symm))]; exact e, fun _ => upd_dom, fun a ob e => by rw [upd_ne (ne_of e h (fun q => h3 ob q.symm))]; exact e⟩
theorem Evo.sqT {K : PySem.W.Frag} {H H' : Hp} {a : Addr} {xs : List V} (e : Evo H H') (h : SqT K H a xs) : SqT K H' a xs := by
  rcases h with (h | ⟨o, h⟩) | h
  · exact .inl (.inl (e.tup _ _ h))
  · exact .inl (.inr ⟨o, e.frz _ _ _ h⟩)
  · exact .inr h
theorem Evo.roL {K : PySem.W.Frag} {H H' : Hp} {a : Addr} {xs : List V} (e : Evo H H') (h : RoL K H a xs) : RoL K H' a xs := by
  rcases h with ⟨o, h⟩ | h
  · exact .inl ⟨o, e.frz _ _ _ h⟩
  · exact .inr h
mutual
theorem DV.mono {K : PySem.W.Frag} {H H' : Hp} (e : Evo H H') : ∀ {d : D} {v : V}, DV K H d v → DV K H' d v
  | .non, _, h => by simpa only [DV] using h
  | .bl _, _, h => by simpa only [DV] using h
  | .int _, _, h => by simpa only [DV] using h
  | .str _, _, h => by simpa only [DV] using h
  | .ref _, _, h => by simpa only [DV] using h
  | .tup ds, _, h => by
    simp only [DV] at h ⊢
    obtain ⟨p, vs, h1, h2, h3⟩ := h
    exact ⟨p, vs, h1, e.sqT h2, DVs.mono e h3⟩
  | .rol ds, _, h => by
    simp only [DV] at h ⊢
    obtain ⟨p, vs, h1, h2, h3⟩ := h
    exact ⟨p, vs, h1, e.roL h2, DVs.mono e h3⟩
theorem DVs.mono {K : PySem.W.Frag} {H H' : Hp} (e : Evo H H') : ∀ {ds : List D} {vs : List V}, DVs K H ds vs → DVs K H' ds vs
  | [], _, h => by simpa only [DVs] using h
  | d :: ds, _, h => by
    simp only [DVs] at h ⊢
    obtain ⟨v, r, h1, h2, h3⟩ := h
    exact ⟨v, r, h1, DV.mono e h2, DVs.mono e h3⟩
end
section
variable {K : PySem.W.Frag} {H H' : Hp}
theorem dv_non {v : V} : DV K H .non v ↔ v = .non := by simp only [DV]
theorem dv_bl {b : Bool} {v : V} : DV K H (.bl b) v ↔ v = .bl b := by simp only [DV]
theorem dv_int {i : Int} {v : V} : DV K H (.int i) v ↔ v = .int i := by simp only [DV]
theorem dv_str {x : Str} {v : V} : DV K H (.str x) v ↔ v = .str x := by simp only [DV]
theorem dv_ref {a : Addr} {v : V} : DV K H (.ref a) v ↔ v = .ref a := by simp only [DV]
theorem dv_tup {ds : List D} {v : V} : DV K H (.tup ds) v ↔ ∃ p vs, v = .ref p ∧ SqT K H p vs ∧ DVs K H ds vs := by simp only [DV]
theorem dv_rol {ds : List D} {v : V} : DV K H (.rol ds) v ↔ ∃ p vs, v = .ref p ∧ RoL K H p vs ∧ DVs K H ds vs := by simp only [DV]
theorem dvs_nil {vs : List V} : DVs K H [] vs ↔ vs = [] := by simp only [DVs]
theorem dvs_cons {d : D} {ds : List D} {vs : List V} : DVs K H (d :: ds) vs ↔ ∃ v r, vs = v :: r ∧ DV K H d v ∧ DVs K H ds r := by simp only [DVs]
theorem DVs.cons {d : D} {ds : List D} {v : V} {vs : List V} (h : DV K H d v) (t : DVs K H ds vs) : DVs K H (d :: ds) (v :: vs) := dvs_cons.mpr ⟨v, vs, rfl, h, t⟩
theorem DVs.len : ∀ {ds : List D} {vs : List V}, DVs K H ds vs → ds.length = vs.length
  | [], _, h => by rw [dvs_nil.mp h]; rfl
  | d :: ds, _, h => by
    obtain ⟨v, r, rfl, _, h2⟩ := dvs_cons.mp h
    rw [List.length_cons, List.length_cons, DVs.len h2]
theorem DVs.get : ∀ {ds : List D} {vs : List V} {i : Nat} {d : D}, DVs K H ds vs → ds[i]? = some d → ∃ v, vs[i]? = some v ∧ DV K H d v
  | [], _, i, d, h, e => by simp at e
  | d0 :: ds, _, 0, d, h, e => by
    obtain ⟨v, r, rfl, h1, h2⟩ := dvs_cons.mp h
    simp at e
    subst e
    exact ⟨v, rfl, h1⟩
  | d0 :: ds, _, i + 1, d, h, e => by
    obtain ⟨v, r, rfl, h1, h2⟩ := dvs_cons.mp h
    obtain ⟨w, q1, q2⟩ := DVs.get h2 (by simpa using e)
    exact ⟨w, by simpa using q1, q2⟩
theorem DVs.append : ∀ {ds es : List D} {vs ws : List V}, DVs K H ds vs → DVs K H es ws → DVs K H (ds ++ es) (vs ++ ws)
  | [], _, _, _, h, h' => by rw [dvs_nil.mp h]; exact h'
  | d :: ds, _, _, _, h, h' => by
    obtain ⟨v, r, rfl, h1, h2⟩ := dvs_cons.mp h
    exact DVs.cons h1 (DVs.append h2 h')
theorem DVs.drop : ∀ {ds : List D} {vs : List V} (n : Nat), DVs K H ds vs → DVs K H (ds.drop n) (vs.drop n)
  | _, _, 0, h => h
  | [], _, n + 1, h => by rw [dvs_nil.mp h]; exact dvs_nil.mpr rfl
  | d :: ds, _, n + 1, h => by
    obtain ⟨v, r, rfl, h1, h2⟩ := dvs_cons.mp h
    exact DVs.drop n h2
theorem DVs.take : ∀ {ds : List D} {vs : List V} (n : Nat), DVs K H ds vs → DVs K H (ds.take n) (vs.take n)
  | _, _, 0, h => dvs_nil.mpr rfl
  | [], _, n + 1, h => by rw [dvs_nil.mp h]; exact dvs_nil.mpr rfl
  | d :: ds, _, n + 1, h => by
    obtain ⟨v, r, rfl, h1, h2⟩ := dvs_cons.mp h
    exact DVs.cons h1 (DVs.take n h2)
theorem DVs.set {e : D} {w : V} (q : DV K H e w) : ∀ {ds : List D} {vs : List V} (n : Nat), DVs K H ds vs → DVs K H (ds.set n e) (vs.set n w)
  | [], _, n, h => by rw [dvs_nil.mp h]; exact dvs_nil.mpr rfl
  | d :: ds, _, 0, h => by
    obtain ⟨v, r, rfl, h1, h2⟩ := dvs_cons.mp h
    exact DVs.cons q h2
  | d :: ds, _, n + 1, h => by
    obtain ⟨v, r, rfl, h1, h2⟩ := dvs_cons.mp h
    exact DVs.cons h1 (DVs.set q n h2)
theorem dvs_ints : ∀ (ns : List Int), DVs K H (ns.map D.int) (ns.map V.int)
  | [] => dvs_nil.mpr rfl
  | n :: ns => DVs.cons (dv_int.mpr rfl) (dvs_ints ns)
theorem dvs_intsE : ∀ {ns : List Int} {vs : List V}, DVs K H (ns.map D.int) vs → vs = ns.map V.int
  | [], _, h => dvs_nil.mp h
  | n :: ns, _, h => by
    obtain ⟨v, r, rfl, h1, h2⟩ := dvs_cons.mp h
    rw [dv_int.mp h1, dvs_intsE h2]
    rfl
theorem dvs_strsE : ∀ {ns : List Str} {vs : List V}, DVs K H (ns.map D.str) vs → vs = ns.map V.str
  | [], _, h => dvs_nil.mp h
  | n :: ns, _, h => by
    obtain ⟨v, r, rfl, h1, h2⟩ := dvs_cons.mp h
    rw [dv_str.mp h1, dvs_strsE h2]
    rfl
theorem dvs_strs : ∀ (ns : List Str), DVs K H (ns.map D.str) (ns.map V.str)
  | [] => dvs_nil.mpr rfl
  | n :: ns => DVs.cons (dv_str.mpr rfl) (dvs_strs ns)
end

/-! ### the store -/
/-- what stands at an address: a list, a dict (keys ints and texts), an instance of the c-th class, another thing by what is true of its place -/
inductive O where
  | lst (ds : List D)
  | dct (kvs : List (Key × D))
  | ins (c : Nat) (fs : List (Nat × D))
  | oth (φ : Hp → Addr → Prop)
abbrev DS := Addr → Option O
def put (S : DS) (a : Addr) (o : O) : DS := fun b => if b = a then some o else S b
theorem put_same {S : DS} {a : Addr} {o : O} : put S a o a = some o := by unfold put; rw [if_pos rfl]
theorem put_ne {S : DS} {a b : Addr} {o : O} (h : b ≠ a) : put S a o b = S b := by unfold put; rw [if_neg h]
theorem put_put {S : DS} {a : Addr} {o u : O} : put (put S a o) a u = put S a u := by
  funext b; unfold put; split <;> rfl
theorem put_eta {S : DS} {a : Addr} {o : O} (h : S a = some o) : put S a o = S := by
  funext b; unfold put; split
  · rename_i e; rw [e, h]
  · rfl
theorem ne_of_free {S : DS} {a b : Addr} {o : O} (h : S a = some o) (h' : S b = none) : a ≠ b := by
  intro e; subst e; rw [h] at h'; cases h'
/-- less is known -/
def Sub (S S' : DS) : Prop := ∀ a o, S a = some o → S' a = some o
theorem Sub.refl (S : DS) : Sub S S := fun _ _ h => h
theorem Sub.trans {S S1 S2 : DS} (a : Sub S S1) (b : Sub S1 S2) : Sub S S2 := fun x o h => b x o (a x o h)
theorem Sub.new {S : DS} {p : Addr} {o : O} (h : S p = none) : Sub S (put S p o) := fun a u e => by rw [put_ne (ne_of_free e h)]; exact e
theorem Sub.put {S S' : DS} (s : Sub S S') (p : Addr) (o : O) : Sub (put S p o) (put S' p o) := fun a u e => by
  by_cases h : a = p
  · subst h; rw [put_same] at e ⊢; exact e
  · rw [put_ne h] at e ⊢; exact s a u e
theorem Sub.newR {S S' : DS} (s : Sub S S') {p : Addr} {o : O} (h : S' p = none) : Sub S (G.put S' p o) := s.trans (Sub.new h)

/-- heap and store go on: what stood and was not told is not told, and stays as it was (but for tables of code objects) -/
structure Go (H : Hp) (S : DS) (H' : Hp) (S' : DS) : Prop where
  evo : Evo H H'
  fr : ∀ b, H b ≠ none → S b = none → S' b = none
  un : ∀ b o, H b = some o → S b = none → (∀ ps, o ≠ .tbl ps) → H' b = some o
theorem Go.r {H : Hp} {S : DS} : Go H S H S := ⟨Evo.refl H, fun _ _ h => h, fun _ _ h _ _ => h⟩
theorem Go.trans {H H1 H2 : Hp} {S S1 S2 : DS} (a : Go H S H1 S1) (b : Go H1 S1 H2 S2) : Go H S H2 S2 :=
  ⟨a.evo.trans b.evo, fun x h1 h2 => b.fr x (a.evo.dom x h1) (a.fr x h1 h2), fun x o h1 h2 h3 => b.un x o (a.un x o h1 h2 h3) (a.fr x (by rw [h1]; exact fun z => nomatch z) h2) h3⟩
theorem Go.new {H : Hp} {S : DS} {p : Addr} {o : HO} (h : H p = none) : Go H S (upd H p o) S := ⟨Evo.new h, fun _ _ h => h, fun b u e _ _ => by rw [upd_ne (ne_of_none e h)]; exact e⟩
theorem Go.made {H : Hp} {S : DS} {p : Addr} {o : HO} {u : O} (h : H p = none) : Go H S (upd H p o) (put S p u) := ⟨Evo.new h, fun b h1 h2 => by
  rw [put_ne (fun z => h1 (by rw [z]; exact h))]; exact h2, fun b u e _ _ => by rw [upd_ne (ne_of_none e h)]; exact e⟩
theorem Go.sub {H H' : Hp} {S S' S'' : DS} (a : Go H S H' S') (s : Sub S'' S') : Go H S H' S'' := ⟨a.evo, fun b h1 h2 => by
  have q := a.fr b h1 h2
  cases e : S'' b with
  | none => rfl
  | some o => rw [s b o e] at q; exact q, a.un⟩
theorem Go.wrote {H : Hp} {S : DS} {a : Addr} {o : HO} {u u' : O} (e : Evo H (upd H a o)) (h : S a = some u) : Go H S (upd H a o) (put S a u') := ⟨e, fun b _ h2 => by
  rw [put_ne (fun z => by rw [z, h] at h2; cases h2)]; exact h2, fun b u e h2 _ => by rw [upd_ne (fun z => by rw [z, h] at h2; cases h2)]; exact e⟩

/-- a lambda that captures nothing: its qualified name, its text -/
structure LamR where
  q : Str
  params : Arguments
  body : Expr
  scope : Scope
/-- what is fixed through a law: the tables of code objects, the classes' addresses, the names of fields and methods, the errors' classes -/
structure Zt where
  T : List Addr
  TL : List (Addr × Str)
  lm : Nat → Option LamR
  cm : Nat → Addr
  fn : Nat → Str
  ex : Nat → Value
  inj : ∀ i j, fn i = fn j → i = j

def lk (fs : List (Nat × D)) (i : Nat) : Option D := match fs with
  | [] => none
  | (j, d) :: r => if i = j then some d else lk r i
def FV (K : PySem.W.Frag) (Z : Zt) (H : Hp) (fs : List (Nat × D)) (vs : List (Str × V)) : Prop :=
  vs.length ≤ fs.length ∧ (∀ i d, lk fs i = some d → ∃ v, vs.lookup (Z.fn i) = some v ∧ DV K H d v) ∧ ∀ x : Str, (∀ i d, lk fs i = some d → Z.fn i ≠ x) → vs.lookup x = none
def KDV (K : PySem.W.Frag) (H : Hp) : List (Key × D) → List (Key × V) → Prop
  | [], ws => ws = []
  | (k, d) :: r, ws => ∃ v q, ws = (k, v) :: q ∧ DV K H d v ∧ KDV K H r q
def OV (K : PySem.W.Frag) (Z : Zt) (H : Hp) (a : Addr) : O → Prop
  | .lst ds => ∃ vs, H a = some (.lst vs) ∧ DVs K H ds vs
  | .dct kvs => ∃ ws, H a = some (.dK ws) ∧ KDV K H kvs ws
  | .ins c fs => ∃ dx vs, H a = some (.ins (Z.cm c) dx vs) ∧ FV K Z H fs vs
  | .oth φ => (∃ u, H a = some u ∧ Mut (some u)) ∧ φ H a ∧ ∀ H1 H2 : Hp, φ H1 a → H2 a = H1 a → Evo H1 H2 → φ H2 a
def SR (K : PySem.W.Frag) (Z : Zt) (S : DS) (H : Hp) : Prop := ∀ a o, S a = some o → OV K Z H a o
def TB (Z : Zt) (H : Hp) : Prop := (∀ P ∈ Z.T, ∃ ps : Array Value, H P = some (.tbl ps) ∧ TriplesOk ps.toList) ∧ LamX.Tabs Z.TL H
theorem TB.new {Z : Zt} {H : Hp} {p : Addr} {u : HO} (h : TB Z H) (n : H p = none) : TB Z (upd H p u) := by
  refine ⟨fun P hP => ?_, h.2.ext fun b o e => by rw [upd_ne (ne_of_none e n)]; exact e⟩
  obtain ⟨ps, h1, h2⟩ := h.1 P hP
  exact ⟨ps, by rw [upd_ne (ne_of_none h1 n)]; exact h1, h2⟩
theorem TB.wrote {Z : Zt} {H : Hp} {a : Addr} {u u' : HO} (h : TB Z H) (e : H a = some u) (m : Mut (some u)) (x : ∀ φ, u ≠ .ext φ) : TB Z (upd H a u') := by
  refine ⟨fun P hP => ?_, fun p hp => ?_⟩
  · obtain ⟨ps, h1, h2⟩ := h.1 P hP
    refine ⟨ps, ?_, h2⟩
    rw [upd_ne]
    · exact h1
    · intro z
      rw [z, e] at h1
      cases h1
      exact m
  · obtain ⟨ps, h1, h2, h3⟩ := h.2 p hp
    refine ⟨ps, ?_, h2, fun pos cv hc => ?_⟩
    · rw [upd_ne]
      · exact h1
      · intro z
        rw [z, e] at h1
        cases h1
        exact m
    · obtain ⟨c, e1, e2⟩ := h3 pos cv hc
      refine ⟨c, e1, ?_⟩
      rw [upd_ne]
      · exact e2
      · intro z
        rw [z, e] at e2
        exact x _ (Option.some.inj e2)
/-- store and tables -/
structure ST (K : PySem.W.Frag) (Z : Zt) (S : DS) (H : Hp) : Prop where
  sr : SR K Z S H
  tb : TB Z H
abbrev Env_ := List (Option D)
structure SL (K : PySem.W.Frag) (H : Hp) (r : Env_) (σ : L2.St) : Prop where
  len : r.length = σ.length
  get : ∀ (i : Nat) (d : D), r[i]? = some (some d) → ∃ v, σ[i]? = some (some v) ∧ DV K H d v
theorem SL.mono {K : PySem.W.Frag} {H H' : Hp} {r : Env_} {σ : L2.St} (h : SL K H r σ) (e : Evo H H') : SL K H' r σ :=
  ⟨h.len, fun i d q => let ⟨v, a, b⟩ := h.get i d q; ⟨v, a, b.mono e⟩⟩
theorem SL.set {K : PySem.W.Frag} {H : Hp} {r : Env_} {σ : L2.St} {d : D} {v : V} (h : SL K H r σ) (i : Nat) (q : DV K H d v) : SL K H (r.set i (some d)) (σ.set i (some v)) := by
  refine ⟨by rw [List.length_set, List.length_set]; exact h.len, fun j e hj => ?_⟩
  by_cases hji : j = i
  · subst hji
    have hlt : j < r.length := by
      have := (List.getElem?_eq_some_iff.mp hj).1
      rw [List.length_set] at this
      exact this
    rw [List.getElem?_set_self hlt] at hj
    cases hj
    exact ⟨v, by rw [List.getElem?_set_self (by rw [← h.len]; exact hlt)], q⟩
  · rw [List.getElem?_set_ne (Ne.symm hji)] at hj
    obtain ⟨w, a, b⟩ := h.get j e hj
    exact ⟨w, by rw [List.getElem?_set_ne (Ne.symm hji)]; exact a, b⟩
section
variable {K : PySem.W.Frag} {Z : Zt} {S S' : DS} {H H' : Hp} {a p : Addr}
theorem FV.mono {fs : List (Nat × D)} {vs : List (Str × V)} (e : Evo H H') (h : FV K Z H fs vs) : FV K Z H' fs vs :=
  ⟨h.1, fun i d q => let ⟨v, a, b⟩ := h.2.1 i d q; ⟨v, a, b.mono e⟩, h.2.2⟩
theorem KDV.mono (e : Evo H H') : ∀ {kvs : List (Key × D)} {ws : List (Key × V)}, KDV K H kvs ws → KDV K H' kvs ws
  | [], _, h => h
  | (k, d) :: r, _, h => by
    obtain ⟨v, q, h1, h2, h3⟩ := h
    exact ⟨v, q, h1, h2.mono e, KDV.mono e h3⟩
theorem OV.mono {o : O} (h : OV K Z H a o) (e : Evo H H') (h' : H' a = H a) : OV K Z H' a o := by
  cases o with
  | lst ds => obtain ⟨vs, h1, h2⟩ := h; exact ⟨vs, h'.trans h1, h2.mono e⟩
  | dct kvs => obtain ⟨ws, h1, h2⟩ := h; exact ⟨ws, h'.trans h1, h2.mono e⟩
  | ins c fs => obtain ⟨dx, vs, h1, h2⟩ := h; exact ⟨dx, vs, h'.trans h1, h2.mono e⟩
  | oth φ => obtain ⟨⟨u, h1, h1'⟩, h2, h3⟩ := h; exact ⟨⟨u, h'.trans h1, h1'⟩, h3 H H' h2 h' e, h3⟩
theorem OV.mut {o : O} (h : OV K Z H a o) : ∃ u, H a = some u ∧ Mut (some u) := by
  cases o with
  | lst ds => obtain ⟨vs, h1, h2⟩ := h; exact ⟨_, h1, trivial⟩
  | dct kvs => obtain ⟨ws, h1, h2⟩ := h; exact ⟨_, h1, trivial⟩
  | ins c fs => obtain ⟨dx, vs, h1, h2⟩ := h; exact ⟨_, h1, trivial⟩
  | oth φ => exact h.1
theorem SR.free (h : SR K Z S H) (n : H p = none) : S p = none := by
  cases e : S p with
  | none => rfl
  | some o =>
    obtain ⟨u, q, _⟩ := (h p o e).mut
    rw [n] at q
    cases q
theorem ST.free (h : ST K Z S H) (n : H p = none) : S p = none := h.sr.free n
theorem ST.sub (h : ST K Z S H) (s : Sub S' S) : ST K Z S' H := ⟨fun a o e => h.sr a o (s a o e), h.tb⟩
/-- a new object that isn't told in the store -/
theorem ST.new {u : HO} (h : ST K Z S H) (n : H p = none) : ST K Z S (upd H p u) := by
  refine ⟨fun a o e => ?_, h.tb.new n⟩
  have q := h.sr a o e
  obtain ⟨z, hz, _⟩ := q.mut
  exact q.mono (Evo.new n) (upd_ne (ne_of_none hz n))
/-- a new object that is told -/
theorem ST.made {u : HO} {o : O} (h : ST K Z S H) (n : H p = none) (q : OV K Z (upd H p u) p o) : ST K Z (put S p o) (upd H p u) := by
  have h' := h.new (u := u) n
  refine ⟨fun a o' e => ?_, h'.tb⟩
  by_cases ha : a = p
  · subst ha
    rw [put_same] at e
    cases e
    exact q
  · rw [put_ne ha] at e
    exact h'.sr a o' e
theorem mut_evo {u u' : HO} (h : H a = some u) (m : Mut (some u)) (x : ∀ φ, u ≠ .ext φ := by intro _ z; cases z) : Evo H (upd H a u') :=
  Evo.put h (fun xs z => by rw [z] at m; exact m) (fun ob w z => by rw [z] at m; exact m) x
/-- an object that is told is changed -/
theorem ST.wrote {u u' : HO} {o' : O} (h : ST K Z S H) (e : H a = some u) (m : Mut (some u)) (q : OV K Z (upd H a u') a o') (x : ∀ φ, u ≠ .ext φ := by intro _ z; cases z) : ST K Z (put S a o') (upd H a u') := by
  refine ⟨fun b ob eb => ?_, h.tb.wrote e m x⟩
  by_cases hb : b = a
  · subst hb
    rw [put_same] at eb
    cases eb
    exact q
  · rw [put_ne hb] at eb
    exact (h.sr b ob eb).mono (mut_evo e m x) (upd_ne hb)
end

/-- slots, store, tables -/
structure Rel (K : PySem.W.Frag) (Z : Zt) (r : Env_) (S : DS) (σ : L2.St) (H : Hp) : Prop where
  sl : SL K H r σ
  st : ST K Z S H

/-! ### readings over data -/
abbrev XD := Nat → DS → Prop
abbrev QD := D → DS → Prop
/-- an expression's reading: slots, store, what follows, what is wanted of an error (by its class's number) -/
abbrev TD := Env_ → DS → QD → XD → Prop
abbrev TDT := Env_ → DS → (Bool → DS → Prop) → XD → Prop
abbrev TDA := Env_ → DS → (List D → DS → Prop) → XD → Prop
section
variable (K : PySem.W.Frag) (Z : Zt) (W : WX)
def lift (t : TD) : TE := fun σ H Q => ∃ r S Q0 E0, Rel K Z r S σ H ∧ t r S Q0 E0 ∧
  (∀ d S' v H', Go H S H' S' → ST K Z S' H' → DV K H' d v → Q0 d S' → Q v H') ∧ ∀ c S' dd H', Go H S H' S' → ST K Z S' H' → E0 c S' → W (Z.ex c) dd σ H'
def liftT (t : TDT) : TT := fun σ H Q => ∃ r S Q0 E0, Rel K Z r S σ H ∧ t r S Q0 E0 ∧
  (∀ b S' H', Go H S H' S' → ST K Z S' H' → Q0 b S' → Q b H') ∧ ∀ c S' dd H', Go H S H' S' → ST K Z S' H' → E0 c S' → W (Z.ex c) dd σ H'
def liftA (t : TDA) : TA := fun σ H Q => ∃ r S Q0 E0, Rel K Z r S σ H ∧ t r S Q0 E0 ∧
  (∀ ds S' vs H', Go H S H' S' → ST K Z S' H' → DVs K H' ds vs → Q0 ds S' → Q vs H') ∧ ∀ c S' dd H', Go H S H' S' → ST K Z S' H' → E0 c S' → W (Z.ex c) dd σ H'
end
/-- PE by data, whatever is wished of errors -/
def PD (X : Cx) (Z : Zt) (e : Expr) (t : TD) : Prop := ∀ W, Takes X W → PE X e (lift X.K Z W t)
def PDT (X : Cx) (Z : Zt) (e : Expr) (t : TDT) : Prop := ∀ W, Takes X W → PT X e (liftT X.K Z W t)
def PDW (X : Cx) (Z : Zt) (e : Expr) (t : TDT) : Prop := ∀ W, Takes X W → PW X e (liftT X.K Z W t)
def PDA (X : Cx) (Z : Zt) (es : List Expr) (t : TDA) : Prop := ∀ W, Takes X W → PA X es (liftA X.K Z W t)

section
variable {X : Cx} {Z : Zt}
theorem PE.imp {e : Expr} {t t' : TE} (h : PE X e t) (i : ∀ σ H Q, t' σ H Q → t σ H Q) : PE X e t' := ⟨fun pins s σ H Q I q => h.run pins s σ H Q I (i σ H Q q)⟩
theorem PT.imp {e : Expr} {t t' : TT} (h : PT X e t) (i : ∀ σ H Q, t' σ H Q → t σ H Q) : PT X e t' := ⟨fun pins s σ H Q I q => h.run pins s σ H Q I (i σ H Q q)⟩
theorem PW.imp {e : Expr} {t t' : TT} (h : PW X e t) (i : ∀ σ H Q, t' σ H Q → t σ H Q) : PW X e t' := ⟨fun wh pins s σ H Q I q => h.run wh pins s σ H Q I (i σ H Q q)⟩
theorem PA.imp {es : List Expr} {t t' : TA} (h : PA X es t) (i : ∀ σ H Q, t' σ H Q → t σ H Q) : PA X es t' := ⟨fun pos pins s σ H Q I q => h.run pos pins s σ H Q I (i σ H Q q)⟩
theorem PS.imp {st : Stmt} {t t' : TS} (h : PS X st t) (i : ∀ D σ H, t' D σ H → t D σ H) : PS X st t' := ⟨fun pins s σ H D I q => h.run pins s σ H D I (i D σ H q)⟩

/-! ### names, constants -/
def dVar (i : Nat) : TD := fun r S Q _ => ∃ d, r[i]? = some (some d) ∧ Q d S
def dC (d : D) : TD := fun _ S Q _ => Q d S
theorem pd_var (i : Nat) {x : Str} {pos : Pos} (hN : X.N[i]? = some x := by rfl) (hv : Vis X.env.scope x := by first | exact Or.inl rfl | exact Or.inr (Or.inl rfl) | exact Or.inr (Or.inr rfl)) (hd : (x == ("__debug__" : Str)) = false := by decide)
    (hcd : (x == ("__classdict__" : Str)) = false := by decide) : PD X Z (.Name x pos) (dVar i) := fun W _ => by
  refine PE.imp (pe_var hN hv hd hcd) fun σ H Q h => ?_
  obtain ⟨r, S, Q0, E0, R, ⟨d, e, q⟩, k, _⟩ := h
  obtain ⟨v, h1, h2⟩ := R.sl.get i d e
  exact ⟨v, h1, k d S v H Go.r R.st h2 q⟩
theorem pd_c {e : Expr} {v : V} {d : D} (h : PE X e (tC v)) (hd : ∀ H, DV X.K H d v) : PD X Z e (dC d) := fun W _ => by
  refine PE.imp h fun σ H Q h => ?_
  obtain ⟨r, S, Q0, E0, R, q, k, _⟩ := h
  exact k d S v H Go.r R.st (hd H) q
theorem pd_int {i j pos} : PD X Z (.Constant (.int i) j pos) (dC (.int i)) := pd_c pe_int fun _ => dv_int.mpr rfl
theorem pd_bl {b j pos} : PD X Z (.Constant (.bool b) j pos) (dC (.bl b)) := pd_c pe_bl fun _ => dv_bl.mpr rfl
theorem pd_non {j pos} : PD X Z (.Constant .none j pos) (dC .non) := pd_c pe_non fun _ => dv_non.mpr rfl
theorem pd_str {x j pos} : PD X Z (.Constant (.str x) j pos) (dC (.str x)) := pd_c pe_str fun _ => dv_str.mpr rfl

/-! ### operators by data -/
abbrev RD2 := D → D → DS → QD → Prop
def liftR (K : PySem.W.Frag) (Z : Zt) (r : RD2) : R2 := fun v w H Q => ∃ x y S Q0, ST K Z S H ∧ DV K H x v ∧ DV K H y w ∧ r x y S Q0 ∧ ∀ d S' v' H', Go H S H' S' → ST K Z S' H' → DV K H' d v' → Q0 d S' → Q v' H'
def OpD (X : Cx) (Z : Zt) (f : Value → Value → Sem Value) (r : RD2) : Prop := OpR X f (liftR X.K Z r)
def dOp (r : RD2) (ta tb : TD) : TD := fun p S Q E => ta p S (fun x S1 => tb p S1 (fun y S2 => r x y S2 Q) E) E
theorem lift_op {K : PySem.W.Frag} {W : WX} {r : RD2} {ta tb : TD} {σ : L2.St} {H : Hp} {Q : VK} (h : lift K Z W (dOp r ta tb) σ H Q) : tOp (liftR K Z r) (lift K Z W ta) (lift K Z W tb) σ H Q := by
  obtain ⟨p, S, Q0, E0, R, q, k, kE⟩ := h
  refine ⟨p, S, _, E0, R, q, fun x S1 v H1 e1 st1 dv1 q1 => ?_, kE⟩
  refine ⟨p, S1, _, E0, ⟨R.sl.mono e1.evo, st1⟩, q1, fun y S2 w H2 e2 st2 dv2 q2 => ?_, fun c S' dd H' e' st' z => kE c S' dd H' (e1.trans e') st' z⟩
  exact ⟨x, y, S2, Q0, st2, dv1.mono e2.evo, dv2, q2, fun d S' v' H' e' st' dv' z => k d S' v' H' ((e1.trans e2).trans e') st' dv' z⟩
theorem pd_op {op : Operator} {r : RD2} {a b : Expr} {ta tb : TD} {pos : Pos} (ho : OpD X Z (binaryOp op) r) (ha : PD X Z a ta) (hb : PD X Z b tb) : PD X Z (.BinOp a op b pos) (dOp r ta tb) := fun W tk =>
  PE.imp (pe_op ho (ha W tk) (hb W tk)) fun _ _ _ h => lift_op h
theorem pd_cmp {op : CmpOp} {r : RD2} {a b : Expr} {ta tb : TD} {pos : Pos} (ho : OpD X Z (compareOp op) r) (ha : PD X Z a ta) (hb : PD X Z b tb) (hm : behindInMarks op b = false := by first | exact nobehind _ (by decide) (by decide) | rfl) : PD X Z (.Compare a [op] [b] pos) (dOp r ta tb) := fun W tk =>
  PE.imp (pe_cmpR ho (ha W tk) (hb W tk) hm) fun _ _ _ h => lift_op h
end
end G

set_option Elab.async false
set_option linter.all false
set_option maxRecDepth 100000
set_option maxHeartbeats 4000000
/-! GB: operators, comparisons, tests, chains, displays. -/
namespace G
open PySem PySem.Spec PyProof.Rows L2

/-! ### arithmetic by data -/
/-- sizes that a product may have -/
def MulOk (i j : Int) : Prop := CMul i j ∨ CMulW i j
def DivOk (j : Int) : Prop := j ≠ 0 ∧ (j.natAbs < 1073741824 ∨ (0 < j ∧ j.natAbs.log2 < 9000))
def opAdd : RD2 := fun x y S Q => match x, y with
  | .int i, .int j => Q (.int (i + j)) S
  | .str a, .str b => a.length + b.length ≤ sizeLine ∧ Q (.str (a ++ b)) S
  | .tup xs, .tup ys => xs.length + ys.length ≤ sizeLine ∧ Q (.tup (xs ++ ys)) S
  | .ref a, .ref b => ∃ xs ys, S a = some (.lst xs) ∧ S b = some (.lst ys) ∧ xs.length + ys.length ≤ sizeLine ∧ ∀ p, S p = none → Q (.ref p) (put S p (.lst (xs ++ ys)))
  | _, _ => False
def opSub : RD2 := fun x y S Q => match x, y with
  | .int i, .int j => Q (.int (i - j)) S
  | _, _ => False
def opMul : RD2 := fun x y S Q => match x, y with
  | .int i, .int j => MulOk i j ∧ Q (.int (i * j)) S
  | _, _ => False
def opDiv : RD2 := fun x y S Q => match x, y with
  | .int i, .int j => DivOk j ∧ Q (.int (i.fdiv j)) S
  | _, _ => False
def opMod : RD2 := fun x y S Q => match x, y with
  | .int i, .int j => j ≠ 0 ∧ Q (.int (i.fmod j)) S
  | _, _ => False
def opPow : RD2 := fun x y S Q => match x, y with
  | .int i, .int j => CPow i j ∧ Q (.int (i ^ j.toNat)) S
  | _, _ => False

section
variable {X : Cx} {Z : Zt} {K : PySem.W.Frag} {H : Hp} {S : DS}
theorem sr_lst {a : Addr} {ds : List D} (h : ST K Z S H) (e : S a = some (.lst ds)) : ∃ vs, H a = some (.lst vs) ∧ DVs K H ds vs := h.sr a _ e
theorem DVs.nil_iff {ds : List D} {vs : List V} (h : DVs K H ds vs) : vs = [] ↔ ds = [] := by
  have e := h.len
  constructor
  · intro z; rw [z] at e; exact List.length_eq_zero_iff.mp e
  · intro z; rw [z] at e; exact List.length_eq_zero_iff.mp e.symm
theorem od_add : OpD X Z (binaryOp .Add) opAdd := by
  intro pins s σ H v w u u' Q I rx ry h
  obtain ⟨x, y, S, Q0, st, hx, hy, h, k⟩ := h
  cases x with
  | int i =>
    cases y with
    | int j =>
      rw [dv_int.mp hx] at rx
      rw [dv_int.mp hy] at ry
      exact op_add pins s σ H _ _ _ _ Q I rx ry ⟨i, j, rfl, rfl, k _ S _ H Go.r st (dv_int.mpr rfl) h⟩
    | _ => exact h.elim
  | str a =>
    cases y with
    | str b =>
      obtain ⟨hz, h⟩ : a.length + b.length ≤ sizeLine ∧ Q0 (.str (a ++ b)) S := h
      rw [dv_str.mp hx] at rx
      rw [dv_str.mp hy] at ry
      exact op_add_str pins s σ H _ _ _ _ Q I rx ry ⟨a, b, rfl, rfl, hz, k _ S _ H Go.r st (dv_str.mpr rfl) h⟩
    | _ => exact h.elim
  | tup xs =>
    cases y with
    | tup ys =>
      obtain ⟨hz, h⟩ : xs.length + ys.length ≤ sizeLine ∧ Q0 (.tup (xs ++ ys)) S := h
      obtain ⟨p, vs, e1, h1, d1⟩ := dv_tup.mp hx
      obtain ⟨q, ws, e2, h2, d2⟩ := dv_tup.mp hy
      rw [e1] at rx
      rw [e2] at ry
      refine op_catA pins s σ H _ _ _ _ Q I rx ry ⟨p, q, vs, ws, rfl, rfl, h1, h2, by rw [← d1.len, ← d2.len]; exact hz, fun z => ?_, fun _ z => ?_, fun _ _ l hl => ?_⟩
      · have z' := d1.nil_iff.mp z
        subst z'
        exact k _ S _ H Go.r st (dv_tup.mpr ⟨q, ws, rfl, h2, d2⟩) h
      · have z' := d2.nil_iff.mp z
        subst z'
        rw [List.append_nil] at h
        exact k _ S _ H Go.r st (dv_tup.mpr ⟨p, vs, rfl, h1, d1⟩) h
      · exact k _ S _ _ (Go.new hl) (st.new hl) (dv_tup.mpr ⟨l, vs ++ ws, rfl, .inl (.inl upd_same), (d1.append d2).mono (Evo.new hl)⟩) h
    | _ => exact h.elim
  | ref a =>
    cases y with
    | ref b =>
      obtain ⟨xs, ys, s1, s2, hz, h⟩ : ∃ xs ys, S a = some (.lst xs) ∧ S b = some (.lst ys) ∧ xs.length + ys.length ≤ sizeLine ∧ ∀ p, S p = none → Q0 (.ref p) (put S p (.lst (xs ++ ys))) := h
      rw [dv_ref.mp hx] at rx
      rw [dv_ref.mp hy] at ry
      obtain ⟨vs, h1, d1⟩ := sr_lst st s1
      obtain ⟨ws, h2, d2⟩ := sr_lst st s2
      refine op_cat pins s σ H _ _ _ _ Q I rx ry ⟨a, b, vs, ws, rfl, rfl, h1, h2, by rw [← d1.len, ← d2.len]; exact hz, fun p hp => ?_⟩
      exact k _ _ _ _ (Go.made hp) (st.made (o := .lst (xs ++ ys)) hp ⟨_, upd_same, (d1.append d2).mono (Evo.new hp)⟩) (dv_ref.mpr rfl) (h p (st.free hp))
    | _ => exact h.elim
  | _ => cases y <;> exact h.elim
theorem opII {f : Value → Value → Sem Value} {r2 : R2} {r : RD2} (o : OpR X f r2) (h1 : ∀ x y S Q, r x y S Q → ∃ i j, x = .int i ∧ y = .int j)
    (h2 : ∀ i j S (Q0 : QD) H (Q : VK), r (.int i) (.int j) S Q0 → (∀ d, Q0 d S → ∀ v, (∀ K' H', DV K' H' d v) → Q v H) → r2 (.int i) (.int j) H Q) : OpD X Z f r := by
  intro pins s σ H v w u u' Q I rx ry h
  obtain ⟨x, y, S, Q0, st, hx, hy, h, k⟩ := h
  obtain ⟨i, j, rfl, rfl⟩ := h1 x y S Q0 h
  rw [dv_int.mp hx] at rx
  rw [dv_int.mp hy] at ry
  exact o pins s σ H _ _ _ _ Q I rx ry (h2 i j S Q0 H Q h fun d q v hv => k d S v H Go.r st (hv _ _) q)
theorem od_sub : OpD X Z (binaryOp .Sub) opSub := opII op_sub (fun x y S Q h => by cases x <;> cases y <;> first | exact ⟨_, _, rfl, rfl⟩ | exact h.elim)
  fun i j S Q0 H Q h k => ⟨i, j, rfl, rfl, k _ h _ fun _ _ => dv_int.mpr rfl⟩
theorem od_mul : OpD X Z (binaryOp .Mult) opMul := opII (op_mul.or op_mulW) (fun x y S Q h => by cases x <;> cases y <;> first | exact ⟨_, _, rfl, rfl⟩ | exact h.elim)
  fun i j S Q0 H Q h k => h.1.elim (fun c => .inl ⟨i, j, rfl, rfl, c, k _ h.2 _ fun _ _ => dv_int.mpr rfl⟩) fun c => .inr ⟨i, j, rfl, rfl, c, k _ h.2 _ fun _ _ => dv_int.mpr rfl⟩
theorem od_div : OpD X Z (binaryOp .FloorDiv) opDiv := opII (op_fdivN.or op_fdivW) (fun x y S Q h => by cases x <;> cases y <;> first | exact ⟨_, _, rfl, rfl⟩ | exact h.elim)
  fun i j S Q0 H Q h k => h.1.2.elim (fun c => .inl ⟨i, j, rfl, rfl, ⟨h.1.1, c⟩, k _ h.2 _ fun _ _ => dv_int.mpr rfl⟩) fun c => .inr ⟨i, j, rfl, rfl, c, by
    have e : i.fdiv j = i / j := Int.fdiv_eq_ediv_of_nonneg i (by omega)
    show Q (.int (i / j)) H
    rw [← e]
    exact k _ h.2 _ fun _ _ => dv_int.mpr rfl⟩
theorem od_mod : OpD X Z (binaryOp .Mod) opMod := opII op_modN (fun x y S Q h => by cases x <;> cases y <;> first | exact ⟨_, _, rfl, rfl⟩ | exact h.elim)
  fun i j S Q0 H Q h k => ⟨i, j, rfl, rfl, h.1, k _ h.2 _ fun _ _ => dv_int.mpr rfl⟩
theorem od_pow : OpD X Z (binaryOp .Pow) opPow := opII op_pow (fun x y S Q h => by cases x <;> cases y <;> first | exact ⟨_, _, rfl, rfl⟩ | exact h.elim)
  fun i j S Q0 H Q h k => ⟨i, j, rfl, rfl, h.1, k _ h.2 _ fun _ _ => dv_int.mpr rfl⟩
end

/-! ### equality by data -/
mutual
def deq : D → D → Bool
  | .non, .non => true
  | .bl a, .bl b => a == b
  | .bl a, .int j => (if a then 1 else 0) == j
  | .int i, .bl b => i == (if b then 1 else 0)
  | .int i, .int j => i == j
  | .str x, .str y => x == y
  | .tup xs, .tup ys => deqs xs ys
  | _, _ => false
def deqs : List D → List D → Bool
  | [], [] => true
  | x :: xs, y :: ys => deq x y && deqs xs ys
  | _, _ => false
end
mutual
/-- data that may be compared: no addresses, texts of signs, not too deep -/
def okD : Nat → D → Bool
  | _, .non => true
  | _, .bl _ => true
  | _, .int _ => true
  | _, .str x => PyData.strOk x
  | n + 1, .tup xs => okDs n xs
  | _, _ => false
def okDs : Nat → List D → Bool
  | _, [] => true
  | n, x :: xs => okD n x && okDs n xs
end
mutual
def toP : D → PyData
  | .non => .none
  | .bl b => .bool b
  | .int i => .int i
  | .str x => .str x
  | .tup xs => .tuple (toPs xs)
  | .rol xs => .list (toPs xs)
  | .ref _ => .none
def toPs : List D → List PyData
  | [] => []
  | x :: xs => toP x :: toPs xs
end

mutual
theorem deq_toP : ∀ (x y : D) (n m : Nat), okD n x = true → okD m y = true → PyData.eqv (toP x) (toP y) = deq x y
  | .non, y, n, m, h, h' => by cases y <;> simp_all [okD, toP, deq, PyData.eqv]
  | .bl a, y, n, m, h, h' => by cases y <;> simp_all [okD, toP, deq, PyData.eqv]
  | .int a, y, n, m, h, h' => by cases y <;> simp_all [okD, toP, deq, PyData.eqv]
  | .str a, y, n, m, h, h' => by cases y <;> simp_all [okD, toP, deq, PyData.eqv]
  | .rol xs, y, n, m, h, h' => by cases n <;> simp [okD] at h
  | .ref a, y, n, m, h, h' => by cases n <;> simp [okD] at h
  | .tup xs, y, n, m, h, h' => by
    cases n with
    | zero => simp [okD] at h
    | succ n =>
      cases y with
      | tup ys =>
        cases m with
        | zero => simp [okD] at h'
        | succ m =>
          simp only [okD] at h h'
          simp only [toP, deq, PyData.eqv]
          exact deqs_toP xs ys n m h h'
      | rol ys => cases m <;> simp [okD] at h'
      | ref a => cases m <;> simp [okD] at h'
      | _ => simp [toP, deq, PyData.eqv]
theorem deqs_toP : ∀ (xs ys : List D) (n m : Nat), okDs n xs = true → okDs m ys = true → PyData.eqvAll (toPs xs) (toPs ys) = deqs xs ys
  | [], [], _, _, _, _ => by simp [toPs, deqs, PyData.eqvAll]
  | [], y :: ys, _, _, _, _ => by simp [toPs, deqs, PyData.eqvAll]
  | x :: xs, [], _, _, _, _ => by simp [toPs, deqs, PyData.eqvAll]
  | x :: xs, y :: ys, n, m, h, h' => by
    simp only [okDs, Bool.and_eq_true] at h h'
    simp only [toPs, deqs, PyData.eqvAll]
    rw [deq_toP x y n m h.1 h'.1, deqs_toP xs ys n m h.2 h'.2]
end
mutual
theorem okD_can : ∀ (x : D) (n : Nat), okD n x = true → (toP x).canLay0 = true ∧ (toP x).depth ≤ n
  | .non, n, h => by simp [toP, PyData.canLay0, PyData.depth]
  | .bl a, n, h => by simp [toP, PyData.canLay0, PyData.depth]
  | .int a, n, h => by simp [toP, PyData.canLay0, PyData.depth]
  | .str a, n, h => by
    have h' : PyData.strOk a = true := by cases n <;> simpa [okD] using h
    simp [toP, PyData.canLay0, PyData.depth, h']
  | .rol xs, n, h => by cases n <;> simp [okD] at h
  | .ref a, n, h => by cases n <;> simp [okD] at h
  | .tup xs, n, h => by
    cases n with
    | zero => simp [okD] at h
    | succ n =>
      simp only [okD] at h
      obtain ⟨h1, h2⟩ := okDs_can xs n h
      simp only [toP, PyData.canLay0, PyData.depth]
      exact ⟨h1, by omega⟩
theorem okDs_can : ∀ (xs : List D) (n : Nat), okDs n xs = true → PyData.canLayAll0 (toPs xs) = true ∧ PyData.depthAll (toPs xs) ≤ n
  | [], n, _ => by simp [toPs, PyData.canLayAll0, PyData.depthAll]
  | x :: xs, n, h => by
    simp only [okDs, Bool.and_eq_true] at h
    obtain ⟨h1, h2⟩ := okD_can x n h.1
    obtain ⟨h3, h4⟩ := okDs_can xs n h.2
    simp only [toPs, PyData.canLayAll0, PyData.depthAll, h1, h3, Bool.and_self, true_and]
    omega
end
mutual
theorem dv_dp {K : PySem.W.Frag} {H : Hp} : ∀ (x : D) (v : V) (n : Nat), okD n x = true → DV K H x v → Dp K H v (toP x)
  | .non, v, n, _, h => by rw [dv_non.mp h]; exact .non
  | .bl b, v, n, _, h => by rw [dv_bl.mp h]; exact .bl b
  | .int i, v, n, _, h => by rw [dv_int.mp h]; exact .int i
  | .str s, v, n, _, h => by rw [dv_str.mp h]; exact .str s
  | .rol xs, v, n, h, _ => by cases n <;> simp [okD] at h
  | .ref a, v, n, h, _ => by cases n <;> simp [okD] at h
  | .tup xs, v, n, h, d => by
    cases n with
    | zero => simp [okD] at h
    | succ n =>
      simp only [okD] at h
      obtain ⟨p, vs, rfl, h1, h2⟩ := dv_tup.mp d
      exact .tup h1 (dvs_dp xs vs n h h2)
theorem dvs_dp {K : PySem.W.Frag} {H : Hp} : ∀ (xs : List D) (vs : List V) (n : Nat), okDs n xs = true → DVs K H xs vs → DpAll K H vs (toPs xs)
  | [], vs, n, _, h => by rw [dvs_nil.mp h]; exact .nil
  | x :: xs, vs, n, h, d => by
    simp only [okDs, Bool.and_eq_true] at h
    obtain ⟨v, r, rfl, h1, h2⟩ := dvs_cons.mp d
    exact .cons (dv_dp x v n h.1 h1) (dvs_dp xs r n h.2 h2)
end
/-- == : scalars, data, lists of data -/
def opEq : RD2 := fun x y S Q => match x, y with
  | .int i, .int j => Q (.bl (decide (i = j))) S
  | .str a, .str b => Q (.bl (decide (a = b))) S
  | .bl a, .bl b => Q (.bl (decide (a = b))) S
  | .ref a, .ref b => ∃ xs ys, S a = some (.lst xs) ∧ S b = some (.lst ys) ∧ okDs 60 xs = true ∧ okDs 60 ys = true ∧ Q (.bl (deqs xs ys)) S
  | x, y => okD 60 x = true ∧ okD 60 y = true ∧ Q (.bl (deq x y)) S
def opNe : RD2 := fun x y S Q => opEq x y S fun d S' => match d with
  | .bl b => Q (.bl (!b)) S'
  | _ => False
section
variable {X : Cx} {Z : Zt}
theorem shaped_of {x : D} (h : okD 60 x = true) : SeqAt.shaped (toP x) = true := by
  obtain ⟨h1, h2⟩ := okD_can x 60 h
  unfold SeqAt.shaped
  rw [h1, decide_eq_true (by omega : (toP x).depth ≤ 64)]
  rfl
theorem shapedL_of {xs : List D} (h : okDs 60 xs = true) : SeqAt.shaped (.list (toPs xs)) = true := by
  obtain ⟨h1, h2⟩ := okDs_can xs 60 h
  unfold SeqAt.shaped
  have e1 : (PyData.list (toPs xs)).canLay0 = true := by simpa [PyData.canLay0] using h1
  have e2 : (PyData.list (toPs xs)).depth ≤ 64 := by simp only [PyData.depth]; omega
  rw [e1, decide_eq_true e2]
  rfl
/-- any equality that holds of data -/
theorem eq_any {K : PySem.W.Frag} {H : Hp} {S : DS} {x y : D} {v w : V} {Q0 : QD} (st : ST K Z S H) (hx : DV K H x v) (hy : DV K H y w) (h : opEq x y S Q0) :
    ∃ b, Q0 (.bl b) S ∧ ((scal v w = true ∧ decide (v = w) = b) ∨ ∃ d e, Dp K H v d ∧ Dp K H w e ∧ SeqAt.shaped d = true ∧ SeqAt.shaped e = true ∧ PyData.eqv d e = b) := by
  have gen : ∀ {x y : D}, DV K H x v → DV K H y w → okD 60 x = true ∧ okD 60 y = true ∧ Q0 (.bl (deq x y)) S → ∃ b, Q0 (.bl b) S ∧ ((scal v w = true ∧ decide (v = w) = b) ∨ ∃ d e, Dp K H v d ∧ Dp K H w e ∧ SeqAt.shaped d = true ∧ SeqAt.shaped e = true ∧ PyData.eqv d e = b) :=
    fun {x y} hx hy ⟨h1, h2, q⟩ => ⟨_, q, .inr ⟨_, _, dv_dp _ _ 60 h1 hx, dv_dp _ _ 60 h2 hy, shaped_of h1, shaped_of h2, deq_toP _ _ 60 60 h1 h2⟩⟩
  unfold opEq at h
  split at h
  · rename_i i j
    rw [dv_int.mp hx, dv_int.mp hy]
    exact ⟨_, h, .inl ⟨rfl, by simp⟩⟩
  · rename_i i j
    rw [dv_str.mp hx, dv_str.mp hy]
    exact ⟨_, h, .inl ⟨rfl, by simp⟩⟩
  · rename_i i j
    rw [dv_bl.mp hx, dv_bl.mp hy]
    exact ⟨_, h, .inl ⟨rfl, by simp⟩⟩
  · rename_i a b
    obtain ⟨xs, ys, s1, s2, k1, k2, q⟩ := h
    obtain ⟨vs, h1, d1⟩ := sr_lst st s1
    obtain ⟨ws, h2, d2⟩ := sr_lst st s2
    rw [dv_ref.mp hx, dv_ref.mp hy]
    refine ⟨_, q, .inr ⟨_, _, .lst (SqL.of h1) (dvs_dp _ _ 60 k1 d1), .lst (SqL.of h2) (dvs_dp _ _ 60 k2 d2), shapedL_of k1, shapedL_of k2, ?_⟩⟩
    simp only [PyData.eqv]
    exact deqs_toP _ _ 60 60 k1 k2
  · exact gen hx hy h
theorem od_eq (hu : X.A.units + 64 < cLine) : OpD X Z (compareOp .Eq) opEq := by
  intro pins s σ H v w u u' Q I rx ry h
  obtain ⟨x, y, S, Q0, st, hx, hy, h, k⟩ := h
  obtain ⟨b, q, hs | ⟨d, e, h1, h2, h3, h4, h5⟩⟩ := eq_any st hx hy h
  · exact op_eq pins s σ H v w u u' Q I rx ry ⟨hs.1, by rw [hs.2]; exact k _ S _ H Go.r st (dv_bl.mpr rfl) q⟩
  · exact op_eqD hu pins s σ H v w u u' Q I rx ry ⟨d, e, h1, h2, h3, h4, by rw [h5]; exact k _ S _ H Go.r st (dv_bl.mpr rfl) q⟩
theorem od_ne (hu : X.A.units + 64 < cLine) : OpD X Z (compareOp .NotEq) opNe := by
  intro pins s σ H v w u u' Q I rx ry h
  obtain ⟨x, y, S, Q0, st, hx, hy, h, k⟩ := h
  obtain ⟨b, q, hs | ⟨d, e, h1, h2, h3, h4, h5⟩⟩ := eq_any st hx hy h
  · exact op_ne pins s σ H v w u u' Q I rx ry ⟨hs.1, by rw [hs.2]; exact k _ S _ H Go.r st (dv_bl.mpr rfl) q⟩
  · exact op_neD hu pins s σ H v w u u' Q I rx ry ⟨d, e, h1, h2, h3, h4, by rw [h5]; exact k _ S _ H Go.r st (dv_bl.mpr rfl) q⟩
end

/-! ### order by data -/
def opLt : RD2 := fun x y S Q => match x, y with
  | .int i, .int j => Q (.bl (decide (i < j))) S
  | .str a, .str b => Q (.bl (decide (a.cps.toList < b.cps.toList))) S
  | _, _ => False
def opLe : RD2 := fun x y S Q => match x, y with
  | .int i, .int j => Q (.bl (decide (i ≤ j))) S
  | _, _ => False
def opGt : RD2 := fun x y S Q => match x, y with
  | .int i, .int j => Q (.bl (decide (j < i))) S
  | _, _ => False
def opGe : RD2 := fun x y S Q => match x, y with
  | .int i, .int j => Q (.bl (decide (j ≤ i))) S
  | _, _ => False
def isN : D → Bool
  | .non => true
  | _ => false
def opIsN : RD2 := fun x y S Q => match y with
  | .non => Q (.bl (isN x)) S
  | _ => False
def opNotN : RD2 := fun x y S Q => match y with
  | .non => Q (.bl (!isN x)) S
  | _ => False
section
variable {X : Cx} {Z : Zt}
theorem od_lt : OpD X Z (compareOp .Lt) opLt := by
  intro pins s σ H v w u u' Q I rx ry h
  obtain ⟨x, y, S, Q0, st, hx, hy, h, k⟩ := h
  cases x with
  | int i =>
    cases y with
    | int j =>
      rw [dv_int.mp hx] at rx
      rw [dv_int.mp hy] at ry
      exact op_lt pins s σ H _ _ _ _ Q I rx ry ⟨i, j, rfl, rfl, k _ S _ H Go.r st (dv_bl.mpr rfl) h⟩
    | _ => exact h.elim
  | str a =>
    cases y with
    | str b =>
      rw [dv_str.mp hx] at rx
      rw [dv_str.mp hy] at ry
      exact op_lt_str pins s σ H _ _ _ _ Q I rx ry ⟨a, b, rfl, rfl, k _ S _ H Go.r st (dv_bl.mpr rfl) h⟩
    | _ => exact h.elim
  | _ => cases y <;> exact h.elim
theorem od_le : OpD X Z (compareOp .LtE) opLe := opII op_le (fun x y S Q h => by cases x <;> cases y <;> first | exact ⟨_, _, rfl, rfl⟩ | exact h.elim)
  fun i j S Q0 H Q h k => ⟨i, j, rfl, rfl, k _ h _ fun _ _ => dv_bl.mpr rfl⟩
theorem od_gt : OpD X Z (compareOp .Gt) opGt := opII op_gt (fun x y S Q h => by cases x <;> cases y <;> first | exact ⟨_, _, rfl, rfl⟩ | exact h.elim)
  fun i j S Q0 H Q h k => ⟨i, j, rfl, rfl, k _ h _ fun _ _ => dv_bl.mpr rfl⟩
theorem od_ge : OpD X Z (compareOp .GtE) opGe := opII op_ge (fun x y S Q h => by cases x <;> cases y <;> first | exact ⟨_, _, rfl, rfl⟩ | exact h.elim)
  fun i j S Q0 H Q h k => ⟨i, j, rfl, rfl, k _ h _ fun _ _ => dv_bl.mpr rfl⟩
theorem dv_isN {K : PySem.W.Frag} {H : Hp} {x : D} {v : V} (h : DV K H x v) : decide (v = .non) = isN x := by
  cases x with
  | non => rw [dv_non.mp h]; rfl
  | bl b => rw [dv_bl.mp h]; rfl
  | int b => rw [dv_int.mp h]; rfl
  | str b => rw [dv_str.mp h]; rfl
  | ref b => rw [dv_ref.mp h]; rfl
  | tup ds => obtain ⟨p, vs, e, _⟩ := dv_tup.mp h; rw [e]; rfl
  | rol ds => obtain ⟨p, vs, e, _⟩ := dv_rol.mp h; rw [e]; rfl
theorem od_isN : OpD X Z (compareOp .Is) opIsN := by
  intro pins s σ H v w u u' Q I rx ry h
  obtain ⟨x, y, S, Q0, st, hx, hy, h, k⟩ := h
  cases y with
  | non => exact op_isN pins s σ H _ _ _ _ Q I rx ry ⟨dv_non.mp hy, k _ S _ H Go.r st (by rw [dv_isN hx]; exact dv_bl.mpr rfl) h⟩
  | _ => exact h.elim
theorem od_notN : OpD X Z (compareOp .IsNot) opNotN := by
  intro pins s σ H v w u u' Q I rx ry h
  obtain ⟨x, y, S, Q0, st, hx, hy, h, k⟩ := h
  cases y with
  | non =>
    exact op_notN pins s σ H _ _ _ _ Q I rx ry ⟨dv_non.mp hy, k _ S _ H Go.r st (by rw [dv_isN hx]; exact dv_bl.mpr rfl) h⟩
  | _ => exact h.elim
end
end G

set_option Elab.async false
set_option linter.all false
set_option maxRecDepth 100000
set_option maxHeartbeats 4000000
/-! GC: tests, chains, displays, subscripts, slices. -/
namespace G
open PySem PySem.Spec PyProof.Rows L2
section
variable {X : Cx} {Z : Zt} {K : PySem.W.Frag} {W : WX}
/-- what a lifted reading becomes with another end -/
theorem lift_end {t : TD} {σ : L2.St} {H : Hp} {Q : VK} {r : Env_} {S : DS} {Q0 : QD} {E0 : XD} (R : Rel K Z r S σ H) (h : t r S Q0 E0)
    (k : ∀ d S' v H', Go H S H' S' → ST K Z S' H' → DV K H' d v → Q0 d S' → Q v H') (kE : ∀ c S' dd H', Go H S H' S' → ST K Z S' H' → E0 c S' → W (Z.ex c) dd σ H') : lift K Z W t σ H Q := ⟨r, S, Q0, E0, R, h, k, kE⟩
theorem Rel.go {r : Env_} {S S' : DS} {σ : L2.St} {H H' : Hp} (R : Rel K Z r S σ H) (e : Go H S H' S') (s : ST K Z S' H') : Rel K Z r S' σ H' := ⟨R.sl.mono e.evo, s⟩

/-! ### tests -/
def dTest (t : TD) : TDT := fun p S Q E => t p S (fun d S' => match d with | .bl b => Q b S' | _ => False) E
theorem lift_test {t : TD} {σ : L2.St} {H : Hp} {Q : Bool → Hp → Prop} (h : liftT K Z W (dTest t) σ H Q) : lift K Z W t σ H fun x H' => ∃ k, x = .bl k ∧ Q k H' := by
  obtain ⟨p, S, Q0, E0, R, q, k, kE⟩ := h
  refine ⟨p, S, _, E0, R, q, fun d S' v H' e st dv q' => ?_, kE⟩
  cases d with
  | bl b => exact ⟨b, dv_bl.mp dv, k b S' H' e st q'⟩
  | _ => exact q'.elim
theorem pdt_cmp {op : CmpOp} {r : RD2} {a b : Expr} {ta tb : TD} {pos : Pos} (ho : OpD X Z (compareOp op) r) (ha : PD X Z a ta) (hb : PD X Z b tb) (hm : behindInMarks op b = false := by first | exact nobehind _ (by decide) (by decide) | rfl) : PDT X Z (.Compare a [op] [b] pos) (dTest (dOp r ta tb)) := fun W tk =>
  PT.imp (pt_cmpR ho (ha W tk) (hb W tk) hm) fun _ _ _ h => lift_op (lift_test h)
/-- a value's truth -/
def truD (d : D) (S : DS) (Q : Bool → DS → Prop) : Prop := match d with
  | .non => Q false S
  | .bl b => Q b S
  | .int i => Q (i != 0) S
  | .str x => x.length ≤ sizeLine ∧ Q ((x.length : Int) != 0) S
  | .tup ds => Q (!ds.isEmpty) S
  | .rol ds => Q (!ds.isEmpty) S
  | .ref a => (∃ ds, S a = some (.lst ds) ∧ Q (!ds.isEmpty) S) ∨ ∃ kvs, S a = some (.dct kvs) ∧ Q (!kvs.isEmpty) S
theorem DVs.empty {H : Hp} {ds : List D} {vs : List V} (h : DVs K H ds vs) : vs.isEmpty = ds.isEmpty := by
  cases ds with
  | nil => rw [dvs_nil.mp h]; rfl
  | cons d r => obtain ⟨v, q, rfl, _⟩ := dvs_cons.mp h; rfl
theorem KDV.empty {H : Hp} {ds : List (Key × D)} {vs : List (Key × V)} (h : KDV K H ds vs) : vs.isEmpty = ds.isEmpty := by
  cases ds with
  | nil => rw [show vs = [] from h]; rfl
  | cons d r => obtain ⟨k, d⟩ := d; obtain ⟨v, q, rfl, _⟩ := h; rfl
theorem tru_dv {H : Hp} {S : DS} {d : D} {v : V} {R : Bool → DS → Prop} (st : ST K Z S H) (h : DV K H d v) (q : truD d S R) : ∃ k, TruV K v H k ∧ R k S := by
  cases d with
  | non => rw [dv_non.mp h]; exact ⟨_, rfl, q⟩
  | bl b => rw [dv_bl.mp h]; exact ⟨_, rfl, q⟩
  | int i => rw [dv_int.mp h]; exact ⟨_, rfl, q⟩
  | str i => rw [dv_str.mp h]; exact ⟨_, ⟨q.1, rfl⟩, q.2⟩
  | tup ds =>
    obtain ⟨p, vs, rfl, h1, h2⟩ := dv_tup.mp h
    exact ⟨_, .inr (.inl ⟨vs, h1, rfl⟩), by rw [h2.empty]; exact q⟩
  | rol ds =>
    obtain ⟨p, vs, rfl, h1, h2⟩ := dv_rol.mp h
    exact ⟨_, .inl ⟨vs, h1.sq, rfl⟩, by rw [h2.empty]; exact q⟩
  | ref a =>
    rw [dv_ref.mp h]
    rcases q with ⟨ds, s1, q⟩ | ⟨kvs, s1, q⟩
    · obtain ⟨vs, h1, h2⟩ := sr_lst st s1
      exact ⟨_, .inl ⟨vs, SqL.of h1, rfl⟩, by rw [h2.empty]; exact q⟩
    · obtain ⟨ws, h1, h2⟩ := st.sr a _ s1
      exact ⟨_, .inr (.inr ⟨ws, h1, rfl⟩), by rw [h2.empty]; exact q⟩
def dTru (t : TD) : TDT := fun p S Q E => t p S (fun d S' => truD d S' Q) E
theorem pdt_tru {e : Expr} {t : TD} (h : PD X Z e t) (he : ∀ whole, isTrue e X.env whole = (do let v ← whole; standAt e.pos; holding [v] (truthy v)) := by intro _; rfl) : PDT X Z e (dTru t) := fun W tk => by
  refine PT.imp (pt_truth (h W tk) he) fun σ H Q h => ?_
  obtain ⟨p, S, Q0, E0, R, q, k, kE⟩ := h
  refine ⟨p, S, _, E0, R, q, fun d S' v H' e st dv q' => ?_, kE⟩
  obtain ⟨b, h1, h2⟩ := tru_dv st dv q'
  exact ⟨b, h1, k b S' H' e st h2⟩
def dAnd (t u : TDT) : TDT := fun p S Q E => t p S (fun c S1 => if c = true then u p S1 Q E else Q false S1) E
def dOr (t u : TDT) : TDT := fun p S Q E => t p S (fun c S1 => if c = true then Q true S1 else u p S1 Q E) E
def dNot (t : TDT) : TDT := fun p S Q E => t p S (fun c S1 => Q (!c) S1) E
variable {a b e : Expr} {rest : List Expr} {pos : Pos} {tA tB' : TDT} {ta tb : TD}
theorem PDW.pt (h : PDW X Z e tA) : PDT X Z e tA := fun W tk => (h W tk).pt
theorem pdw_and1 (ha : PDT X Z a tA) : PDW X Z (.BoolOp .And [a] pos) tA := fun W tk => pw_and1 (ha W tk)
theorem pdw_or1 (ha : PDT X Z a tA) : PDW X Z (.BoolOp .Or [a] pos) tA := fun W tk => pw_or1 (ha W tk)
theorem pdw_and (ha : PDT X Z a tA) (hb : PDW X Z (.BoolOp .And (b :: rest) pos) tB') : PDW X Z (.BoolOp .And (a :: b :: rest) pos) (dAnd tA tB') := fun W tk => by
  refine PW.imp (pw_and (ha W tk) (hb W tk)) fun σ H Q h => ?_
  obtain ⟨p, S, Q0, E0, R, q, k, kE⟩ := h
  refine ⟨p, S, _, E0, R, q, fun c S' H' e st q' => ?_, kE⟩
  cases c with
  | true => exact iteT ⟨p, S', Q0, E0, R.go e st, (if_pos rfl).mp q', fun b' S2 H2 e2 => k b' S2 H2 (e.trans e2), fun c S2 dd H2 e2 => kE c S2 dd H2 (e.trans e2)⟩
  | false => exact iteF (k false S' H' e st ((if_neg Bool.false_ne_true).mp q'))
theorem pdw_or (ha : PDT X Z a tA) (hb : PDW X Z (.BoolOp .Or (b :: rest) pos) tB') : PDW X Z (.BoolOp .Or (a :: b :: rest) pos) (dOr tA tB') := fun W tk => by
  refine PW.imp (pw_or (ha W tk) (hb W tk)) fun σ H Q h => ?_
  obtain ⟨p, S, Q0, E0, R, q, k, kE⟩ := h
  refine ⟨p, S, _, E0, R, q, fun c S' H' e st q' => ?_, kE⟩
  cases c with
  | false => exact iteF ⟨p, S', Q0, E0, R.go e st, (if_neg Bool.false_ne_true).mp q', fun b' S2 H2 e2 => k b' S2 H2 (e.trans e2), fun c S2 dd H2 e2 => kE c S2 dd H2 (e.trans e2)⟩
  | true => exact iteT (k true S' H' e st ((if_pos rfl).mp q'))
theorem pdt_not (ha : PDT X Z a tA) : PDT X Z (.UnaryOp .Not a pos) (dNot tA) := fun W tk => by
  refine PT.imp (pt_not (ha W tk)) fun σ H Q h => ?_
  obtain ⟨p, S, Q0, E0, R, q, k, kE⟩ := h
  exact ⟨p, S, _, E0, R, q, fun c S' H' e st q' => k (!c) S' H' e st q', kE⟩

/-! ### or, and, not, if as values -/
def dAndV (ta tb : TD) : TD := fun p S Q E => ta p S (fun x S1 => truD x S1 fun c S2 => if c = true then tb p S2 Q E else Q x S2) E
def dOrV (ta tb : TD) : TD := fun p S Q E => ta p S (fun x S1 => truD x S1 fun c S2 => if c = true then Q x S2 else tb p S2 Q E) E
def dNotV (ta : TD) : TD := fun p S Q E => ta p S (fun x S1 => truD x S1 fun c S2 => Q (.bl (!c)) S2) E
def dIf (t : TDT) (ta tb : TD) : TD := fun p S Q E => t p S (fun c S1 => if c = true then ta p S1 Q E else tb p S1 Q E) E
theorem pd_one {op} (h : PD X Z a ta) : PD X Z (.BoolOp op [a] pos) ta := fun W tk => pe_one (h W tk)
theorem pd_and (ha : PD X Z a ta) (hb : PD X Z (.BoolOp .And (b :: rest) pos) tb) : PD X Z (.BoolOp .And (a :: b :: rest) pos) (dAndV ta tb) := fun W tk => by
  refine PE.imp (pe_andT (ha W tk) (hb W tk)) fun σ H Q h => ?_
  obtain ⟨p, S, Q0, E0, R, q, k, kE⟩ := h
  refine ⟨p, S, _, E0, R, q, fun d S' v H' e st dv q' => ?_, kE⟩
  obtain ⟨c, h1, h2⟩ := tru_dv st dv q'
  refine ⟨c, h1, ?_⟩
  cases c with
  | true => exact iteT ⟨p, S', Q0, E0, R.go e st, (if_pos rfl).mp h2, fun d2 S2 v2 H2 e2 => k d2 S2 v2 H2 (e.trans e2), fun c S2 dd H2 e2 => kE c S2 dd H2 (e.trans e2)⟩
  | false => exact iteF (k d S' v H' e st dv ((if_neg Bool.false_ne_true).mp h2))
theorem pd_or (ha : PD X Z a ta) (hb : PD X Z (.BoolOp .Or (b :: rest) pos) tb) : PD X Z (.BoolOp .Or (a :: b :: rest) pos) (dOrV ta tb) := fun W tk => by
  refine PE.imp (pe_orT (ha W tk) (hb W tk)) fun σ H Q h => ?_
  obtain ⟨p, S, Q0, E0, R, q, k, kE⟩ := h
  refine ⟨p, S, _, E0, R, q, fun d S' v H' e st dv q' => ?_, kE⟩
  obtain ⟨c, h1, h2⟩ := tru_dv st dv q'
  refine ⟨c, h1, ?_⟩
  cases c with
  | false => exact iteF ⟨p, S', Q0, E0, R.go e st, (if_neg Bool.false_ne_true).mp h2, fun d2 S2 v2 H2 e2 => k d2 S2 v2 H2 (e.trans e2), fun c S2 dd H2 e2 => kE c S2 dd H2 (e.trans e2)⟩
  | true => exact iteT (k d S' v H' e st dv ((if_pos rfl).mp h2))
theorem pd_not (ha : PD X Z a ta) : PD X Z (.UnaryOp .Not a pos) (dNotV ta) := fun W tk => by
  refine PE.imp (pe_notT (ha W tk)) fun σ H Q h => ?_
  obtain ⟨p, S, Q0, E0, R, q, k, kE⟩ := h
  refine ⟨p, S, _, E0, R, q, fun d S' v H' e st dv q' => ?_, kE⟩
  obtain ⟨c, h1, h2⟩ := tru_dv st dv q'
  exact ⟨c, h1, k _ S' _ H' e st (dv_bl.mpr rfl) h2⟩
theorem pd_if {c : Expr} (hc : PDT X Z c tA) (ha : PD X Z a ta) (hb : PD X Z b tb) : PD X Z (.IfExp c a b pos) (dIf tA ta tb) := fun W tk => by
  refine PE.imp (pe_ifExp (hc W tk) (ha W tk) (hb W tk)) fun σ H Q h => ?_
  obtain ⟨p, S, Q0, E0, R, q, k, kE⟩ := h
  refine ⟨p, S, _, E0, R, q, fun c S' H' e st q' => ?_, kE⟩
  cases c with
  | true => exact iteT ⟨p, S', Q0, E0, R.go e st, (if_pos rfl).mp q', fun d2 S2 v2 H2 e2 => k d2 S2 v2 H2 (e.trans e2), fun c S2 dd H2 e2 => kE c S2 dd H2 (e.trans e2)⟩
  | false => exact iteF ⟨p, S', Q0, E0, R.go e st, (if_neg Bool.false_ne_true).mp q', fun d2 S2 v2 H2 e2 => k d2 S2 v2 H2 (e.trans e2), fun c S2 dd H2 e2 => kE c S2 dd H2 (e.trans e2)⟩
def dNeg (ta : TD) : TD := fun p S Q E => ta p S (fun x S1 => match x with | .int i => Q (.int (-i)) S1 | _ => False) E
theorem pd_neg (ha : PD X Z a ta) : PD X Z (.UnaryOp .USub a pos) (dNeg ta) := fun W tk => by
  refine PE.imp (pe_un un_neg (ha W tk)) fun σ H Q h => ?_
  obtain ⟨p, S, Q0, E0, R, q, k, kE⟩ := h
  refine ⟨p, S, _, E0, R, q, fun d S' v H' e st dv q' => ?_, kE⟩
  cases d with
  | int i => exact ⟨i, dv_int.mp dv, k _ S' _ H' e st (dv_int.mpr rfl) q'⟩
  | _ => exact q'.elim

/-! ### chains of comparisons -/
/-- the rest of a chain behind the left value -/
def PDCh (X : Cx) (Z : Zt) (ops : List CmpOp) (es : List Expr) (t : D → TD) : Prop := ∀ (W : WX), Takes X W → ∀ (pos : Pos) (pins : List (Addr × Obj)) (s : Shared) (σ : L2.St) (H : Hp) (x : D) (v : V) (u : Value) (Q : VK), Inv X pins σ H s → DV X.K H x v → RelV v u → lift X.K Z W (t x) σ H Q →
  wpAny (model X.prog X.w) X.A (compareChain pos u ops (evalEach es X.env)) (EP X pins σ Q) X.xe s
def PDChT (X : Cx) (Z : Zt) (ops : List CmpOp) (es : List Expr) (t : D → TD) : Prop := ∀ (W : WX), Takes X W → ∀ (pos : Pos) (pins : List (Addr × Obj)) (s : Shared) (σ : L2.St) (H : Hp) (x : D) (v : V) (u : Value) (Q : Bool → Hp → Prop), Inv X pins σ H s → DV X.K H x v → RelV v u → liftT X.K Z W (dTest (t x)) σ H Q →
  wpAny (model X.prog X.w) X.A (testChain pos u ops (evalEach es X.env)) (TP X pins σ Q) X.xe s
def dCh1 (r : RD2) (te : TD) : D → TD := fun x p S Q E => te p S (fun y S1 => r x y S1 Q) E
def dChC (r : RD2) (te : TD) (tc : D → TD) : D → TD := fun x p S Q E => te p S (fun y S1 => r x y S1 fun d S2 => match d with
  | .bl c => if c = true then tc y p S2 Q E else Q (.bl false) S2
  | _ => False) E
variable {op op' : CmpOp} {ops : List CmpOp} {es : List Expr} {r : RD2} {te : TD} {tc : D → TD}
theorem pdch_1 (ho : OpD X Z (compareOp op) r) (he : PD X Z e te) : PDCh X Z [op] [e] (dCh1 r te) := fun W tk pos pins s σ H x v u Q I dx ru h => by
  obtain ⟨p, S, Q0, E0, R, q, k, kE⟩ := h
  show wpAny _ _ (compareChain pos u [op] [eval e X.env]) _ _ s
  refine chain_last (thn ((he W tk).run pins s σ H (fun y H1 => liftR X.K Z r v y H1 Q) I ⟨p, S, _, E0, R, q, fun y S1 w H1 e1 st1 dv1 q1 => ?_, kE⟩) fun w' s1 ⟨y, H1, I1, r1, q1⟩ => ho pins s1 σ H1 v y u w' Q I1 ru r1 q1)
  exact ⟨x, y, S1, Q0, st1, dx.mono e1.evo, dv1, q1, fun d S' v' H' e' st' dv' z => k d S' v' H' (e1.trans e') st' dv' z⟩
theorem pdch_c (ho : OpD X Z (compareOp op) r) (he : PD X Z e te) (hc : PDCh X Z (op' :: ops) (b :: es) tc) : PDCh X Z (op :: op' :: ops) (e :: b :: es) (dChC r te tc) := fun W tk pos pins s σ H x v u Q I dx ru h => by
  obtain ⟨p, S, Q0, E0, R, q, k, kE⟩ := h
  show wpAny _ _ (compareChain pos u (op :: op' :: ops) (eval e X.env :: eval b X.env :: evalEach es X.env)) _ _ s
  refine chain_link (thn ((he W tk).run pins s σ H (fun y H1 => ∃ yd, DV X.K H1 yd y ∧ liftR X.K Z r v y H1 fun z H2 => ∃ c, z = .bl c ∧ DV X.K H2 yd y ∧ if c = true then lift X.K Z W (tc yd) σ H2 Q else Q (.bl false) H2) I ⟨p, S, _, E0, R, q, fun y S1 w H1 e1 st1 dv1 q1 => ⟨y, dv1, ?_⟩, kE⟩) fun w' s1 ⟨y, H1, I1, r1, yd, dvy, q1⟩ => ?_)
  · refine ⟨x, y, S1, _, st1, dx.mono e1.evo, dv1, q1, fun d S' v' H' e' st' dv' z => ?_⟩
    cases d with
    | bl c =>
      refine ⟨c, dv_bl.mp dv', dv1.mono e'.evo, ?_⟩
      cases c with
      | true => exact iteT ⟨p, S', Q0, E0, R.go (e1.trans e') st', (if_pos rfl).mp z, fun d2 S2 v2 H2 e2 => k d2 S2 v2 H2 ((e1.trans e').trans e2), fun c S2 dd H2 e2 => kE c S2 dd H2 ((e1.trans e').trans e2)⟩
      | false => exact iteF (k _ S' _ H' (e1.trans e') st' (dv_bl.mpr rfl) ((if_neg Bool.false_ne_true).mp z))
    | _ => exact z.elim
  · refine thn (ho pins s1 σ H1 v y u w' _ I1 ru r1 q1) fun d s2 ⟨z, H2, I2, r2, c, ez, dvy2, q2⟩ => ?_
    subst ez
    cases r2
    refine wpAny_truthy_bool ?_
    cases c with
    | true => exact ite_tt (hc W tk pos pins s2 σ H2 yd y w' Q I2 dvy2 r1 ((if_pos rfl).mp q2))
    | false => exact ite_ff ⟨.bl false, H2, I2, rfl, (if_neg Bool.false_ne_true).mp q2⟩
theorem pdcht_1 (ho : OpD X Z (compareOp op) r) (he : PD X Z e te) : PDChT X Z [op] [e] (dCh1 r te) := fun W tk pos pins s σ H x v u Q I dx ru h => by
  obtain ⟨p, S, Q0, E0, R, q, k, kE⟩ := h
  show wpAny _ _ (testChain pos u [op] [eval e X.env]) _ _ s
  refine test_last (thn ((he W tk).run pins s σ H (fun y H1 => liftR X.K Z r v y H1 fun z H2 => ∃ c, z = .bl c ∧ Q c H2) I ⟨p, S, _, E0, R, q, fun y S1 w H1 e1 st1 dv1 q1 => ?_, kE⟩) fun w' s1 ⟨y, H1, I1, r1, q1⟩ => thn (ho pins s1 σ H1 v y u w' _ I1 ru r1 q1) fun d s2 ⟨z, H2, I2, r2, c, ez, q2⟩ => ?_)
  · refine ⟨x, y, S1, _, st1, dx.mono e1.evo, dv1, q1, fun d S' v' H' e' st' dv' z => ?_⟩
    cases d with
    | bl c => exact ⟨c, dv_bl.mp dv', k c S' H' (e1.trans e') st' z⟩
    | _ => exact z.elim
  · subst ez
    cases r2
    exact wpAny_truthy_bool ⟨H2, I2, q2⟩
theorem pdcht_c (ho : OpD X Z (compareOp op) r) (he : PD X Z e te) (hc : PDChT X Z (op' :: ops) (b :: es) tc) : PDChT X Z (op :: op' :: ops) (e :: b :: es) (dChC r te tc) := fun W tk pos pins s σ H x v u Q I dx ru h => by
  obtain ⟨p, S, Q0, E0, R, q, k, kE⟩ := h
  show wpAny _ _ (testChain pos u (op :: op' :: ops) (eval e X.env :: eval b X.env :: evalEach es X.env)) _ _ s
  refine test_link (thn ((he W tk).run pins s σ H (fun y H1 => ∃ yd, DV X.K H1 yd y ∧ liftR X.K Z r v y H1 fun z H2 => ∃ c, z = .bl c ∧ DV X.K H2 yd y ∧ if c = true then liftT X.K Z W (dTest (tc yd)) σ H2 Q else Q false H2) I ⟨p, S, _, E0, R, q, fun y S1 w H1 e1 st1 dv1 q1 => ⟨y, dv1, ?_⟩, kE⟩) fun w' s1 ⟨y, H1, I1, r1, yd, dvy, q1⟩ => ?_)
  · refine ⟨x, y, S1, _, st1, dx.mono e1.evo, dv1, q1, fun d S' v' H' e' st' dv' z => ?_⟩
    cases d with
    | bl c =>
      refine ⟨c, dv_bl.mp dv', dv1.mono e'.evo, ?_⟩
      cases c with
      | true => exact iteT ⟨p, S', Q0, E0, R.go (e1.trans e') st', (if_pos rfl).mp z, fun d2 S2 H2 e2 => k d2 S2 H2 ((e1.trans e').trans e2), fun c S2 dd H2 e2 => kE c S2 dd H2 ((e1.trans e').trans e2)⟩
      | false => exact iteF (k _ S' H' (e1.trans e') st' ((if_neg Bool.false_ne_true).mp z))
    | _ => exact z.elim
  · refine thn (ho pins s1 σ H1 v y u w' _ I1 ru r1 q1) fun d s2 ⟨z, H2, I2, r2, c, ez, dvy2, q2⟩ => ?_
    subst ez
    cases r2
    refine wpAny_truthy_bool ?_
    cases c with
    | true => exact ite_tt (hc W tk pos pins s2 σ H2 yd y w' Q I2 dvy2 r1 ((if_pos rfl).mp q2))
    | false => exact ite_ff ⟨H2, I2, (if_neg Bool.false_ne_true).mp q2⟩
def dChain (ta : TD) (tc : D → TD) : TD := fun p S Q E => ta p S (fun x S1 => tc x p S1 Q E) E
theorem pd_chain (ha : PD X Z a ta) (hc : PDCh X Z (op :: op' :: ops) (b :: e :: es) tc) (hm : lastMarks (op :: op' :: ops) (b :: e :: es) = false := by with_unfolding_all rfl) : PD X Z (.Compare a (op :: op' :: ops) (b :: e :: es) pos) (dChain ta tc) := fun W tk => by
  refine ⟨fun pins s σ H Q I h => ?_⟩
  obtain ⟨p, S, Q0, E0, R, q, k, kE⟩ := h
  refine Compare_chain (thn ((ha W tk).run pins s σ H (fun v H1 => ∃ x, DV X.K H1 x v ∧ lift X.K Z W (tc x) σ H1 Q) I ⟨p, S, _, E0, R, q, fun x S1 v H1 e1 st1 dv1 q1 => ⟨x, dv1, ?_⟩, kE⟩) fun u s1 ⟨v, H1, I1, r1, x, dx, q1⟩ => hc W tk pos pins s1 σ H1 x v u Q I1 dx r1 q1) hm
  exact ⟨p, S1, Q0, E0, R.go e1 st1, q1, fun d2 S2 v2 H2 e2 => k d2 S2 v2 H2 (e1.trans e2), fun c S2 dd H2 e2 => kE c S2 dd H2 (e1.trans e2)⟩
theorem pdt_chain (ha : PD X Z a ta) (hc : PDChT X Z (op :: op' :: ops) (b :: e :: es) tc) (hm : lastMarks (op :: op' :: ops) (b :: e :: es) = false := by with_unfolding_all rfl) : PDT X Z (.Compare a (op :: op' :: ops) (b :: e :: es) pos) (dTest (dChain ta tc)) := fun W tk => by
  refine ⟨fun pins s σ H Q I h => ?_⟩
  obtain ⟨p, S, Q0, E0, R, q, k, kE⟩ := h
  refine isTrue_chain (thn ((ha W tk).run pins s σ H (fun v H1 => ∃ x, DV X.K H1 x v ∧ liftT X.K Z W (dTest (tc x)) σ H1 Q) I ⟨p, S, _, E0, R, q, fun x S1 v H1 e1 st1 dv1 q1 => ⟨x, dv1, ?_⟩, kE⟩) fun u s1 ⟨v, H1, I1, r1, x, dx, q1⟩ => hc W tk pos pins s1 σ H1 x v u Q I1 dx r1 q1) hm
  exact ⟨p, S1, Q0, E0, R.go e1 st1, q1, fun d2 S2 H2 e2 => k d2 S2 H2 (e1.trans e2), fun c S2 dd H2 e2 => kE c S2 dd H2 (e1.trans e2)⟩
end
end G

set_option Elab.async false
set_option linter.all false
set_option maxRecDepth 100000
set_option maxHeartbeats 4000000
/-! GD: displays, subscripts, slices, calls of defs, classes, methods, built-ins. -/
namespace G
open PySem PySem.Spec PyProof.Rows L2
section
variable {X : Cx} {Z : Zt} {K : PySem.W.Frag} {W : WX} {a b e : Expr} {es : List Expr} {ta tb te : TD} {pos : Pos}
/-! ### arguments, displays -/
def dNil : TDA := fun _ S Q _ => Q [] S
def dCons (t : TD) (u : TDA) : TDA := fun p S Q E => t p S (fun x S1 => u p S1 (fun xs S2 => Q (x :: xs) S2) E) E
theorem pda_nil : PDA X Z [] dNil := fun W tk => by
  refine PA.imp pa_nil fun σ H Q h => ?_
  obtain ⟨p, S, Q0, E0, R, q, k, kE⟩ := h
  exact k [] S [] H Go.r R.st (dvs_nil.mpr rfl) q
theorem pda_cons {t : TD} {u : TDA} (he : PD X Z e t) (hr : PDA X Z es u) (hs : starEach (e :: es) X.env = (false, eval e X.env) :: starEach es X.env := by rfl) : PDA X Z (e :: es) (dCons t u) := fun W tk => by
  refine PA.imp (pa_cons (he W tk) (hr W tk) hs) fun σ H Q h => ?_
  obtain ⟨p, S, Q0, E0, R, q, k, kE⟩ := h
  refine ⟨p, S, _, E0, R, q, fun x S1 v H1 e1 st1 dv1 q1 => ?_, kE⟩
  exact ⟨p, S1, _, E0, R.go e1 st1, q1, fun xs S2 vs H2 e2 st2 dv2 q2 => k _ S2 _ H2 (e1.trans e2) st2 (DVs.cons (dv1.mono e2.evo) dv2) q2, fun c S2 dd H2 e2 => kE c S2 dd H2 (e1.trans e2)⟩
def dTup (t : TDA) : TD := fun p S Q E => t p S (fun ds S1 => ds.length ≤ sizeLine ∧ Q (.tup ds) S1) E
def dLst (t : TDA) : TD := fun p S Q E => t p S (fun ds S1 => ds.length ≤ sizeLine ∧ ∀ l, S1 l = none → Q (.ref l) (put S1 l (.lst ds))) E
theorem pd_tup {t : TDA} {x1} (h : PDA X Z es t) : PD X Z (.Tuple es x1 pos) (dTup t) := fun W tk => by
  refine PE.imp (pe_tup (h W tk)) fun σ H Q h => ?_
  obtain ⟨p, S, Q0, E0, R, q, k, kE⟩ := h
  refine ⟨p, S, _, E0, R, q, fun ds S1 vs H1 e1 st1 dv1 q1 => ⟨by rw [← dv1.len]; exact q1.1, fun l hl => ?_⟩, kE⟩
  exact k _ S1 _ _ (e1.trans (Go.new hl)) (st1.new hl) (dv_tup.mpr ⟨l, vs, rfl, .inl (.inl upd_same), dv1.mono (Evo.new hl)⟩) q1.2
theorem pd_lst {t : TDA} (h : PDA X Z es t) : PD X Z (.List es pos) (dLst t) := fun W tk => by
  refine PE.imp (pe_lst (h W tk)) fun σ H Q h => ?_
  obtain ⟨p, S, Q0, E0, R, q, k, kE⟩ := h
  refine ⟨p, S, _, E0, R, q, fun ds S1 vs H1 e1 st1 dv1 q1 => ⟨by rw [← dv1.len]; exact q1.1, fun l hl => ?_⟩, kE⟩
  exact k _ _ _ _ (e1.trans (Go.made hl)) (st1.made (o := .lst ds) hl ⟨vs, upd_same, dv1.mono (Evo.new hl)⟩) (dv_ref.mpr rfl) (q1.2 l (st1.free hl))

/-! ### subscripts -/
theorem DVs.at {H : Hp} {ds : List D} {vs : List V} {i : Int} {d : D} (h : DVs K H ds vs) (q : atI ds i = some d) : ∃ v, atI vs i = some v ∧ DV K H d v := by
  unfold atI at q ⊢
  rw [← h.len]
  cases e : ixN ds.length i with
  | none => rw [e] at q; cases q
  | some j =>
    rw [e] at q
    exact h.get q
def opIx : RD2 := fun x y S Q => match x, y with
  | .tup ds, .int i => ∃ d, atI ds i = some d ∧ Q d S
  | .rol ds, .int i => ∃ d, atI ds i = some d ∧ Q d S
  | .str z, .int i => z.length ≤ sizeLine ∧ ∃ c, atI z.cps.toList i = some c ∧ Q (.str ⟨#[c]⟩) S
  | .ref l, .int i => ∃ ds d, S l = some (.lst ds) ∧ atI ds i = some d ∧ Q d S
  | _, _ => False
theorem ixd : IxR X (liftR X.K Z opIx) := by
  intro value slice pins s σ H v w u u' Q I rx ry h hs
  obtain ⟨x, y, S, Q0, st, hx, hy, h, k⟩ := h
  cases y with
  | int i =>
    rw [dv_int.mp hy] at ry
    cases x with
    | tup ds =>
      obtain ⟨d, ha, q⟩ : ∃ d, atI ds i = some d ∧ Q0 d S := h
      obtain ⟨p, vs, e1, h1, d1⟩ := dv_tup.mp hx
      rw [e1] at rx
      obtain ⟨v', a1, a2⟩ := d1.at ha
      exact ix_tup value slice pins s σ H _ _ u u' Q I rx ry ⟨p, vs, i, v', rfl, rfl, h1, a1, k _ S _ H Go.r st a2 q⟩ hs
    | rol ds =>
      obtain ⟨d, ha, q⟩ : ∃ d, atI ds i = some d ∧ Q0 d S := h
      obtain ⟨p, vs, e1, h1, d1⟩ := dv_rol.mp hx
      rw [e1] at rx
      obtain ⟨v', a1, a2⟩ := d1.at ha
      exact ix_list value slice pins s σ H _ _ u u' Q I rx ry ⟨p, vs, i, v', rfl, rfl, h1.sq, a1, k _ S _ H Go.r st a2 q⟩ hs
    | str z =>
      obtain ⟨hz, c, ha, q⟩ : z.length ≤ sizeLine ∧ ∃ c, atI z.cps.toList i = some c ∧ Q0 (.str ⟨#[c]⟩) S := h
      rw [dv_str.mp hx] at rx
      exact ix_str value slice pins s σ H _ _ u u' Q I rx ry ⟨z, i, c, rfl, rfl, hz, ha, k _ S _ H Go.r st (dv_str.mpr rfl) q⟩ hs
    | ref l =>
      obtain ⟨ds, d, s1, ha, q⟩ : ∃ ds d, S l = some (.lst ds) ∧ atI ds i = some d ∧ Q0 d S := h
      rw [dv_ref.mp hx] at rx
      obtain ⟨vs, h1, d1⟩ := sr_lst st s1
      obtain ⟨v', a1, a2⟩ := d1.at ha
      exact ix_list value slice pins s σ H _ _ u u' Q I rx ry ⟨l, vs, i, v', rfl, rfl, SqL.of h1, a1, k _ S _ H Go.r st a2 q⟩ hs
    | _ => exact h.elim
  | _ => cases x <;> exact h.elim
theorem pd_ix (ha : PD X Z a ta) (hb : PD X Z b tb) (hs : PlainIx b := by exact fun _ _ => rfl) : PD X Z (.Subscript a b pos) (dOp opIx ta tb) := fun W tk =>
  PE.imp (pe_ix ixd (ha W tk) (hb W tk) hs) fun _ _ _ h => lift_op h
/-- an item's place as a whole number that is known -/
theorem ix_at {ds : List D} {i : Int} {d : D} {S : DS} {Q : QD} (h : atI ds i = some d) (q : Q d S) : opIx (.tup ds) (.int i) S Q := ⟨d, h, q⟩

/-! ### slices -/
abbrev TDO := Env_ → DS → (Option Int → DS → Prop) → XD → Prop
def liftO (K : PySem.W.Frag) (Z : Zt) (W : WX) (t : TDO) : TO := fun σ H Q => ∃ r S Q0 E0, Rel K Z r S σ H ∧ t r S Q0 E0 ∧
  (∀ o S' H', Go H S H' S' → ST K Z S' H' → Q0 o S' → Q o H') ∧ ∀ c S' dd H', Go H S H' S' → ST K Z S' H' → E0 c S' → W (Z.ex c) dd σ H'
def PDO (X : Cx) (Z : Zt) (o : Option Expr) (t : TDO) : Prop := ∀ W, Takes X W → PO X o (liftO X.K Z W t)
def dNoPart : TDO := fun _ S Q _ => Q none S
def dPart (t : TD) : TDO := fun p S Q E => t p S (fun d S1 => match d with | .int i => Q (some i) S1 | _ => False) E
theorem PO.imp {o : Option Expr} {t t' : TO} (h : PO X o t) (i : ∀ σ H Q, t' σ H Q → t σ H Q) : PO X o t' := ⟨fun pins s σ H Q I q => h.run pins s σ H Q I (i σ H Q q)⟩
theorem pdo_none : PDO X Z none dNoPart := fun W tk => by
  refine PO.imp po_none fun σ H Q h => ?_
  obtain ⟨p, S, Q0, E0, R, q, k, kE⟩ := h
  exact k none S H Go.r R.st q
theorem pdo_some (h : PD X Z e te) : PDO X Z (some e) (dPart te) := fun W tk => by
  refine PO.imp (po_some (h W tk)) fun σ H Q h => ?_
  obtain ⟨p, S, Q0, E0, R, q, k, kE⟩ := h
  refine ⟨p, S, _, E0, R, q, fun d S1 v H1 e1 st1 dv1 q1 => ?_, kE⟩
  cases d with
  | int i => exact ⟨i, dv_int.mp dv1, k _ S1 H1 e1 st1 q1⟩
  | _ => exact q1.elim
def cutD {α : Type} (xs : List α) (lo hi : Option Int) : List α := (xs.drop (HT.sIx xs.length 0 lo)).take (HT.sIx xs.length xs.length hi - HT.sIx xs.length 0 lo)
theorem DVs.cut {H : Hp} {ds : List D} {vs : List V} (h : DVs K H ds vs) (lo hi : Option Int) : DVs K H (cutD ds lo hi) (cutV vs lo hi) := by
  unfold cutD cutV
  rw [← h.len]
  exact (h.drop _).take _
def slD (x : D) (lo hi : Option Int) (S : DS) (Q : QD) : Prop := match x with
  | .tup ds => Q (.tup (cutD ds lo hi)) S
  | .str z => z.length ≤ sizeLine ∧ Q (.str (cutS z lo hi)) S
  | .rol ds => ∀ l, S l = none → Q (.ref l) (put S l (.lst (cutD ds lo hi)))
  | .ref l => ∃ ds, S l = some (.lst ds) ∧ ∀ p, S p = none → Q (.ref p) (put S p (.lst (cutD ds lo hi)))
  | _ => False
def dSl (te : TD) (tl th : TDO) : TD := fun p S Q E => te p S (fun x S1 => tl p S1 (fun lo S2 => th p S2 (fun hi S3 => slD x lo hi S3 Q) E) E) E
def liftSl (K : PySem.W.Frag) (Z : Zt) : V → Option Int → Option Int → Hp → VK → Prop := fun v lo hi H Q => ∃ x S Q0, ST K Z S H ∧ DV K H x v ∧ slD x lo hi S Q0 ∧ ∀ d S' v' H', Go H S H' S' → ST K Z S' H' → DV K H' d v' → Q0 d S' → Q v' H'
theorem sld : SlR X (liftSl X.K Z) := by
  intro pins s σ H x v vl vu lo hi sl Q I rx hs pl pu h
  obtain ⟨d, S, Q0, st, hx, h, k⟩ := h
  cases d with
  | tup ds =>
    obtain ⟨p, vs, e1, h1, d1⟩ := dv_tup.mp hx
    subst e1
    refine sl_tupA pins s σ H _ v vl vu lo hi sl Q I rx hs pl pu ⟨p, vs, rfl, h1, fun z => ?_, fun _ l hl => ?_⟩
    · have e : cutD ds lo hi = ds := by
        unfold cutD
        rw [d1.len, z.1, z.2]
        simp [← d1.len]
      have h' : Q0 (.tup (cutD ds lo hi)) S := h
      rw [e] at h'
      exact k _ S _ H Go.r st (dv_tup.mpr ⟨p, vs, rfl, h1, d1⟩) h'
    · exact k _ S _ _ (Go.new hl) (st.new hl) (dv_tup.mpr ⟨l, _, rfl, .inl (.inl upd_same), (d1.cut lo hi).mono (Evo.new hl)⟩) h
  | str z =>
    rw [dv_str.mp hx] at rx
    exact sl_str pins s σ H _ v vl vu lo hi sl Q I rx hs pl pu ⟨z, rfl, h.1, k _ S _ H Go.r st (dv_str.mpr rfl) h.2⟩
  | rol ds =>
    obtain ⟨p, vs, e1, h1, d1⟩ := dv_rol.mp hx
    subst e1
    exact sl_list pins s σ H _ v vl vu lo hi sl Q I rx hs pl pu ⟨p, vs, rfl, h1.sq, fun l hl => k _ _ _ _ (Go.made hl) (st.made (o := .lst (cutD ds lo hi)) hl ⟨_, upd_same, (d1.cut lo hi).mono (Evo.new hl)⟩) (dv_ref.mpr rfl) (h l (st.free hl))⟩
  | ref l =>
    rw [dv_ref.mp hx] at rx
    obtain ⟨ds, s1, h⟩ : ∃ ds, S l = some (.lst ds) ∧ ∀ p, S p = none → Q0 (.ref p) (put S p (.lst (cutD ds lo hi))) := h
    obtain ⟨vs, h1, d1⟩ := sr_lst st s1
    exact sl_list pins s σ H _ v vl vu lo hi sl Q I rx hs pl pu ⟨l, vs, rfl, SqL.of h1, fun l hl => k _ _ _ _ (Go.made hl) (st.made (o := .lst (cutD ds lo hi)) hl ⟨_, upd_same, (d1.cut lo hi).mono (Evo.new hl)⟩) (dv_ref.mpr rfl) (h l (st.free hl))⟩
  | _ => exact h.elim
theorem pd_slice {lo hi : Option Expr} {tl th : TDO} {p2 : Pos} (he : PD X Z e te) (hl : PDO X Z lo tl) (hu : PDO X Z hi th) : PD X Z (.Subscript e (.Slice lo hi none p2) pos) (dSl te tl th) := fun W tk => by
  refine PE.imp (pe_slice (sld (Z := Z)) (he W tk) (hl W tk) (hu W tk)) fun σ H Q h => ?_
  obtain ⟨p, S, Q0, E0, R, q, k, kE⟩ := h
  refine ⟨p, S, _, E0, R, q, fun x S1 v H1 e1 st1 dv1 q1 => ?_, kE⟩
  refine ⟨p, S1, _, E0, R.go e1 st1, q1, fun lo S2 H2 e2 st2 q2 => ?_, fun c S2 dd H2 e2 => kE c S2 dd H2 (e1.trans e2)⟩
  refine ⟨p, S2, _, E0, R.go (e1.trans e2) st2, q2, fun hi S3 H3 e3 st3 q3 => ?_, fun c S2 dd H2 e3 => kE c S2 dd H2 ((e1.trans e2).trans e3)⟩
  exact ⟨x, S3, _, st3, dv1.mono (e2.trans e3).evo, q3, fun d S' v' H' e' => k d S' v' H' (((e1.trans e2).trans e3).trans e')⟩
end

/-! ### what a def promises by data -/
abbrev SpD := List D → DS → QD → XD → Prop
def liftSp (K : PySem.W.Frag) (Z : Zt) (sp : SpD) : Sp := fun vs H Q E => ∃ ds S Q0 E0, ST K Z S H ∧ DVs K H ds vs ∧ sp ds S Q0 E0 ∧
  (∀ d S' v H', Go H S H' S' → ST K Z S' H' → DV K H' d v → Q0 d S' → Q v H') ∧ ∀ c S' dd H', Go H S H' S' → ST K Z S' H' → E0 c S' → E (Z.ex c) dd H'
/-- a def: its promise, how many parameters, the defaults of the last ones, its level -/
structure Ent where
  sp : SpD
  ar : Nat
  dfl : List D
  lv : Nat
  la : Option Nat := none
/-- the def at f keeps the promise, by level L -/
structure FnD (P : Program) (w : World) (K : PySem.W.Frag) (mg : Str → Option Value) (base : Heap) (Z : Zt) (L : Nat) (f : Addr) (e : Ent) : Prop where
  ok : ∃ (fd : FuncData) (ps : List Str), FnOk P w K mg base (L2.CX P w) L f fd ps (liftSp K Z e.sp) ∧ ps.length = e.ar ∧
    ∀ m, m ≤ e.dfl.length → ∃ (dvs : List V) (ds : List Value), Binds K fd ps ds ∧ Vals dvs ds ∧ ∀ H, DVs K H (e.dfl.drop m) dvs
theorem FnD.mono {P : Program} {w : World} {K : PySem.W.Frag} {mg : Str → Option Value} {base : Heap} {Z : Zt} {L L' : Nat} {f : Addr} {e : Ent} (h : FnD P w K mg base Z L f e) (l : L ≤ L') : FnD P w K mg base Z L' f e :=
  let ⟨fd, ps, a, b, c⟩ := h.ok
  ⟨fd, ps, a.mono l, b, c⟩
/-- the program's names by numbers -/
structure Tx where
  gn : Nat → Option Str
  cn : Nat → Option Str
  fl : Nat → Nat → Bool
  mt : Nat → Nat → Option Nat
  it : Nat → Option Nat
  va : Nat → Option (Str × D)
  bl : Nat → Option Str
  xn : Nat → Option Str
  sb : Nat → Nat → Option Bool
/-- no parameter, no name of its own, none captured -/
structure Lam0 (scope : Scope) : Prop where
  kind : scope.kind = .function
  co : scope.isCoroutine = false
  gen : scope.isGenerator = false
  own : ∀ y ∈ scope.names, y.2 ≠ .local ∧ y.2 ≠ .cell ∧ y.2 ≠ .free
abbrev lamEnv0 (q : Str) (scope : Scope) (L f c' : Addr) : Env := PySem.W.envX q scope L f (.ref c') []
/-- the context of such a lambda's body, entered at s from the frames outer -/
def lamCx0 (P : Program) (w : World) (K : PySem.W.Frag) (mg : Str → Option Value) (base : Heap) (A : Around) (outer : List Env) (s : Shared) (H : Hp) (E : XK) (q : Str) (scope : Scope) (f c' : Addr) : Cx where
  prog := P
  w := w
  K := K
  mg := mg
  base := base
  A := A.deeper (lamEnv0 q scope s.heap.objs.size f c')
  N := []
  s_0 := s
  H_0 := H
  env := lamEnv0 q scope s.heap.objs.size f c'
  outer := outer
  stack := lamEnv0 q scope s.heap.objs.size f c' :: outer
  ex := []
  fn := fun _ => false
  calm := true
  pn := []
  xe := fun e s' => wpAny (model P w) (A.deeper (lamEnv0 q scope s.heap.objs.size f c')) (leaving (lamEnv0 q scope s.heap.objs.size f c') e) (fun _ s'' => L2.CX P w outer H s E e s'') (fun e' s'' => L2.CX P w outer H s E e' s'') s'
/-- what calling the lambda does, by level L -/
structure LamOk (P : Program) (w : World) (K : PySem.W.Frag) (mg : Str → Option Value) (base : Heap) (Z : Zt) (L : Nat) (l : LamR) (sp : SpD) : Prop where
  sc : Lam0 l.scope
  bind : ∀ pm cv ctv : Value, bindArgs (PySem.W.kla_fn "<lambda>" l.q l.params l.body l.scope [] pm cv ctv) ⟨[], []⟩ = pure []
  body : ∃ t : TD, (∀ (A : Around) (outer : List Env) (s : Shared) (H : Hp) (E : XK) (f c' : Addr), Room L (A.deeper (lamEnv0 l.q l.scope s.heap.objs.size f c')) → PD (lamCx0 P w K mg base A outer s H E l.q l.scope f c') Z l.body t) ∧ ∀ S (Q : QD) (E : XD), sp [] S Q E → t [] S (fun d S' => ∃ S0, Sub S0 S' ∧ Q d S0) (fun c S' => ∃ S0, Sub S0 S' ∧ E c S0)
/-- an error's class as the top has made it -/
structure ExcOk (K : PySem.W.Frag) (mg : Str → Option Value) (x : Str) (u : Value) : Prop where
  ok : ∃ (C : Addr) (bmB : List Value) (B newId initId : String), u = .ref C ∧ mg x = some (.ref C) ∧ ExcBaseFacts B newId initId bmB ∧ PySem.W.excIn K C bmB newId = true ∧ PySem.W.keepIn K (.ref C) = true ∧
    PySem.W.subIn K (.ref C) (.type "BaseException") = some true ∧ PySem.W.typeIn K (.ref C) = some (.type "type")
/-- the top's facts, and the promises that are shown so far -/
structure TxOk (P : Program) (w : World) (K : PySem.W.Frag) (mg : Str → Option Value) (base : Heap) (Z : Zt) (tx : Tx) (M : List Ent) : Prop where
  fn : ∀ i x e, tx.gn i = some x → M[i]? = some e → e.la = none → ∃ f, mg x = some (.ref f) ∧ PySem.W.keepIn K (.ref f) = true ∧ FnD P w K mg base Z e.lv f e
  mt : ∀ c m i e, tx.mt c m = some i → M[i]? = some e → e.la = none → ∃ f, Cls K (Z.cm c) ∧ Meth K (Z.cm c) (Z.fn m) f ∧ FnD P w K mg base Z e.lv f e
  it : ∀ c x i e, tx.cn c = some x → tx.it c = some i → M[i]? = some e → e.la = none → ∃ f, mg x = some (.ref (Z.cm c)) ∧ Mk K (Z.cm c) f ∧ FnD P w K mg base Z e.lv f e
  fl : ∀ c i, tx.fl c i = true → Cls K (Z.cm c) ∧ NoAttr K (Z.cm c) (Z.fn i)
  va : ∀ i x d, tx.va i = some (x, d) → ∃ u v, mg x = some u ∧ RelV v u ∧ ∀ H, DV K H d v
  bl : ∀ i x, tx.bl i = some x → mg x = none
  xn : ∀ i x, tx.xn i = some x → ExcOk K mg x (Z.ex i)
  lm : ∀ (j i : Nat) (e : Ent), M[i]? = some e → e.la = some j → ∃ l, Z.lm j = some l ∧ LamOk P w K mg base Z e.lv l e.sp
  sb : ∀ i j b, tx.sb i j = some b → PySem.W.exmOne K (Z.ex i) (Z.ex j) = some b
end G

set_option Elab.async false
set_option linter.all false
set_option maxRecDepth 100000
set_option maxHeartbeats 4000000
/-! GE: calls of defs, methods, classes; fields; constants; built-ins by data. -/
namespace G
open PySem PySem.Spec PyProof.Rows L2
section
variable {X : Cx} {Z : Zt} {tx : Tx} {M : List Ent} {L : Nat} {a b e o : Expr} {es : List Expr} {ta tb te to : TD} {t : TDA} {pos p apos : Pos} {x m : Str}
/-! ### calls of defs -/
/-- the defaults that fill up behind n written arguments -/
def fill (e : Ent) (n : Nat) : List D := e.dfl.drop (n + e.dfl.length - e.ar)
def fits (e : Ent) (n L : Nat) : Prop := e.lv ≤ L ∧ n ≤ e.ar ∧ e.ar ≤ n + e.dfl.length ∧ e.la = none
/-- the i-th def, n arguments: the defaults fill up -/
def dCall (M : List Ent) (L i n : Nat) (ta : TDA) : TD := fun r S Q E => ∃ e, M[i]? = some e ∧ fits e n L ∧ ta r S (fun ds S1 => e.sp (ds ++ fill e n) S1 Q E) E
theorem liftSp_of {K : PySem.W.Frag} {W : WX} {σ : L2.St} {r : Env_} {S S1 : DS} {H H1 : Hp} {Q0 : QD} {E0 : XD} {Q : VK} {sp : SpD} {ds es : List D} {vs ws : List V} (e1 : Go H S H1 S1) (st : ST K Z S1 H1) (dv : DVs K H1 ds vs) (dw : DVs K H1 es ws) (h : sp (ds ++ es) S1 Q0 E0)
    (k : ∀ d S' v H', Go H S H' S' → ST K Z S' H' → DV K H' d v → Q0 d S' → Q v H') (kE : ∀ c S' dd H', Go H S H' S' → ST K Z S' H' → E0 c S' → W (Z.ex c) dd σ H') : liftSp K Z sp (vs ++ ws) H1 Q (WE W σ) :=
  ⟨_, S1, Q0, E0, st, dv.append dw, h, fun d S' v H' e => k d S' v H' (e1.trans e), fun c S' dd H' e => kE c S' dd H' (e1.trans e)⟩
theorem fill_ok {e : Ent} {n L : Nat} (h : fits e n L) : n + e.dfl.length - e.ar ≤ e.dfl.length := by
  obtain ⟨_, h1, h2, _⟩ := h
  omega
theorem pd_call (hM : TxOk X.prog X.w X.K X.mg X.base Z tx M) (hr : Room L X.A) (i : Nat) (n : Nat) (hN : tx.gn i = some x) (hg : Gl X x) (ha : PDA X Z (e :: es) t)
    (hdb : (x == ("__debug__" : Str)) = false := by decide) (he : starEach (e :: es) X.env = (false, eval e X.env) :: starEach es X.env := by rfl) (hpl : (backTo pos (starEach es X.env)).any (·.1) = false := by rfl) :
    PD X Z (.Call (.Name x p) (e :: es) [] pos) (dCall M L i n t) := fun W tk => by
  refine ⟨fun pins s σ H Q I h => ?_⟩
  obtain ⟨r, S, Q0, E0, R, ⟨en, hi, hf, q⟩, k, kE⟩ := h
  obtain ⟨f, hm, hk, F⟩ := hM.fn i x en hN hi hf.2.2.2
  obtain ⟨fd, ps, F, hl, hb⟩ := F.ok
  obtain ⟨dvs, ds, hb, hd, hv⟩ := hb _ (fill_ok hf)
  refine (pe_callSD (E := WE W) F (hr.mono hf.1) hg hm hk hb hd (fun σ => passAt tk σ) (ha W tk) hdb he hpl).run pins s σ H Q I ?_
  exact ⟨r, S, _, E0, R, q, fun ds S1 vs H1 e1 st1 dv1 q1 => liftSp_of (r := r) e1 st1 dv1 (hv H1) q1 k kE, kE⟩
theorem pd_call0 (hM : TxOk X.prog X.w X.K X.mg X.base Z tx M) (hr : Room L X.A) (i : Nat) (hN : tx.gn i = some x) (hg : Gl X x) (hdb : (x == ("__debug__" : Str)) = false := by decide) :
    PD X Z (.Call (.Name x p) [] [] pos) (dCall M L i 0 dNil) := fun W tk => by
  refine ⟨fun pins s σ H Q I h => ?_⟩
  obtain ⟨r, S, Q0, E0, R, ⟨en, hi, hf, q⟩, k, kE⟩ := h
  obtain ⟨f, hm, hk, F⟩ := hM.fn i x en hN hi hf.2.2.2
  obtain ⟨fd, ps, F, hl, hb⟩ := F.ok
  obtain ⟨dvs, ds, hb, hd, hv⟩ := hb _ (fill_ok hf)
  refine wpAny_Call_Name_kw (ld_glob I hg hm ?_ hdb)
  refine PySem.W.callWith_K0 I.kIn hk (run_fnSD (vs := []) (us := []) (E := WE W) F (hr.mono hf.1) hb hd (passAt tk σ) I .nil ?_)
  exact liftSp_of (r := r) (ds := []) (Go.r) R.st (dvs_nil.mpr rfl) (hv H) q k kE

/-! ### methods of own classes -/
def dMeth (tx : Tx) (M : List Ent) (L m n : Nat) (to : TD) (ta : TDA) : TD := fun r S Q E => to r S (fun x S1 => ∃ a c fs i e, x = .ref a ∧ S1 a = some (.ins c fs) ∧ tx.mt c m = some i ∧ M[i]? = some e ∧ fits e (n + 1) L ∧ lk fs m = none ∧
  ta r S1 (fun ds S2 => e.sp (.ref a :: ds ++ fill e (n + 1)) S2 Q E) E) E
theorem fv_none {K : PySem.W.Frag} {H : Hp} {fs : List (Nat × D)} {vs : List (Str × V)} {m : Nat} (h : FV K Z H fs vs) (e : lk fs m = none) : vs.lookup (Z.fn m) = none := h.2.2 _ fun i d q z => by
  rw [Z.inj i m z, e] at q
  cases q
theorem pd_meth {pl : Sem Bool} (hM : TxOk X.prog X.w X.K X.mg X.base Z tx M) (hr : Room L X.A) (mi n : Nat) (hm : Z.fn mi = m) (ho : PD X Z o to) (ha : PDA X Z (e :: es) t)
    (hst : starEach (e :: es) X.env = (false, eval e X.env) :: starEach es X.env := by rfl) (hpl : (backTo pos (starEach es X.env)).any (·.1) = false := by rfl)
    (ht : eval (.Call (.Attribute o m apos) (e :: es) [] pos) X.env = (do
      let ov ← eval o X.env
      standAt apos.atName
      let (f, first) ← holding [ov] (getMethod ov m pl)
      callWith pos f first (backTo pos (starEach (e :: es) X.env)) (backToKw pos (keywordEach [] X.env))) := by rfl) :
    PD X Z (.Call (.Attribute o m apos) (e :: es) [] pos) (dMeth tx M L mi n to t) := fun W tk => by
  refine ⟨fun pins s σ H Q I h => ?_⟩
  subst hm
  obtain ⟨r, S, Q0, E0, R, q, k, kE⟩ := h
  refine PySem.W.methodCall_KW (pl := pl) (thn ((ho W tk).run pins s σ H (fun v H1 => ∃ x S1, Go H S H1 S1 ∧ ST X.K Z S1 H1 ∧ DV X.K H1 x v ∧ ∃ a c fs i e, x = .ref a ∧ S1 a = some (.ins c fs) ∧ tx.mt c mi = some i ∧ M[i]? = some e ∧ fits e (n + 1) L ∧ lk fs mi = none ∧
    t r S1 (fun ds S2 => e.sp (.ref a :: ds ++ fill e (n + 1)) S2 Q0 E0) E0) I ⟨r, S, _, E0, R, q, fun x S1 v H1 e1 st1 dv1 q1 => ⟨x, S1, e1, st1, dv1, q1⟩, kE⟩) fun u s1 ⟨v, H1, I1, rx, x, S1, e1, st1, dv1, a, c, fs, i, en, ex, sa, hmt, hi, hf, hl, q1⟩ => ?_) ht
  subst ex
  rw [dv_ref.mp dv1] at rx
  obtain rfl : u = Value.ref a := rx
  obtain ⟨dx, vs, ha', fv⟩ := st1.sr a _ sa
  obtain ⟨f, hc, hmm, F⟩ := hM.mt c mi i en hmt hi hf.2.2.2
  obtain ⟨fd, ps, F, hlen, hb⟩ := F.ok
  obtain ⟨dvs, dsv, hb, hd, hv⟩ := hb _ (fill_ok hf)
  refine getmeth_ok I1 ha' hc hmm (fv_none fv hl) ?_
  refine PySem.W.callWith_K (first := [.ref a]) (h₀ := X.base) I.ok.mod.kin hmm.kp (thn ((ha W tk).run pos pins s1 σ H1 (fun vs H2 => liftSp X.K Z en.sp ((.ref a :: vs) ++ dvs) H2 Q (WE W σ)) I1 ⟨r, S1, _, E0, R.go e1 st1, q1, fun ds S2 vs H2 e2 st2 dv2 q2 => ?_, fun c S' dd H' e2 => kE c S' dd H' (e1.trans e2)⟩) fun us s2 ⟨vs2, H2, I2, rr, q2⟩ => ⟨I2.kIn, ?_⟩) hst hpl
  · exact liftSp_of (r := r) (ds := .ref a :: ds) (vs := .ref a :: vs) (e1.trans e2) st2 (DVs.cons (dv_ref.mpr rfl) dv2) (hv H2) q2 k kE
  · exact run_fnSD (us := .ref a :: us) (vs := .ref a :: vs2) (E := WE W) F (hr.mono hf.1) hb hd (passAt tk σ) I2 (.cons rfl rr) q2
theorem pd_meth0 {pl : Sem Bool} (hM : TxOk X.prog X.w X.K X.mg X.base Z tx M) (hr : Room L X.A) (mi : Nat) (hm : Z.fn mi = m) (ho : PD X Z o to)
    (ht : eval (.Call (.Attribute o m apos) [] [] pos) X.env = (do
      let ov ← eval o X.env
      standAt apos.atName
      let (f, first) ← holding [ov] (getMethod ov m pl)
      callWith pos f first (backTo pos (starEach [] X.env)) (backToKw pos (keywordEach [] X.env))) := by rfl) :
    PD X Z (.Call (.Attribute o m apos) [] [] pos) (dMeth tx M L mi 0 to dNil) := fun W tk => by
  refine ⟨fun pins s σ H Q I h => ?_⟩
  subst hm
  obtain ⟨r, S, Q0, E0, R, q, k, kE⟩ := h
  refine PySem.W.methodCall_KW (pl := pl) (thn ((ho W tk).run pins s σ H (fun v H1 => ∃ x S1, Go H S H1 S1 ∧ ST X.K Z S1 H1 ∧ DV X.K H1 x v ∧ ∃ a c fs i e, x = .ref a ∧ S1 a = some (.ins c fs) ∧ tx.mt c mi = some i ∧ M[i]? = some e ∧ fits e (0 + 1) L ∧ lk fs mi = none ∧
    e.sp (D.ref a :: [] ++ fill e (0 + 1)) S1 Q0 E0) I ⟨r, S, _, E0, R, q, fun x S1 v H1 e1 st1 dv1 q1 => ⟨x, S1, e1, st1, dv1, q1⟩, kE⟩) fun u s1 ⟨v, H1, I1, rx, x, S1, e1, st1, dv1, a, c, fs, i, en, ex, sa, hmt, hi, hf, hl, q1⟩ => ?_) ht
  subst ex
  rw [dv_ref.mp dv1] at rx
  obtain rfl : u = Value.ref a := rx
  obtain ⟨dx, vs, ha', fv⟩ := st1.sr a _ sa
  obtain ⟨f, hc, hmm, F⟩ := hM.mt c mi i en hmt hi hf.2.2.2
  obtain ⟨fd, ps, F, hlen, hb⟩ := F.ok
  obtain ⟨dvs, dsv, hb, hd, hv⟩ := hb _ (fill_ok hf)
  refine getmeth_ok I1 ha' hc hmm (fv_none fv hl) ?_
  refine PySem.W.callWith_K0 (first := [.ref a]) I1.kIn hmm.kp (run_fnSD (us := [.ref a]) (vs := [.ref a]) (E := WE W) F (hr.mono hf.1) hb hd (passAt tk σ) I1 (.cons rfl .nil) ?_)
  exact liftSp_of (r := r) (ds := [.ref a]) (vs := [.ref a]) e1 st1 (DVs.cons (dv_ref.mpr rfl) (dvs_nil.mpr rfl)) (hv H1) q1 k kE

/-! ### classes -/
def dMake (tx : Tx) (M : List Ent) (L c n : Nat) (ta : TDA) : TD := fun r S Q E => ∃ i e, tx.it c = some i ∧ M[i]? = some e ∧ fits e (n + 1) L ∧
  ta r S (fun ds S1 => ∀ a, S1 a = none → e.sp (.ref a :: ds ++ fill e (n + 1)) (put S1 a (.ins c [])) (fun d S2 => d = .non ∧ Q (.ref a) S2) E) E
theorem run_makeS {CX : CXT} {f C : Addr} {fd : FuncData} {ps : List Str} {sp : Sp} {dvs : List V} {ds : List Value} {k : Nat} {E : L2.St → XK} {pins : List (Addr × Obj)} {σ : L2.St} {H : Hp} {s : Shared} {Q : VK} {us : List Value} {vs : List V} (M : Mk X.K C f) (F : FnOk X.prog X.w X.K X.mg X.base CX k f fd ps sp) (hr : Room (k + 1) X.A) (hb : Binds X.K fd ps ds) (hd : Vals dvs ds)
    (hx : PassesAt CX X σ (E σ)) (I : Inv X pins σ H s) (r : Vals vs us)
    (h : ∀ x dx, H x = none → H dx = none → dx ≠ x → sp (.ref x :: (vs ++ dvs)) (upd (upd H dx (.own x)) x (.ins C dx [])) (fun v H2 => v = .non ∧ Q (.ref x) H2) (E σ)) :
    wpAny (model X.prog X.w) X.A (call (.ref C) us) (EP X pins σ Q) X.xe s := by
  have hq := h (s.heap.objs.size + 1) s.heap.objs.size (I.hok.fresh (Nat.le_succ _)) (I.hok.fresh (Nat.le_refl _)) (Nat.ne_of_lt (Nat.lt_succ_self _))
  have I2 := Inv.made (C := C) I
  have r2 : Vals (V.ref (s.heap.objs.size + 1) :: (vs ++ dvs)) (Value.ref (s.heap.objs.size + 1) :: (us ++ ds)) := .cons rfl (r.append hd)
  have hl : (Value.ref (s.heap.objs.size + 1) :: us ++ ds).length = ps.length := by
    have e := r2.length
    rw [F.len _ _ _ _ hq] at e
    exact e.symm
  refine wpAny_call (make_map (f := f) I.kIn M.makes M.init (beq_iff_eq.mp M.fn) (codeAny_mono (F.run _ X.stack _ _ ⟨Value.ref (s.heap.objs.size + 1) :: us, []⟩ (Value.ref (s.heap.objs.size + 1) :: (us ++ ds)) _ _ (E σ) (hr.make C us [])
    (I2.env0.make C us []) (hb _ (Value.ref (s.heap.objs.size + 1) :: us) I2.kIn hl) r2 hq) fun r s' hq' => ?_))
  cases r with
  | error e => exact hx pins _ _ e s' I2 hq'
  | ok fl =>
    cases fl with
    | ret u =>
      obtain ⟨v, H', I3, rv, ev, q3⟩ := I2.after hq'
      subst ev
      exact ⟨rv, ⟨V.ref (s.heap.objs.size + 1), H', I3, rfl, q3⟩⟩
    | next => exact False.elim hq'
    | brk => exact False.elim hq'
    | cont => exact False.elim hq'
theorem make_st {K : PySem.W.Frag} {H : Hp} {S : DS} {c : Nat} {a dx : Addr} (st : ST K Z S H) (ha : H a = none) (hdx : H dx = none) (ne : dx ≠ a) :
    Go H S (upd (upd H dx (.own a)) a (.ins (Z.cm c) dx [])) (put S a (.ins c [])) ∧ ST K Z (put S a (.ins c [])) (upd (upd H dx (.own a)) a (.ins (Z.cm c) dx [])) := by
  have h1 : upd H dx (.own a) a = none := by rw [upd_ne ne.symm]; exact ha
  refine ⟨(Go.new hdx).trans (Go.made h1), (st.new hdx).made h1 (o := .ins c []) ⟨dx, [], upd_same, Nat.zero_le _, fun i d q => (nomatch (show (none : Option D) = some d from q)), fun _ _ => rfl⟩⟩
theorem pd_make (hM : TxOk X.prog X.w X.K X.mg X.base Z tx M) (hr : Room (L + 1) X.A) (c n : Nat) (hN : tx.cn c = some x) (hg : Gl X x) (ha : PDA X Z (e :: es) t)
    (hdb : (x == ("__debug__" : Str)) = false := by decide) (he : starEach (e :: es) X.env = (false, eval e X.env) :: starEach es X.env := by rfl) (hpl : (backTo pos (starEach es X.env)).any (·.1) = false := by rfl) :
    PD X Z (.Call (.Name x p) (e :: es) [] pos) (dMake tx M L c n t) := fun W tk => by
  refine ⟨fun pins s σ H Q I h => ?_⟩
  obtain ⟨r, S, Q0, E0, R, ⟨i, en, hit, hi, hf, q⟩, k, kE⟩ := h
  obtain ⟨f, hm, mk, F⟩ := hM.it c x i en hN hit hi hf.2.2.2
  obtain ⟨fd, ps, F, hlen, hb⟩ := F.ok
  obtain ⟨dvs, dsv, hb, hd, hv⟩ := hb _ (fill_ok hf)
  refine wpAny_Call_Name_kw (ld_glob I hg hm ?_ hdb)
  refine PySem.W.callWith_K (h₀ := X.base) I.ok.mod.kin mk.kp (thn ((ha W tk).run pos pins s σ H (fun vs H1 => ∃ ds S1, Go H S H1 S1 ∧ ST X.K Z S1 H1 ∧ DVs X.K H1 ds vs ∧ ∀ a, S1 a = none → en.sp (.ref a :: ds ++ fill en (n + 1)) (put S1 a (.ins c [])) (fun d S2 => d = .non ∧ Q0 (.ref a) S2) E0) I
    ⟨r, S, _, E0, R, q, fun ds S1 vs H1 e1 st1 dv1 q1 => ⟨ds, S1, e1, st1, dv1, q1⟩, kE⟩) fun us s1 ⟨vs, H1, I1, rr, ds, S1, e1, st1, dv1, q1⟩ => ⟨I1.kIn, ?_⟩) he hpl
  refine run_makeS (E := WE W) mk (F.mono hf.1) hr hb hd (passAt tk σ) I1 rr fun a dx hna hndx hne => ?_
  obtain ⟨g1, st2⟩ := make_st (c := c) st1 hna hndx hne
  exact liftSp_of (r := r) (W := W) (σ := σ) (ds := .ref a :: ds) (vs := .ref a :: vs) (e1.trans g1) st2 (DVs.cons (dv_ref.mpr rfl) (dv1.mono g1.evo)) (hv _) (q1 a (st1.free hna))
    (fun d S' v H' g st dv q2 => ⟨by rw [q2.1] at dv; exact dv_non.mp dv, k _ S' _ H' g st (dv_ref.mpr rfl) q2.2⟩) kE
theorem pd_make0 (hM : TxOk X.prog X.w X.K X.mg X.base Z tx M) (hr : Room (L + 1) X.A) (c : Nat) (hN : tx.cn c = some x) (hg : Gl X x) (hdb : (x == ("__debug__" : Str)) = false := by decide) :
    PD X Z (.Call (.Name x p) [] [] pos) (dMake tx M L c 0 dNil) := fun W tk => by
  refine ⟨fun pins s σ H Q I h => ?_⟩
  obtain ⟨r, S, Q0, E0, R, ⟨i, en, hit, hi, hf, q⟩, k, kE⟩ := h
  obtain ⟨f, hm, mk, F⟩ := hM.it c x i en hN hit hi hf.2.2.2
  obtain ⟨fd, ps, F, hlen, hb⟩ := F.ok
  obtain ⟨dvs, dsv, hb, hd, hv⟩ := hb _ (fill_ok hf)
  refine wpAny_Call_Name_kw (ld_glob I hg hm ?_ hdb)
  refine PySem.W.callWith_K0 I.kIn mk.kp (run_makeS (us := []) (vs := []) (E := WE W) mk (F.mono hf.1) hr hb hd (passAt tk σ) I .nil fun a dx hna hndx hne => ?_)
  obtain ⟨g1, st2⟩ := make_st (c := c) R.st hna hndx hne
  exact liftSp_of (r := r) (W := W) (σ := σ) (ds := [.ref a]) (vs := [.ref a]) g1 st2 (DVs.cons (dv_ref.mpr rfl) (dvs_nil.mpr rfl)) (hv _) (q a (R.st.free hna))
    (fun d S' v H' g st dv q2 => ⟨by rw [q2.1] at dv; exact dv_non.mp dv, k _ S' _ H' g st (dv_ref.mpr rfl) q2.2⟩) kE

/-! ### fields, constants -/
def dFld (tx : Tx) (f : Nat) (to : TD) : TD := fun r S Q E => to r S (fun x S1 => ∃ a c fs d, x = .ref a ∧ S1 a = some (.ins c fs) ∧ tx.fl c f = true ∧ lk fs f = some d ∧ Q d S1) E
theorem pd_fld (hM : TxOk X.prog X.w X.K X.mg X.base Z tx M) (f : Nat) (hf : Z.fn f = m) (ho : PD X Z o to) (hb : attributeBase o m X.env (eval o X.env) = eval o X.env := by rfl) : PD X Z (.Attribute o m pos) (dFld tx f to) := fun W tk => by
  subst hf
  refine PE.imp (pe_fld (ho W tk) hb) fun σ H Q h => ?_
  obtain ⟨r, S, Q0, E0, R, q, k, kE⟩ := h
  refine ⟨r, S, _, E0, R, q, fun x S1 v H1 e1 st1 dv1 q1 => ?_, kE⟩
  obtain ⟨a, c, fs, d, ex, sa, hfl, hl, q2⟩ := q1
  subst ex
  obtain ⟨dx, vs, ha, fv⟩ := st1.sr a _ sa
  obtain ⟨hc, hn⟩ := hM.fl c f hfl
  obtain ⟨v', h1, h2⟩ := fv.2.1 f d hl
  exact ⟨a, Z.cm c, dx, vs, v', dv_ref.mp dv1, ha, hc, hn, h1, k d S1 v' H1 e1 st1 h2 q2⟩
theorem pd_glob (hM : TxOk X.prog X.w X.K X.mg X.base Z tx M) (i : Nat) {d : D} (hv : tx.va i = some (x, d)) (hg : Gl X x) (hdb : (x == ("__debug__" : Str)) = false := by decide) : PD X Z (.Name x pos) (dC d) := by
  obtain ⟨u, v, h1, h2, h3⟩ := hM.va i x d hv
  exact pd_c (pe_glob hg h1 h2 hdb) h3

/-! ### built-ins by data -/
abbrev RDC := List D → DS → QD → Prop
def liftC (K : PySem.W.Frag) (Z : Zt) (r : RDC) : List V → Hp → VK → Prop := fun vs H Q => ∃ ds S Q0, ST K Z S H ∧ DVs K H ds vs ∧ r ds S Q0 ∧ ∀ d S' v H', Go H S H' S' → ST K Z S' H' → DV K H' d v → Q0 d S' → Q v H'
def CallD (X : Cx) (Z : Zt) (f : Value) (r : RDC) : Prop := CallR X f (liftC X.K Z r)
def dBi (r : RDC) (ta : TDA) : TD := fun p S Q E => ta p S (fun ds S1 => r ds S1 Q) E
theorem lift_bi {K : PySem.W.Frag} {W : WX} {r : RDC} {σ : L2.St} {H : Hp} {Q : VK} (h : lift K Z W (dBi r t) σ H Q) : tCB (liftC K Z r) (liftA K Z W t) σ H Q := by
  obtain ⟨p, S, Q0, E0, R, q, k, kE⟩ := h
  exact ⟨p, S, _, E0, R, q, fun ds S1 vs H1 e1 st1 dv1 q1 => ⟨ds, S1, Q0, st1, dv1, q1, fun d S' v H' e => k d S' v H' (e1.trans e)⟩, kE⟩
theorem pd_bi {r : RDC} {id : String} (hM : TxOk X.prog X.w X.K X.mg X.base Z tx M) (hc : CallD X Z (.builtin id) r) (i : Nat) (hN : tx.bl i = some x) (hg : Gl X x) (hv : bootBuiltins x = some (.builtin id)) (ha : PDA X Z (e :: es) t)
    (hn : x ≠ "__name__" := by decide) (hdb : (x == ("__debug__" : Str)) = false := by decide) (he : starEach (e :: es) X.env = (false, eval e X.env) :: starEach es X.env := by rfl) (hpl : (backTo pos (starEach es X.env)).any (·.1) = false := by rfl) :
    PD X Z (.Call (.Name x p) (e :: es) [] pos) (dBi r t) := fun W tk =>
  PE.imp (pe_callB hc hg (hM.bl i x hN) hv (ha W tk) hn hdb he hpl) fun _ _ _ h => lift_bi h
theorem pd_ty {r : RDC} {T : String} (hM : TxOk X.prog X.w X.K X.mg X.base Z tx M) (hc : CallD X Z (.type T) r) (i : Nat) (hN : tx.bl i = some x) (hg : Gl X x) (hv : bootBuiltins x = some (.type T)) (ha : PDA X Z (e :: es) t)
    (hn : x ≠ "__name__" := by decide) (hdb : (x == ("__debug__" : Str)) = false := by decide) (he : starEach (e :: es) X.env = (false, eval e X.env) :: starEach es X.env := by rfl) (hpl : (backTo pos (starEach es X.env)).any (·.1) = false := by rfl) :
    PD X Z (.Call (.Name x p) (e :: es) [] pos) (dBi r t) := fun W tk =>
  PE.imp (pe_callTy hc hg (hM.bl i x hN) hv (ha W tk) hn hdb he hpl) fun _ _ _ h => lift_bi h
end
end G

set_option Elab.async false
set_option linter.all false
set_option maxRecDepth 100000
set_option maxHeartbeats 4000000
/-! GF: statements, targets, loops, comprehensions, errors. -/
namespace G
open PySem PySem.Spec PyProof.Rows L2
/-- what is wanted behind a statement -/
structure EndsD where
  nx : Env_ → DS → Prop
  rt : QD
  bk : Env_ → DS → Prop := fun _ _ => False
  ct : Env_ → DS → Prop := fun _ _ => False
  ex : Nat → Env_ → DS → Prop := fun _ _ _ => False
abbrev TDS := EndsD → Env_ → DS → Prop
section
variable (K : PySem.W.Frag) (Z : Zt) (W : WX)
structure Meant (r : Env_) (S : DS) (σ : L2.St) (H : Hp) (D0 : EndsD) (D : Ends) : Prop where
  nx : ∀ r' S' σ' H', Go H S H' S' → Rel K Z r' S' σ' H' → D0.nx r' S' → D.nx σ' H'
  rt : ∀ d S' v H', Go H S H' S' → ST K Z S' H' → DV K H' d v → D0.rt d S' → D.rt v H'
  bk : ∀ r' S' σ' H', Go H S H' S' → Rel K Z r' S' σ' H' → D0.bk r' S' → D.bk σ' H'
  ct : ∀ r' S' σ' H', Go H S H' S' → Rel K Z r' S' σ' H' → D0.ct r' S' → D.ct σ' H'
  ex : ∀ c r' S' dd σ' H', Go H S H' S' → Rel K Z r' S' σ' H' → D0.ex c r' S' → W (Z.ex c) dd σ' H'
def liftS (t : TDS) : TS := fun D σ H => ∃ r S D0, Rel K Z r S σ H ∧ t D0 r S ∧ Meant K Z W r S σ H D0 D
end
def PDS (X : Cx) (Z : Zt) (st : Stmt) (t : TDS) : Prop := ∀ W, Takes X W → PS X st (liftS X.K Z W t)
def PDSs (X : Cx) (Z : Zt) (st : List Stmt) (t : TDS) : Prop := ∀ W, Takes X W → PSs X st (liftS X.K Z W t)
section
variable {X : Cx} {Z : Zt} {tx : Tx} {M : List Ent} {L : Nat} {a b e o : Expr} {es : List Expr} {te to ti : TD} {t u : TDS} {tc : TDT} {pos pos' : Pos} {x m : Str} {st : Stmt} {rest : List Stmt}
theorem PSs.imp {st : List Stmt} {t t' : TS} (h : PSs X st t) (i : ∀ D σ H, t' D σ H → t D σ H) : PSs X st t' := ⟨fun pins s σ H D I q => h.run pins s σ H D I (i D σ H q)⟩
/-- later ends from earlier ones -/
theorem Meant.go {K : PySem.W.Frag} {W : WX} {r r' : Env_} {S S' : DS} {σ σ' : L2.St} {H H' : Hp} {D0 : EndsD} {D : Ends} (h : Meant K Z W r S σ H D0 D) (g : Go H S H' S') : Meant K Z W r' S' σ' H' D0 D :=
  ⟨fun r2 S2 σ2 H2 e => h.nx r2 S2 σ2 H2 (g.trans e), fun d S2 v H2 e => h.rt d S2 v H2 (g.trans e), fun r2 S2 σ2 H2 e => h.bk r2 S2 σ2 H2 (g.trans e), fun r2 S2 σ2 H2 e => h.ct r2 S2 σ2 H2 (g.trans e), fun c r2 S2 dd σ2 H2 e => h.ex c r2 S2 dd σ2 H2 (g.trans e)⟩
theorem Meant.exx {K : PySem.W.Frag} {W : WX} {r : Env_} {S : DS} {σ : L2.St} {H : Hp} {D0 : EndsD} {D : Ends} (h : Meant K Z W r S σ H D0 D) (R : Rel K Z r S σ H) : ∀ c S' dd H', Go H S H' S' → ST K Z S' H' → D0.ex c r S' → W (Z.ex c) dd σ H' :=
  fun c S' dd H' e st q => h.ex c r S' dd σ H' e (R.go e st) q
/-! ### blocks, small statements -/
def dNext : TDS := fun D r S => D.nx r S
def dSeq (t u : TDS) : TDS := fun D r S => t { D with nx := u D } r S
theorem pdss_nil : PDSs X Z [] dNext := fun W tk => PSs.imp pss_nil fun D σ H ⟨r, S, D0, R, q, k⟩ => k.nx r S σ H Go.r R q
theorem pdss_cons (h1 : PDS X Z st t) (h2 : PDSs X Z rest u) : PDSs X Z (st :: rest) (dSeq t u) := fun W tk => by
  refine PSs.imp (pss_cons (h1 W tk) (h2 W tk)) fun D σ H h => ?_
  obtain ⟨r, S, D0, R, q, k⟩ := h
  exact ⟨r, S, _, R, q, ⟨fun r' S' σ' H' e R' q' => ⟨r', S', D0, R', q', k.go e⟩, k.rt, k.bk, k.ct, k.ex⟩⟩
theorem pdss_one (h1 : PDS X Z st t) : PDSs X Z [st] t := fun W tk => pss_one (h1 W tk)
theorem pds_pass : PDS X Z (.Pass pos) dNext := fun W tk => PS.imp ps_pass fun D σ H ⟨r, S, D0, R, q, k⟩ => k.nx r S σ H Go.r R q
def dBreak : TDS := fun D r S => D.bk r S
def dCont : TDS := fun D r S => D.ct r S
theorem pds_break : PDS X Z (.Break pos) dBreak := fun W tk => PS.imp ps_break fun D σ H ⟨r, S, D0, R, q, k⟩ => k.bk r S σ H Go.r R q
theorem pds_continue : PDS X Z (.Continue pos) dCont := fun W tk => PS.imp ps_continue fun D σ H ⟨r, S, D0, R, q, k⟩ => k.ct r S σ H Go.r R q
def dDrop (te : TD) : TDS := fun D r S => te r S (fun _ S1 => D.nx r S1) (fun c S1 => D.ex c r S1)
theorem pds_expr (he : PD X Z e te) (hs : swapsWith e none pos.line X.env = pure false := by rfl) : PDS X Z (.Expr e pos) (dDrop te) := fun W tk => by
  refine PS.imp (ps_expr (he W tk) hs) fun D σ H h => ?_
  obtain ⟨r, S, D0, R, q, k⟩ := h
  exact ⟨r, S, _, _, R, q, fun d S' v H' e st dv q' => k.nx r S' σ H' e (R.go e st) q', k.exx R⟩
def dRet (te : TD) : TDS := fun D r S => te r S D.rt (fun c S1 => D.ex c r S1)
theorem pds_ret (he : PD X Z e te) : PDS X Z (.Return (some e) pos) (dRet te) := fun W tk => by
  refine PS.imp (ps_ret (he W tk)) fun D σ H h => ?_
  obtain ⟨r, S, D0, R, q, k⟩ := h
  exact ⟨r, S, _, _, R, q, k.rt, k.exx R⟩
def dRetN : TDS := fun D _ S => D.rt .non S
theorem pds_retN : PDS X Z (.Return none pos) dRetN := fun W tk => PS.imp ps_retN fun D σ H ⟨r, S, D0, R, q, k⟩ => k.rt .non S .non H Go.r R.st (dv_non.mpr rfl) q
def dIfS (c : TDT) (t u : TDS) : TDS := fun D r S => c r S (fun b S1 => if b = true then t D r S1 else u D r S1) (fun c S1 => D.ex c r S1)
theorem pds_if {c : Expr} {sa sb : List Stmt} (hc : PDT X Z c tc) (ha : PDSs X Z sa t) (hb : PDSs X Z sb u) : PDS X Z (.If c sa sb pos) (dIfS tc t u) := fun W tk => by
  refine PS.imp (ps_if (hc W tk) (ha W tk) (hb W tk)) fun D σ H h => ?_
  obtain ⟨r, S, D0, R, q, k⟩ := h
  refine ⟨r, S, _, _, R, q, fun b S' H' e st q' => ?_, k.exx R⟩
  cases b with
  | true => exact iteT ⟨r, S', D0, R.go e st, (if_pos rfl).mp q', k.go e⟩
  | false => exact iteF ⟨r, S', D0, R.go e st, (if_neg Bool.false_ne_true).mp q', k.go e⟩

/-! ### targets -/
abbrev TDG := D → Env_ → DS → (Env_ → DS → Prop) → XD → Prop
abbrev TDGs := List D → Env_ → DS → (Env_ → DS → Prop) → XD → Prop
/-- slots but those of the list stay -/
def Keep (ts : List Nat) (σ σ' : L2.St) : Prop := σ'.length = σ.length ∧ ∀ j, j ∉ ts → σ'[j]? = σ[j]?
theorem Keep.refl {ts : List Nat} {σ : L2.St} : Keep ts σ σ := ⟨rfl, fun _ _ => rfl⟩
theorem Keep.trans {ts us : List Nat} {σ σ1 σ2 : L2.St} (a : Keep ts σ σ1) (b : Keep us σ1 σ2) : Keep (ts ++ us) σ σ2 :=
  ⟨b.1.trans a.1, fun j hj => (b.2 j fun z => hj (List.mem_append_right _ z)).trans (a.2 j fun z => hj (List.mem_append_left _ z))⟩
def liftG (K : PySem.W.Frag) (Z : Zt) (W : WX) (ts : List Nat) (g : TDG) : TG := fun v σ H Q => ∃ d r S Q0 E0, Rel K Z r S σ H ∧ DV K H d v ∧ g d r S Q0 E0 ∧
  (∀ r' S' σ' H', Go H S H' S' → Rel K Z r' S' σ' H' → Keep ts σ σ' → Q0 r' S' → Q σ' H') ∧ ∀ c S' dd H', Go H S H' S' → ST K Z S' H' → E0 c S' → W (Z.ex c) dd σ H'
def liftGs (K : PySem.W.Frag) (Z : Zt) (W : WX) (ts : List Nat) (g : TDGs) : TGs := fun vs σ H Q => ∃ ds r S Q0 E0, Rel K Z r S σ H ∧ DVs K H ds vs ∧ g ds r S Q0 E0 ∧
  (∀ r' S' σ' H', Go H S H' S' → Rel K Z r' S' σ' H' → Keep ts σ σ' → Q0 r' S' → Q σ' H') ∧ ∀ c S' dd H', Go H S H' S' → ST K Z S' H' → E0 c S' → W (Z.ex c) dd σ H'
def PDG (X : Cx) (Z : Zt) (tg : Expr) (ts : List Nat) (g : TDG) : Prop := ∀ W, Takes X W → PG X tg (liftG X.K Z W ts g)
def PDGs (X : Cx) (Z : Zt) (tg : List Expr) (ts : List Nat) (g : TDGs) : Prop := ∀ W, Takes X W → PGs X tg (liftGs X.K Z W ts g)
theorem PG.imp {tg : Expr} {t t' : TG} (h : PG X tg t) (i : ∀ v σ H Q, t' v σ H Q → t v σ H Q) : PG X tg t' := ⟨fun pins s σ H v u Q I r q => h.run pins s σ H v u Q I r (i v σ H Q q)⟩
theorem PGs.imp {tg : List Expr} {t t' : TGs} (h : PGs X tg t) (i : ∀ v σ H Q, t' v σ H Q → t v σ H Q) : PGs X tg t' := ⟨fun pins s σ H v u Q I r q => h.run pins s σ H v u Q I r (i v σ H Q q)⟩
def gN (i : Nat) : TDG := fun d r S Q _ => Q (r.set i (some d)) S
theorem pdg_name {i : Nat} (hN : X.N.Nodup) (hi : X.N[i]? = some x := by rfl) (hx : Loc X.env.scope x := by first | exact .inl rfl | exact .inr rfl) (hf : X.fn x = true ∨ X.env.scope.names.lookup x = some .local := by first | exact .inl rfl | exact .inr rfl) : PDG X Z (.Name x pos) [i] (gN i) := fun W tk => by
  refine PG.imp (pg_name hN hi hx hf) fun v σ H Q h => ?_
  obtain ⟨d, r, S, Q0, E0, R, dv, q, k, _⟩ := h
  exact k _ S _ H Go.r ⟨R.sl.set i dv, R.st⟩ ⟨List.length_set, fun j hj => List.getElem?_set_ne (fun z => hj (by rw [z]; exact List.mem_singleton.mpr rfl))⟩ q
def gNl : TDGs := fun ds r S Q _ => ds = [] ∧ Q r S
def gCs (g : TDG) (h : TDGs) : TDGs := fun ds r S Q E => match ds with
  | d :: rest => g d r S (fun r' S' => h rest r' S' Q (fun _ _ => False)) (fun _ _ => False)
  | [] => False
theorem pdgs_nil : PDGs X Z [] [] gNl := fun W tk => by
  refine PGs.imp pgs_nil fun v σ H Q h => ?_
  obtain ⟨ds, r, S, Q0, E0, R, dv, q, k, _⟩ := h
  rw [q.1] at dv
  exact ⟨dvs_nil.mp dv, k r S σ H Go.r R Keep.refl q.2⟩
theorem pdgs_cons {ts us : List Nat} {g : TDG} {h : TDGs} (h1 : PDG X Z e ts g) (h2 : PDGs X Z es us h) (hs : (assignEach (e :: es) X.env).map (·.2) = assign e X.env :: (assignEach es X.env).map (·.2) := by rfl) : PDGs X Z (e :: es) (ts ++ us) (gCs g h) := fun W tk => by
  refine PGs.imp (pgs_cons (h1 W tk) (h2 W tk) hs) fun v σ H Q h => ?_
  obtain ⟨ds, r, S, Q0, E0, R, dv, q, k, kE⟩ := h
  cases ds with
  | nil => exact q.elim
  | cons d rest =>
    obtain ⟨v', vr, e1, dv1, dv2⟩ := dvs_cons.mp dv
    refine ⟨v', vr, e1, d, r, S, _, _, R, dv1, q, fun r' S' σ' H' e R' kp q' => ?_, fun _ _ _ _ _ _ z => z.elim⟩
    exact ⟨rest, r', S', _, _, R', dv2.mono e.evo, q', fun r2 S2 σ2 H2 e2 R2 kp2 q2 => k r2 S2 σ2 H2 (e.trans e2) R2 (kp.trans kp2) q2, fun _ _ _ _ _ _ z => z.elim⟩
def gT (n : Nat) (g : TDGs) : TDG := fun d r S Q E => match d with
  | .tup ds => ds.length = n ∧ g ds r S Q E
  | _ => False
theorem pdg_tup {ts : List Nat} {g : TDGs} {k n : Nat} (hc : X.calm = true) (h : PDGs X Z es ts g) (hn : (assignEach es X.env).length = n := by rfl) (hst : (assignEach es X.env).findIdx? (·.1) = none := by rfl) : PDG X Z (.Tuple es k pos) ts (gT n g) := fun W tk => by
  refine PG.imp (pg_tup hc (h W tk) hn hst) fun v σ H Q h => ?_
  obtain ⟨d, r, S, Q0, E0, R, dv, q, k, kE⟩ := h
  cases d with
  | tup ds =>
    obtain ⟨p, vs, e1, h1, d1⟩ := dv_tup.mp dv
    exact ⟨p, vs, e1, h1, by rw [← d1.len]; exact q.1, ds, r, S, Q0, E0, R, d1, q.2, k, kE⟩
  | _ => exact q.elim
/-- o[i] = .. of a list -/
def gIx (to ti : TD) : TDG := fun d r S Q E => to r S (fun x S1 => ti r S1 (fun y S2 => match x, y with
  | .ref a, .int i => ∃ ds j, S2 a = some (.lst ds) ∧ ixN ds.length i = some j ∧ Q r (put S2 a (.lst (ds.set j d)))
  | _, _ => False) E) E
theorem pdg_ix (ho : PD X Z o to) (hi : PD X Z a ti) (ha : ∀ v, assign (.Subscript o a pos) X.env v = (do
      let ov ← holding [v] (eval o X.env)
      let iv ← holding [v, ov] (eval a X.env)
      standAt pos
      holding [v, ov, iv] (setItem ov iv v)
      release [v, ov, iv] []) := by intro _; rfl) : PDG X Z (.Subscript o a pos) [] (gIx to ti) := fun W tk => by
  refine PG.imp (pg_sub (ho W tk) (hi W tk) set_list ha) fun v σ H Q h => ?_
  obtain ⟨d, r, S, Q0, E0, R, dv, q, k, kE⟩ := h
  refine ⟨r, S, _, E0, R, q, fun x S1 ov H1 e1 st1 dv1 q1 => ?_, kE⟩
  refine ⟨r, S1, _, E0, R.go e1 st1, q1, fun y S2 iv H2 e2 st2 dv2 q2 => ?_, fun c S2 dd H2 e2 => kE c S2 dd H2 (e1.trans e2)⟩
  cases x with
  | ref l =>
    cases y with
    | int i =>
      obtain ⟨ds, j, sa, hj, q3⟩ : ∃ ds j, S2 l = some (.lst ds) ∧ ixN ds.length i = some j ∧ Q0 r (put S2 l (.lst (ds.set j d))) := q2
      obtain ⟨vs, h1, d1⟩ := sr_lst st2 sa
      have ev : Evo H2 (upd H2 l (.lst (vs.set j v))) := mut_evo h1 trivial
      refine ⟨l, vs, i, j, (dv_ref.mp (dv1.mono e2.evo)), dv_int.mp dv2, h1, by rw [← d1.len]; exact hj, ?_⟩
      have st3 : ST X.K Z (put S2 l (.lst (ds.set j d))) (upd H2 l (.lst (vs.set j v))) := st2.wrote h1 trivial ⟨_, upd_same, (DVs.set (dv.mono (e1.trans e2).evo) j d1).mono ev⟩
      have g3 := (e1.trans e2).trans (Go.wrote (u' := .lst (ds.set j d)) ev sa)
      exact k r _ σ _ g3 (R.go g3 st3) Keep.refl q3
    | _ => exact q2.elim
  | _ => cases y <;> exact q2.elim
/-- target = e -/
def dAsg (te : TD) (g : TDG) : TDS := fun D r S => te r S (fun d S1 => g d r S1 D.nx (fun c S2 => D.ex c r S2)) (fun c S1 => D.ex c r S1)
theorem lift_asg {K : PySem.W.Frag} {W : WX} {te : TD} {g : TDG} {ts : List Nat} {D : Ends} {σ : L2.St} {H : Hp} (h : liftS K Z W (dAsg te g) D σ H) : tAsg (lift K Z W te) (liftG K Z W ts g) D σ H := by
  obtain ⟨r, S, D0, R, q, k⟩ := h
  refine ⟨r, S, _, _, R, q, fun d S1 v H1 e1 st1 dv1 q1 => ?_, k.exx R⟩
  exact ⟨d, r, S1, _, _, R.go e1 st1, dv1, q1, fun r' S' σ' H' e' R' _ q' => k.nx r' S' σ' H' (e1.trans e') R' q', fun c S' dd H' e' st' q' => k.ex c r S' dd σ H' (e1.trans e') (R.go (e1.trans e') st') q'⟩
theorem pds_asg {tg : Expr} {g : TDG} {ts : List Nat} (he : PD X Z e te) (hg : PDG X Z tg ts g) (hs : swapsWithSole [tg] e pos.line X.env = pure false := by rfl) (hw : swappedStores [tg] e X.env = pure none := by rfl)
    (h1 : (assignEach [tg] X.env).map (·.2) = [assign tg X.env] := by rfl) : PDS X Z (.Assign [tg] e pos) (dAsg te g) := fun W tk =>
  PS.imp (ps_asg (he W tk) (hg W tk) hs hw h1) fun _ _ _ h => lift_asg h
theorem pds_set {i : Nat} (hN : X.N.Nodup) (he : PD X Z e te) (hi : X.N[i]? = some x := by rfl) (hx : Loc X.env.scope x := by first | exact .inl rfl | exact .inr rfl) (hs : swapsWith e (some (.Name x pos')) pos.line X.env = pure false := by rfl) (hf : X.fn x = true ∨ X.env.scope.names.lookup x = some .local := by first | exact .inl rfl | exact .inr rfl) :
    PDS X Z (.Assign [.Name x pos'] e pos) (dAsg te (gN i)) := fun W tk => by
  refine PS.imp (ps_set hN hi hx (he W tk) hs hf) fun D σ H h => ?_
  obtain ⟨r, S, D0, R, q, k⟩ := h
  refine ⟨r, S, _, _, R, q, fun d S1 v H1 e1 st1 dv1 q1 => ?_, k.exx R⟩
  exact k.nx _ S1 _ H1 e1 ⟨(R.sl.mono e1.evo).set i dv1, st1⟩ q1
/-- o.f = e -/
def putD (f : Nat) (d : D) : List (Nat × D) → List (Nat × D)
  | [] => [(f, d)]
  | (g, y) :: r => if g = f then (g, d) :: r else (g, y) :: putD f d r
theorem lk_putD (f i : Nat) (d : D) : ∀ fs : List (Nat × D), lk (putD f d fs) i = if i = f then some d else lk fs i
  | [] => by
    show (if i = f then some d else none) = _
    rfl
  | (g, y) :: r => by
    by_cases h : g = f
    · subst h
      show lk (if g = g then (g, d) :: r else (g, y) :: putD g d r) i = _
      rw [if_pos rfl]
      show (if i = g then some d else lk r i) = if i = g then some d else (if i = g then some y else lk r i)
      split <;> rfl
    · show lk (if g = f then (g, d) :: r else (g, y) :: putD f d r) i = _
      rw [if_neg h]
      show (if i = g then some y else lk (putD f d r) i) = if i = f then some d else (if i = g then some y else lk r i)
      rw [lk_putD f i d r]
      by_cases hg : i = g
      · rw [if_pos hg, if_pos hg, if_neg (fun z => h (hg.symm.trans z))]
      · rw [if_neg hg, if_neg hg]
theorem len_putD (f : Nat) (d : D) : ∀ fs : List (Nat × D), (putD f d fs).length = if (lk fs f).isSome then fs.length else fs.length + 1
  | [] => rfl
  | (g, y) :: r => by
    have ih := len_putD f d r
    by_cases h : g = f
    · subst h
      simp [putD, lk]
    · have h' : ¬ f = g := fun z => h z.symm
      simp only [putD, lk, if_neg h, if_neg h', List.length_cons, ih]
      split <;> rfl
theorem len_putF_has (f : Str) (v : V) : ∀ fs : List (Str × V), (fs.lookup f).isSome → (putF f v fs).length = fs.length
  | [], h => by simp at h
  | (g, y) :: r, h => by
    show (if g = f then (g, v) :: r else (g, y) :: putF f v r).length = r.length + 1
    by_cases hg : g = f
    · rw [if_pos hg]; rfl
    · rw [if_neg hg, List.length_cons, len_putF_has f v r]
      have : (f == g) = false := by simp [Ne.symm hg]
      simpa [List.lookup, this] using h
theorem FV.put {K : PySem.W.Frag} {H : Hp} {fs : List (Nat × D)} {vs : List (Str × V)} {f : Nat} {d : D} {v : V} (h : FV K Z H fs vs) (dv : DV K H d v) : FV K Z H (putD f d fs) (putF (Z.fn f) v vs) := by
  refine ⟨?_, fun i d' q => ?_, fun y hy => ?_⟩
  · rw [len_putD]
    cases e : lk fs f with
    | none =>
      have := length_putF (Z.fn f) v vs
      have := h.1
      simp
      omega
    | some d0 =>
      obtain ⟨v0, h1, _⟩ := h.2.1 f d0 e
      rw [len_putF_has _ _ _ (by rw [h1]; rfl)]
      exact h.1
  · rw [lk_putD] at q
    rw [lookup_putF]
    by_cases hi : i = f
    · rw [if_pos hi] at q
      cases q
      exact ⟨v, by rw [if_pos (by rw [hi])], dv⟩
    · rw [if_neg hi] at q
      rw [if_neg (fun z => hi (Z.inj _ _ z))]
      exact h.2.1 i d' q
  · rw [lookup_putF]
    have hf : Z.fn f ≠ y := hy f d (by rw [lk_putD, if_pos rfl])
    rw [if_neg (fun z => hf z.symm)]
    refine h.2.2 y fun i d' q => ?_
    by_cases hi : i = f
    · rw [hi]; exact hf
    · exact hy i d' (by rw [lk_putD, if_neg hi]; exact q)
def dFldS (tx : Tx) (f : Nat) (to te : TD) : TDS := fun D r S => te r S (fun d S1 => to r S1 (fun x S2 => ∃ a c fs, x = .ref a ∧ S2 a = some (.ins c fs) ∧ tx.fl c f = true ∧ fs.length < 900 ∧ D.nx r (put S2 a (.ins c (putD f d fs)))) (fun c S2 => D.ex c r S2)) (fun c S1 => D.ex c r S1)
theorem pds_fld (hM : TxOk X.prog X.w X.K X.mg X.base Z tx M) (f : Nat) (hf : Z.fn f = m) (ho : PD X Z o to) (he : PD X Z e te) (hs : swapsWith e (some (.Attribute o m pos')) pos.line X.env = pure false := by rfl) : PDS X Z (.Assign [.Attribute o m pos'] e pos) (dFldS tx f to te) := fun W tk => by
  subst hf
  refine PS.imp (ps_fld (ho W tk) (he W tk) hs) fun D σ H h => ?_
  obtain ⟨r, S, D0, R, q, k⟩ := h
  refine ⟨r, S, _, _, R, q, fun d S1 v H1 e1 st1 dv1 q1 => ?_, k.exx R⟩
  refine ⟨r, S1, _, _, R.go e1 st1, q1, fun x S2 w H2 e2 st2 dv2 q2 => ?_, fun c S' dd H' e' => k.exx R c S' dd H' (e1.trans e')⟩
  obtain ⟨a, c, fs, ex, sa, hfl, hl, q3⟩ := q2
  subst ex
  obtain ⟨dx, vs, ha, fv⟩ := st2.sr a _ sa
  obtain ⟨hc, hn⟩ := hM.fl c f hfl
  have ev : Evo H2 (upd H2 a (.ins (Z.cm c) dx (putF (Z.fn f) v vs))) := mut_evo ha trivial
  refine ⟨a, Z.cm c, dx, vs, dv_ref.mp dv2, ha, hc, hn, by have := fv.1; omega, ?_⟩
  have st3 : ST X.K Z (put S2 a (.ins c (putD f d fs))) (upd H2 a (.ins (Z.cm c) dx (putF (Z.fn f) v vs))) := st2.wrote ha trivial ⟨dx, _, upd_same, (fv.put (dv1.mono e2.evo)).mono ev⟩
  have g3 := (e1.trans e2).trans (Go.wrote (u' := .ins c (putD f d fs)) ev sa)
  exact k.nx r _ σ _ g3 (R.go g3 st3) q3
end
end G

set_option Elab.async false
set_option linter.all false
set_option maxRecDepth 100000
set_option maxHeartbeats 4000000
/-! GG: op=, while, for, what is walked, comprehensions, errors, tries, several names at once. -/
namespace G
open PySem PySem.Spec PyProof.Rows L2
section
variable {X : Cx} {Z : Zt} {tx : Tx} {M : List Ent} {L : Nat} {a b c e o : Expr} {es : List Expr} {te to ti : TD} {t u tb : TDS} {tc : TDT} {ta : TDA} {pos pos' p : Pos} {x m : Str} {st : Stmt} {rest body : List Stmt}
/-! ### name op= e -/
def IpD (X : Cx) (Z : Zt) (op : Operator) (r : RD2) : Prop := PIp X op (liftR X.K Z r)
def opIAdd : RD2 := fun x y S Q => match x, y with
  | .int i, .int j => Q (.int (i + j)) S
  | .str a, .str b => a.length + b.length ≤ sizeLine ∧ Q (.str (a ++ b)) S
  | _, _ => False
theorem id_add : IpD X Z .Add opIAdd := by
  intro pins s σ H v w u u' Q I rx ry h
  obtain ⟨x, y, S, Q0, st, hx, hy, h, k⟩ := h
  cases x with
  | int i =>
    cases y with
    | int j =>
      rw [dv_int.mp hx] at rx
      rw [dv_int.mp hy] at ry
      exact iop_add pins s σ H _ _ _ _ Q I rx ry ⟨i, j, rfl, rfl, k _ S _ H Go.r st (dv_int.mpr rfl) h⟩
    | _ => exact h.elim
  | str a =>
    cases y with
    | str b =>
      rw [dv_str.mp hx] at rx
      rw [dv_str.mp hy] at ry
      exact iop_add_str pins s σ H _ _ _ _ Q I rx ry ⟨a, b, rfl, rfl, h.1, k _ S _ H Go.r st (dv_str.mpr rfl) h.2⟩
    | _ => exact h.elim
  | _ => cases y <;> exact h.elim
theorem id_sub : IpD X Z .Sub opSub := opII iop_sub (fun x y S Q h => by cases x <;> cases y <;> first | exact ⟨_, _, rfl, rfl⟩ | exact h.elim)
  fun i j S Q0 H Q h k => ⟨i, j, rfl, rfl, k _ h _ fun _ _ => dv_int.mpr rfl⟩
def opIMul : RD2 := fun x y S Q => match x, y with
  | .int i, .int j => CMul i j ∧ Q (.int (i * j)) S
  | _, _ => False
theorem id_mul : IpD X Z .Mult opIMul := opII iop_mul (fun x y S Q h => by cases x <;> cases y <;> first | exact ⟨_, _, rfl, rfl⟩ | exact h.elim)
  fun i j S Q0 H Q h k => ⟨i, j, rfl, rfl, h.1, k _ h.2 _ fun _ _ => dv_int.mpr rfl⟩
def dAug (i : Nat) (te : TD) (r2 : RD2) : TDS := fun D r S => ∃ x, r[i]? = some (some x) ∧ te r S (fun y S1 => r2 x y S1 fun z S2 => D.nx (r.set i (some z)) S2) (fun c S1 => D.ex c r S1)
theorem pds_aug {op : Operator} {r2 : RD2} {i : Nat} (hN : X.N.Nodup) (he : PD X Z e te) (ho : IpD X Z op r2) (hi : X.N[i]? = some x := by rfl) (hx : Loc X.env.scope x := by first | exact .inl rfl | exact .inr rfl) (hf : X.fn x = true ∨ X.env.scope.names.lookup x = some .local := by first | exact .inl rfl | exact .inr rfl) :
    PDS X Z (.AugAssign (.Name x pos') op e pos) (dAug i te r2) := fun W tk => by
  refine PS.imp (ps_aug hN hi hx (he W tk) ho hf) fun D σ H h => ?_
  obtain ⟨r, S, D0, R, ⟨d, hd, q⟩, k⟩ := h
  obtain ⟨v, h1, h2⟩ := R.sl.get i d hd
  refine ⟨v, h1, r, S, _, _, R, q, fun y S1 w H1 e1 st1 dv1 q1 => ?_, k.exx R⟩
  refine ⟨d, y, S1, _, st1, h2.mono e1.evo, dv1, q1, fun z S2 v2 H2 e2 st2 dv2 q2 => ?_⟩
  exact k.nx _ S2 _ H2 (e1.trans e2) ⟨(R.sl.mono (e1.trans e2).evo).set i dv2, st2⟩ q2

/-! ### while -/
def dWhile (c : TDT) (tb : TDS) : TDS := fun D r S => ∃ Wv : Nat → Env_ → DS → Prop, (∃ m, Wv m r S) ∧ ∀ m r S, Wv m r S →
  c r S (fun b S1 => if b = true then tb { D with nx := fun r' S' => ∃ S0 m', Sub S0 S' ∧ m' < m ∧ Wv m' r' S0, ct := fun r' S' => ∃ S0 m', Sub S0 S' ∧ m' < m ∧ Wv m' r' S0, bk := D.nx } r S1 else D.nx r S1) (fun c S1 => D.ex c r S1)
theorem pds_while {sts : List Stmt} (hp : PassesOwn (model X.prog X.w) X.A X.env X.xe) (hc : PDT X Z c tc) (hb : PDSs X Z body tb) : PDS X Z (.While c body [] pos) (dWhile tc tb) := fun W tk => by
  refine PS.imp (ps_while hp (hc W tk) (hb W tk)) fun D σ H h => ?_
  obtain ⟨r, S, D0, R, ⟨Wv, ⟨m0, w0⟩, turn⟩, k⟩ := h
  refine ⟨fun m σ' H' => ∃ r' S', Go H S H' S' ∧ Rel X.K Z r' S' σ' H' ∧ Wv m r' S', ⟨m0, r, S, Go.r, R, w0⟩, fun m σ1 H1 ⟨r1, S1, g1, R1, w1⟩ => ?_⟩
  have k1 : Meant X.K Z W r1 S1 σ1 H1 D0 D := k.go g1
  refine ⟨r1, S1, _, _, R1, turn m r1 S1 w1, fun b S2 H2 e2 st2 q2 => ?_, k1.exx R1⟩
  cases b with
  | true =>
    refine iteT ⟨fun σ' H' => ∃ m', m' < m ∧ ∃ r' S', Go H S H' S' ∧ Rel X.K Z r' S' σ' H' ∧ Wv m' r' S', fun σ' H' h => h, r1, S2, _, R1.go e2 st2, (if_pos rfl).mp q2, ?_⟩
    have g2 := g1.trans e2
    refine ⟨fun r' S' σ' H' e R' ⟨S0, m', hs, hm, w'⟩ => ⟨m', hm, r', S0, (g2.trans e).sub hs, ⟨R'.sl, R'.st.sub hs⟩, w'⟩, fun d S' v H' e => k.rt d S' v H' (g2.trans e), fun r' S' σ' H' e => k.nx r' S' σ' H' (g2.trans e), fun r' S' σ' H' e R' ⟨S0, m', hs, hm, w'⟩ => ⟨m', hm, r', S0, (g2.trans e).sub hs, ⟨R'.sl, R'.st.sub hs⟩, w'⟩,
      fun c r' S' dd σ' H' e => k.ex c r' S' dd σ' H' (g2.trans e)⟩
  | false => exact iteF (k1.nx r1 S2 σ1 H2 e2 (R1.go e2 st2) ((if_neg Bool.false_ne_true).mp q2))

/-! ### what is walked -/
/-- J gives ds, one by one, as long as ok holds of the store -/
def Yields (K : PySem.W.Frag) (Z : Zt) (H0 : Hp) (J : It) (ds : List D) (ok : DS → Prop) : Prop := ∀ i S H, Evo H0 H → ST K Z S H → ok S →
  (∀ d, ds[i]? = some d → J.go i H ∧ ∀ x H', J.yld i H x H' → DV K H' d x ∧ Go H S H' S ∧ ST K Z S H') ∧ (ds.length ≤ i → J.stop i H)
abbrev TDI := Env_ → DS → (List D → (DS → Prop) → DS → Prop) → XD → Prop
def liftI (K : PySem.W.Frag) (Z : Zt) (W : WX) (wi : TDI) : TI := fun σ H R => ∃ r S Q0 E0, Rel K Z r S σ H ∧ wi r S Q0 E0 ∧
  (∀ ds ok S' J H', Go H S H' S' → ST K Z S' H' → Yields K Z H' J ds ok → Q0 ds ok S' → R J H') ∧ ∀ c S' dd H', Go H S H' S' → ST K Z S' H' → E0 c S' → W (Z.ex c) dd σ H'
def PDI (X : Cx) (Z : Zt) (tg iter : Expr) (wi : TDI) : Prop := ∀ W, Takes X W → PI X tg iter (liftI X.K Z W wi)
theorem PI.imp {tg it : Expr} {t t' : TI} (h : PI X tg it t) (i : ∀ σ H R, t' σ H R → t σ H R) : PI X tg it t' := ⟨fun pins s σ H R I q => h.run pins s σ H R I (i σ H R q)⟩
section
variable {K : PySem.W.Frag} {H0 : Hp}
theorem Evo.put_go {H : Hp} {S : DS} {T : Addr} {u : HO} (h : H T = none) (st : ST K Z S H) : Go H S (upd H T u) S ∧ ST K Z S (upd H T u) := ⟨Go.new h, st.new h⟩
theorem y_list {l : Addr} {ds : List D} : Yields K Z H0 (Itl K l) ds (fun S => S l = some (.lst ds)) := fun i S H _ st ok => by
  obtain ⟨vs, h1, d1⟩ := sr_lst st ok
  refine ⟨fun d hd => ?_, fun hi => ⟨vs, SqL.of h1, by rw [← d1.len]; exact hi⟩⟩
  obtain ⟨v, hv, dv⟩ := d1.get hd
  refine ⟨⟨vs, v, SqL.of h1, hv⟩, fun x H' y => ?_⟩
  obtain ⟨e, y⟩ := y
  subst e
  have := y vs (SqL.of h1)
  rw [hv] at this
  cases this
  exact ⟨dv, Go.r, st⟩
theorem y_tup {l : Addr} {ds : List D} {vs : List V} (h : SqT K H0 l vs) (dv : DVs K H0 ds vs) : Yields K Z H0 (Itt K l) ds (fun _ => True) := fun i S H e st _ => by
  have h1 := e.sqT h
  have d1 := dv.mono e
  refine ⟨fun d hd => ?_, fun hi => ⟨vs, h1, by rw [← d1.len]; exact hi⟩⟩
  obtain ⟨v, hv, dv⟩ := d1.get hd
  refine ⟨⟨vs, v, h1, hv⟩, fun x H' y => ?_⟩
  obtain ⟨e, y⟩ := y
  subst e
  have := y vs h1
  rw [hv] at this
  cases this
  exact ⟨dv, Go.r, st⟩
theorem y_rol {l : Addr} {ds : List D} {vs : List V} (h : RoL K H0 l vs) (dv : DVs K H0 ds vs) : Yields K Z H0 (Itl K l) ds (fun _ => True) := fun i S H e st _ => by
  have h1 := (e.roL h).sq
  have d1 := dv.mono e
  refine ⟨fun d hd => ?_, fun hi => ⟨vs, h1, by rw [← d1.len]; exact hi⟩⟩
  obtain ⟨v, hv, dv⟩ := d1.get hd
  refine ⟨⟨vs, v, h1, hv⟩, fun x H' y => ?_⟩
  obtain ⟨e, y⟩ := y
  subst e
  have := y vs h1
  rw [hv] at this
  cases this
  exact ⟨dv, Go.r, st⟩
def signs (z : Str) : List D := z.cps.toList.map fun c => D.str ⟨#[c]⟩
theorem y_str {z : Str} : Yields K Z H0 (Its z) (signs z) (fun _ => True) := fun i S H e st _ => by
  refine ⟨fun d hd => ?_, fun hi => ?_⟩
  · unfold signs at hd
    rw [List.getElem?_map, Array.getElem?_toList] at hd
    cases hc : z.cps[i]? with
    | none => rw [hc] at hd; cases hd
    | some c =>
      rw [hc] at hd
      cases hd
      refine ⟨(Array.getElem?_eq_some_iff.mp hc).1, fun x H' y => ?_⟩
      obtain ⟨e, c', h1, h2⟩ := y
      subst e
      rw [hc] at h1
      cases h1
      exact ⟨dv_str.mpr h2, Go.r, st⟩
  · unfold signs at hi
    rw [List.length_map, Array.length_toList] at hi
    exact hi
def rngD (lo : Int) (n : Nat) : List D := (List.range n).map fun i => D.int (lo + (i : Nat))
theorem rngD_get {lo : Int} {n i : Nat} {d : D} (h : (rngD lo n)[i]? = some d) : i < n ∧ d = .int (lo + i) := by
  unfold rngD at h
  rw [List.getElem?_map] at h
  by_cases hi : i < n
  · rw [List.getElem?_range hi] at h
    cases h
    exact ⟨hi, rfl⟩
  · rw [List.getElem?_eq_none (by rw [List.length_range]; omega)] at h
    cases h
theorem rngD_len (lo : Int) (n : Nat) : (rngD lo n).length = n := by unfold rngD; rw [List.length_map, List.length_range]
theorem y_rng {lo : Int} {n : Nat} : Yields K Z H0 (Itr lo n) (rngD lo n) (fun _ => True) := fun i S H e st _ => by
  refine ⟨fun d hd => ?_, fun hi => by rw [rngD_len] at hi; exact hi⟩
  obtain ⟨h1, h2⟩ := rngD_get hd
  subst h2
  exact ⟨h1, fun x H' y => ⟨by rw [y.2]; exact dv_int.mpr rfl, by rw [y.1]; exact Go.r, by rw [y.1]; exact st⟩⟩
end
/-- a list, a tuple, a text that is walked -/
def iAny (te : TD) : TDI := fun r S Q E => te r S (fun x S1 => match x with
  | .ref l => ∃ ds, S1 l = some (.lst ds) ∧ Q ds (fun S => S l = some (.lst ds)) S1
  | .tup ds => Q ds (fun _ => True) S1
  | .rol ds => Q ds (fun _ => True) S1
  | .str z => Q (signs z) (fun _ => True) S1
  | _ => False) E
theorem it_list {tg : Expr} {pins : List (Addr × Obj)} {σ : L2.St} {H : Hp} {s : Shared} {R : It → Hp → Prop} {l : Addr} {vs : List V} (I : Inv X pins σ H s) (h : SqL X.K H l vs) (q : R (Itl X.K l) H) : wpAny (model X.prog X.w) X.A (pyIter (.ref l)) (PIE X pins σ tg R) X.xe s := by
  obtain ⟨its, rv, p, hz⟩ := I.list h
  refine wpAny_pyIter_list p.isList ?_
  refine ⟨s.heap.objs.size, [s.heap.objs.size], _, _, H, rfl, I.kept (t' := s.toks) fun b o e => Heap.get?_push_of_some _ e, turn_list l _, ⟨_, Heap.get?_push_size _ rfl, rfl, rfl⟩, fun b hb => ?_, q⟩
  have e : b = s.heap.objs.size := by simpa using hb
  subst e
  exact I.fpOk (Nat.le_refl _) (I.hok.fresh (Nat.le_refl _))
theorem it_tup {tg : Expr} {pins : List (Addr × Obj)} {σ : L2.St} {H : Hp} {s : Shared} {R : It → Hp → Prop} {l : Addr} {vs : List V} (I : Inv X pins σ H s) (h : SqT X.K H l vs) (q : R (Itt X.K l) H) : wpAny (model X.prog X.w) X.A (pyIter (.ref l)) (PIE X pins σ tg R) X.xe s := by
  obtain ⟨its, rv, p, hz⟩ := I.tuple h
  refine wpAny_pyIter_tuple (show s.heap.IsTuple l its.toArray from p) ?_
  refine ⟨s.heap.objs.size, [s.heap.objs.size], _, _, H, rfl, I.kept (t' := s.toks) fun b o e => Heap.get?_push_of_some _ e, turn_tuple l _, ⟨_, Heap.get?_push_size _ rfl, rfl, rfl⟩, fun b hb => ?_, q⟩
  have e : b = s.heap.objs.size := by simpa using hb
  subst e
  exact I.fpOk (Nat.le_refl _) (I.hok.fresh (Nat.le_refl _))
theorem it_str {tg : Expr} {pins : List (Addr × Obj)} {σ : L2.St} {H : Hp} {s : Shared} {R : It → Hp → Prop} {z : Str} {t : Tok} (I : Inv X pins σ H s) (q : R (Its z) H) : wpAny (model X.prog X.w) X.A (pyIter (.str z t)) (PIE X pins σ tg R) X.xe s := by
  cases ha : z.cps.all (· < 128)
  · exact wpAny_pyIter_wide ha (pi_one (tk := s.toks) I _ (turn_str _ z t "str_iterator" (.inr rfl)) ⟨_, Heap.get?_push_size _ rfl, rfl, rfl⟩ q)
  · exact wpAny_pyIter_ascii ha (pi_one (tk := s.toks) I _ (turn_str _ z t "str_ascii_iterator" (.inl rfl)) ⟨_, Heap.get?_push_size _ rfl, rfl, rfl⟩ q)
theorem pdi_any {tg : Expr} (he : PD X Z e te) : PDI X Z tg e (iAny te) := fun W tk => by
  refine ⟨fun pins s σ H R I h => ?_⟩
  obtain ⟨r, S, Q0, E0, RR, q, k, kE⟩ := h
  refine thn ((he W tk).run pins s σ H (fun v H1 => ∃ x S1, Go H S H1 S1 ∧ ST X.K Z S1 H1 ∧ DV X.K H1 x v ∧ (match x with
    | .ref l => ∃ ds, S1 l = some (.lst ds) ∧ Q0 ds (fun S => S l = some (.lst ds)) S1
    | .tup ds => Q0 ds (fun _ => True) S1
    | .rol ds => Q0 ds (fun _ => True) S1
    | .str z => Q0 (signs z) (fun _ => True) S1
    | _ => False)) I ⟨r, S, _, E0, RR, q, fun x S1 v H1 e1 st1 dv1 q1 => ⟨x, S1, e1, st1, dv1, q1⟩, kE⟩) fun u s1 ⟨v, H1, I1, rv, x, S1, e1, st1, dv1, q1⟩ => ?_
  cases x with
  | ref l =>
    obtain ⟨ds, sa, q2⟩ := q1
    rw [dv_ref.mp dv1] at rv
    obtain rfl : u = Value.ref l := rv
    obtain ⟨vs, h1, d1⟩ := sr_lst st1 sa
    exact it_list I1 (SqL.of h1) (k ds _ S1 _ H1 e1 st1 y_list q2)
  | tup ds =>
    obtain ⟨l, vs, ev, h1, d1⟩ := dv_tup.mp dv1
    rw [ev] at rv
    obtain rfl : u = Value.ref l := rv
    exact it_tup I1 h1 (k ds _ S1 _ H1 e1 st1 (y_tup h1 d1) q1)
  | rol ds =>
    obtain ⟨l, vs, ev, h1, d1⟩ := dv_rol.mp dv1
    rw [ev] at rv
    obtain rfl : u = Value.ref l := rv
    exact it_list I1 h1.sq (k ds _ S1 _ H1 e1 st1 (y_rol h1 d1) q1)
  | str z =>
    rw [dv_str.mp dv1] at rv
    obtain ⟨t, rfl⟩ := rv
    exact it_str I1 (k _ _ S1 _ H1 e1 st1 y_str q1)
  | _ => exact q1.elim
def RgOk (j : Int) : Prop := -(2 ^ 62) ≤ j ∧ j < 2 ^ 62
def iRg1 (ta : TDA) : TDI := fun r S Q E => ta r S (fun ds S1 => match ds with
  | [.int j] => RgOk j ∧ Q (rngD 0 j.toNat) (fun _ => True) S1
  | _ => False) E
def iRg2 (ta : TDA) : TDI := fun r S Q E => ta r S (fun ds S1 => match ds with
  | [.int i, .int j] => RgOk i ∧ RgOk j ∧ Q (rngD i (j - i).toNat) (fun _ => True) S1
  | _ => False) E
theorem pdi_range1 {tg : Expr} (hM : TxOk X.prog X.w X.K X.mg X.base Z tx M) (i : Nat) (hN : tx.bl i = some ("range" : Str)) (ha : PDA X Z [a] ta) (hg : Gl X "range" := by rfl) (hs : starEach [a] X.env = [(false, eval a X.env)] := by rfl) : PDI X Z tg (.Call (.Name "range" p) [a] [] pos) (iRg1 ta) := fun W tk => by
  refine PI.imp (pi_range1 hg (hM.bl i _ hN) (ha W tk) hs) fun σ H R h => ?_
  obtain ⟨r, S, Q0, E0, RR, q, k, kE⟩ := h
  refine ⟨r, S, _, E0, RR, q, fun ds S1 vs H1 e1 st1 dv1 q1 => ?_, kE⟩
  match ds, q1, dv1 with
  | [.int j], q1, dv1 =>
    exact ⟨j, dvs_intsE (ns := [j]) dv1, q1.1.1, q1.1.2, k _ _ S1 _ H1 e1 st1 y_rng q1.2⟩
theorem pdi_range2 {tg : Expr} (hM : TxOk X.prog X.w X.K X.mg X.base Z tx M) (i : Nat) (hN : tx.bl i = some ("range" : Str)) (ha : PDA X Z [a, b] ta) (hg : Gl X "range" := by rfl) (hs : starEach [a, b] X.env = [(false, eval a X.env), (false, eval b X.env)] := by rfl) (hs2 : starEach [b] X.env = [(false, eval b X.env)] := by rfl) : PDI X Z tg (.Call (.Name "range" p) [a, b] [] pos) (iRg2 ta) := fun W tk => by
  refine PI.imp (pi_range2 hg (hM.bl i _ hN) (ha W tk) hs hs2) fun σ H R h => ?_
  obtain ⟨r, S, Q0, E0, RR, q, k, kE⟩ := h
  refine ⟨r, S, _, E0, RR, q, fun ds S1 vs H1 e1 st1 dv1 q1 => ?_, kE⟩
  match ds, q1, dv1 with
  | [.int i, .int j], q1, dv1 =>
    exact ⟨i, j, dvs_intsE (ns := [i, j]) dv1, ⟨q1.1.1, q1.1.2, q1.2.1.1, q1.2.1.2⟩, k _ _ S1 _ H1 e1 st1 y_rng q1.2.2⟩

/-! ### for -/
def dFor (wi : TDI) (g : TDG) (tb : TDS) : TDS := fun D r S => wi r S (fun ds ok S1 => ∃ Pv : Nat → Env_ → DS → Prop, Pv 0 r S1 ∧ (∀ i r S, Pv i r S → ok S) ∧
  (∀ i d r S, ds[i]? = some d → Pv i r S → g d r S (fun r2 S2 => tb { D with nx := fun r' S' => ∃ S0, Sub S0 S' ∧ Pv (i + 1) r' S0, ct := fun r' S' => ∃ S0, Sub S0 S' ∧ Pv (i + 1) r' S0, bk := D.nx } r2 S2) (fun _ _ => False)) ∧
  ∀ r S, Pv ds.length r S → D.nx r S) (fun c S1 => D.ex c r S1)
theorem pds_for {tg iter : Expr} {wi : TDI} {g : TDG} {ts : List Nat} (hp : PassesOwn (model X.prog X.w) X.A X.env X.xe) (hc : X.calm = true) (hi : PDI X Z tg iter wi) (hg : PDG X Z tg ts g) (hb : PDSs X Z body tb)
    (hs : ∀ x, foldedSetIterable iter X.env x = pure x := by intro _; rfl) : PDS X Z (.For tg iter body [] pos) (dFor wi g tb) := fun W tk => by
  refine PS.imp (ps_for hp hc (hi W tk) (hg W tk) (hb W tk) hs) fun D σ H h => ?_
  obtain ⟨r, S, D0, R, q, k⟩ := h
  refine ⟨r, S, _, _, R, q, fun ds ok S1 J H1 e1 st1 yy q1 => ?_, k.exx R⟩
  obtain ⟨Pv, p0, pok, pt, pe⟩ := q1
  refine ⟨fun i m σ' H' => m = ds.length - i ∧ i ≤ ds.length ∧ ∃ r' S', Go H S H' S' ∧ Evo H1 H' ∧ Rel X.K Z r' S' σ' H' ∧ Pv i r' S', ⟨ds.length, by simp, Nat.zero_le _, r, S1, e1, Evo.refl _, R.go e1 st1, p0⟩, ?_⟩
  rintro i m σ' H' ⟨rfl, hi, r', S', g', ev', R', p'⟩
  obtain ⟨y1, y2⟩ := yy i S' H' ev' R'.st (pok i r' S' p')
  by_cases hlt : i < ds.length
  · have hd : ds[i]? = some ds[i] := List.getElem?_eq_getElem hlt
    obtain ⟨go, y1⟩ := y1 _ hd
    refine .inr ⟨go, fun σ2 H2 => ∃ r2 S2, Go H S H2 S2 ∧ Evo H1 H2 ∧ Rel X.K Z r2 S2 σ2 H2 ∧ Pv (i + 1) r2 S2, fun σ2 H2 h2 => ⟨ds.length - (i + 1), by omega, rfl, hlt, h2⟩, fun x H2 y => ?_⟩
    obtain ⟨dx, g2, st2⟩ := y1 x H2 y
    refine ⟨ds[i], r', S', _, _, R'.go g2 st2, dx, pt i _ r' S' hd p', fun r3 S3 σ3 H3 e3 R3 _ q3 => ?_, fun _ _ _ _ _ _ z => z.elim⟩
    have g3 := (g'.trans g2).trans e3
    have ev3 := (ev'.trans g2.evo).trans e3.evo
    refine ⟨r3, S3, _, R3, q3, ?_⟩
    refine ⟨fun r4 S4 σ4 H4 e4 R4 ⟨S0, hs, p4⟩ => ⟨r4, S0, (g3.trans e4).sub hs, ev3.trans e4.evo, ⟨R4.sl, R4.st.sub hs⟩, p4⟩, fun d S4 v H4 e4 => k.rt d S4 v H4 (g3.trans e4), fun r4 S4 σ4 H4 e4 => k.nx r4 S4 σ4 H4 (g3.trans e4),
      fun r4 S4 σ4 H4 e4 R4 ⟨S0, hs, p4⟩ => ⟨r4, S0, (g3.trans e4).sub hs, ev3.trans e4.evo, ⟨R4.sl, R4.st.sub hs⟩, p4⟩, fun c r4 S4 dd σ4 H4 e4 => k.ex c r4 S4 dd σ4 H4 (g3.trans e4)⟩
  · have e : i = ds.length := by omega
    subst e
    exact .inl ⟨y2 (Nat.le_refl _), k.nx r' S' σ' H' g' R' (pe r' S' p')⟩
end
end G

set_option Elab.async false
set_option linter.all false
set_option maxRecDepth 100000
set_option maxHeartbeats 4000000
/-! GH: comprehensions, errors, tries, several names at once, a def's promise from its body. -/
namespace G
open PySem PySem.Spec PyProof.Rows L2
section
variable {X : Cx} {Z : Zt} {tx : Tx} {M : List Ent} {L : Nat} {a b c e o : Expr} {es : List Expr} {te to ti : TD} {t u tb : TDS} {tt tt1 : TDT} {ta : TDA} {pos pos' p np : Pos} {x m : Str} {st : Stmt} {rest body suite : List Stmt}
/-! ### comprehensions -/
def PDTs (X : Cx) (Z : Zt) (ifs : List Expr) (t : TDT) : Prop := ∀ W, Takes X W → PTs X ifs (liftT X.K Z W t)
def dYes : TDT := fun _ S Q _ => Q true S
theorem PTs.imp {ifs : List Expr} {t t' : TT} (h : PTs X ifs t) (i : ∀ σ H Q, t' σ H Q → t σ H Q) : PTs X ifs t' := ⟨fun pins s σ H Q I q => h.run pins s σ H Q I (i σ H Q q)⟩
theorem pdts_nil : PDTs X Z [] dYes := fun W tk => PTs.imp pts_nil fun σ H Q h => by
  obtain ⟨r, S, Q0, E0, R, q, k, _⟩ := h
  exact k true S H Go.r R.st q
theorem pdts_one (h : PDT X Z c tt) : PDTs X Z [c] tt := fun W tk => pts_one (h W tk)
def wipeD (r : Env_) : List Nat → Env_
  | [] => r
  | v :: vs => (wipeD r vs).set v none
theorem SL.wipe {K : PySem.W.Frag} {H : Hp} {r : Env_} {σ : L2.St} (h : SL K H r σ) : ∀ vs, SL K H (wipeD r vs) (L2.wipe σ vs)
  | [] => h
  | v :: vs => by
    have ih := h.wipe vs
    refine ⟨by unfold wipeD L2.wipe; rw [List.length_set, List.length_set]; exact ih.len, fun i d q => ?_⟩
    unfold wipeD at q
    unfold L2.wipe
    by_cases hi : v = i
    · subst hi
      by_cases hv : v < (wipeD r vs).length
      · rw [List.getElem?_set_self hv] at q; cases q
      · rw [List.getElem?_eq_none (by simpa using hv)] at q; cases q
    · rw [List.getElem?_set_ne hi] at q ⊢
      exact ih.get i d q
theorem Keep.wipe {ts vs : List Nat} {σ σ' : L2.St} (h : Keep ts (L2.wipe σ vs) σ') (hs : ∀ i ∈ ts, i ∈ vs) : L2.wipe σ' vs = L2.wipe σ vs := by
  apply List.ext_getElem?
  intro j
  by_cases hj : j ∈ vs
  · have e : ∀ {τ : L2.St} {us : List Nat}, j ∈ us → (L2.wipe τ us)[j]? = if j < τ.length then some none else none := by
      intro τ us
      induction us with
      | nil => intro z; cases z
      | cons v us ih =>
        intro z
        unfold L2.wipe
        by_cases hv : v = j
        · subst hv
          by_cases hl : v < (L2.wipe τ us).length
          · rw [List.getElem?_set_self hl]
            rw [wipe_length] at hl
            rw [if_pos hl]
          · rw [List.getElem?_eq_none (by simpa using hl)]
            rw [wipe_length] at hl
            rw [if_neg hl]
        · rw [List.getElem?_set_ne hv]
          exact ih ((List.mem_cons.mp z).resolve_left fun q => hv q.symm)
    rw [e hj, e hj, h.1, wipe_length]
  · rw [wipe_out hj, h.2 j (fun z => hj (hs j z))]
def nofl : XD := fun _ _ => False
/-- the new list isn't told before it is whole: acc holds what is made so far -/
def dLc (wi : TDI) (g : TDG) (tt : TDT) (te : TD) (vs : List Nat) : TD := fun r S Q E => wi r S (fun ds ok S1 => ds.length ≤ sizeLine ∧ ∃ Pv : Nat → List D → DS → Prop, Pv 0 [] S1 ∧ (∀ i acc S, Pv i acc S → ok S) ∧
  (∀ i d acc S, ds[i]? = some d → Pv i acc S → g d (wipeD r vs) S (fun r2 S2 => tt r2 S2 (fun b S3 =>
    if b = true then te r2 S3 (fun y S4 => ∃ S0, Sub S0 S4 ∧ Pv (i + 1) (acc ++ [y]) S0) nofl else ∃ S0, Sub S0 S3 ∧ Pv (i + 1) acc S0) nofl) nofl) ∧
  ∀ acc S l, Pv ds.length acc S → S l = none → Q (.ref l) (put S l (.lst acc))) E
variable {elt tg iter tg1 iter1 : Expr} {ifs ifs1 : List Expr} {scope : Scope} {own : List (Str × Nat)} {wi wi1 : TDI} {g g1 : TDG} {ts ts1 : List Nat}
/-- what holds ahead of a turn -/
structure Turn0 (K : PySem.W.Frag) (Z : Zt) (r : Env_) (σ : L2.St) (H0 : Hp) (S0 : DS) (H1 : Hp) (Dl : Addr) (acc : List D) (S : DS) (H : Hp) : Prop where
  go : Go H0 S0 H S
  ev : Evo H1 H
  st : ST K Z S H
  sl : SL K H r σ
  no : S Dl = none
  at_ : ∃ vs, H Dl = some (.lst vs) ∧ DVs K H acc vs
theorem Turn0.step {K : PySem.W.Frag} {r : Env_} {σ : L2.St} {H0 : Hp} {S0 : DS} {H1 : Hp} {Dl : Addr} {acc : List D} {S S' S'' : DS} {H H' : Hp} (h : Turn0 K Z r σ H0 S0 H1 Dl acc S H) (g : Go H S H' S') (st : ST K Z S' H') (s : Sub S'' S') : Turn0 K Z r σ H0 S0 H1 Dl acc S'' H' := by
  obtain ⟨vs, e, d⟩ := h.at_
  refine ⟨(h.go.trans g).sub s, h.ev.trans g.evo, st.sub s, h.sl.mono g.evo, (g.sub s).fr Dl (by rw [e]; exact fun z => nomatch z) h.no, vs, g.un Dl _ e h.no (fun ps z => nomatch z), d.mono g.evo⟩
theorem Turn0.app {K : PySem.W.Frag} {r : Env_} {σ : L2.St} {H0 : Hp} {S0 : DS} {H1 : Hp} {Dl : Addr} {acc : List D} {S : DS} {H : Hp} {y : D} {v : V} (h : Turn0 K Z r σ H0 S0 H1 Dl acc S H) (n0 : H0 Dl = none) (dv : DV K H y v) :
    ∃ vs, H Dl = some (.lst vs) ∧ vs.length = acc.length ∧ Turn0 K Z r σ H0 S0 H1 Dl (acc ++ [y]) S (upd H Dl (.lst (vs ++ [v]))) := by
  obtain ⟨vs, e, d⟩ := h.at_
  have ev : Evo H (upd H Dl (.lst (vs ++ [v]))) := mut_evo e trivial
  refine ⟨vs, e, d.len.symm, ⟨⟨h.go.evo.trans ev, h.go.fr, fun b o e1 e2 e3 => ?_⟩, h.ev.trans ev, ⟨fun b o eb => ?_, h.st.tb.wrote e trivial (fun _ z => nomatch z)⟩, h.sl.mono ev, h.no, vs ++ [v], upd_same, (d.append (DVs.cons dv (dvs_nil.mpr rfl))).mono ev⟩⟩
  · rw [upd_ne (ne_of_none e1 n0)]
    exact h.go.un b o e1 e2 e3
  · exact (h.st.sr b o eb).mono ev (upd_ne fun z => by rw [z, h.no] at eb; cases eb)
theorem lift_lc {K : PySem.W.Frag} {W : WX} {te : TD} {vs : List Nat} {σ : L2.St} {H : Hp} {Q : VK} (hts : ∀ i ∈ ts, i ∈ vs) (h : lift K Z W (dLc wi g tt te vs) σ H Q) :
    tLc (liftI K Z W wi) (liftG K Z (fun _ _ _ _ => False) ts g) (liftT K Z (fun _ _ _ _ => False) tt) (lift K Z (fun _ _ _ _ => False) te) vs σ H Q := by
  obtain ⟨r, S, Q0, E0, R, q, k, kE⟩ := h
  refine ⟨r, S, _, E0, R, q, fun ds ok S1 J H1 e1 st1 yy q1 => ?_, kE⟩
  obtain ⟨hsz, Pv, p0, pok, pt, pe⟩ := q1
  intro Dl hDl
  have nS : S1 Dl = none := st1.free hDl
  have n0 : H Dl = none := by
    cases z : H Dl with
    | none => rfl
    | some o => exact absurd hDl (e1.evo.dom Dl (by rw [z]; exact fun z => nomatch z))
  refine ⟨fun i m H' => m = ds.length - i ∧ i ≤ ds.length ∧ ∃ acc S', acc.length ≤ i ∧ Turn0 K Z (wipeD r vs) (wipe σ vs) H S H1 Dl acc S' H' ∧ Pv i acc S',
    ⟨ds.length, by simp, Nat.zero_le _, [], S1, Nat.le_refl _, ⟨e1.trans (Go.new hDl), Evo.new hDl, st1.new hDl, ((R.sl.mono e1.evo).wipe vs).mono (Evo.new hDl), nS, [], upd_same, dvs_nil.mpr rfl⟩, p0⟩, ?_⟩
  rintro i m H' ⟨rfl, hi, acc, S', hacc, T', p'⟩
  obtain ⟨y1, y2⟩ := yy i S' H' T'.ev T'.st (pok i acc S' p')
  by_cases hlt : i < ds.length
  · have hd : ds[i]? = some ds[i] := List.getElem?_eq_getElem hlt
    obtain ⟨go, y1⟩ := y1 _ hd
    refine .inr ⟨go, fun H2 => ∃ acc2 S2, acc2.length ≤ i + 1 ∧ Turn0 K Z (wipeD r vs) (wipe σ vs) H S H1 Dl acc2 S2 H2 ∧ Pv (i + 1) acc2 S2, fun H2 ⟨acc2, S2, h1, h2, h3⟩ => ⟨ds.length - (i + 1), by omega, rfl, hlt, acc2, S2, h1, h2, h3⟩, fun x H2 y => ?_⟩
    obtain ⟨dx, g2, st2⟩ := y1 x H2 y
    have T2 := T'.step g2 st2 (Sub.refl _)
    refine ⟨ds[i], wipeD r vs, S', _, _, ⟨T2.sl, st2⟩, dx, pt i _ acc S' hd p', fun r3 S3 σ3 H3 e3 R3 kp q3 => ⟨kp.wipe hts, ?_⟩, fun _ _ _ _ _ _ z => z.elim⟩
    have T3 := T2.step e3 R3.st (Sub.refl _)
    refine ⟨r3, S3, _, _, R3, q3, fun b S4 H4 e4 st4 q4 => ?_, fun _ _ _ _ _ _ z => z.elim⟩
    have T4 := T3.step e4 st4 (Sub.refl _)
    cases b with
    | true =>
      refine iteT ⟨r3, S4, _, _, R3.go e4 st4, (if_pos rfl).mp q4, fun y' S5 v H5 e5 st5 dv5 ⟨S6, hs, p6⟩ => ?_, fun _ _ _ _ _ _ z => z.elim⟩
      obtain ⟨ws, h1, h2, T6⟩ := (T4.step e5 st5 hs).app n0 dv5
      exact ⟨ws, h1, by omega, acc ++ [y'], S6, by rw [List.length_append]; simp; omega, T6, p6⟩
    | false =>
      obtain ⟨S6, hs, p6⟩ := (if_neg Bool.false_ne_true).mp q4
      exact iteF ⟨acc, S6, by omega, T3.step e4 st4 hs, p6⟩
  · have e : i = ds.length := by omega
    subst e
    obtain ⟨ws, h1, h2⟩ := T'.at_
    refine .inl ⟨y2 (Nat.le_refl _), k (.ref Dl) (put S' Dl (.lst acc)) _ _ ⟨T'.go.evo, fun b h3 h4 => ?_, T'.go.un⟩ ⟨fun b o eb => ?_, T'.st.tb⟩ (dv_ref.mpr rfl) (pe acc S' Dl p' T'.no)⟩
    · rw [put_ne (fun z => h3 (by rw [z]; exact n0))]
      exact T'.go.fr b h3 h4
    · by_cases hb : b = Dl
      · subst hb
        rw [put_same] at eb
        cases eb
        exact ⟨ws, h1, h2⟩
      · rw [put_ne hb] at eb
        exact T'.st.sr b o eb
theorem takesF {X : Cx} : Takes X (fun _ _ _ _ => False) := L2.takes0
theorem pd_lc {te : TD} (hc : X.calm = true) (hN : X.N.Nodup) (hi : PDI X Z tg iter wi) (own : List (Str × Nat)) (ok : BlkOk X.N X.env.scope scope own) (hts : ∀ i ∈ ts, i ∈ own.map (·.2))
    (hg : ∀ (s : Shared) (H : Hp) (C : Addr) (cl : List (Str × Addr)) (fp : List Addr), PDG (X.blk s H scope (compEnvC scope cl C X.env) fp) Z tg ts g) (ht : ∀ (s : Shared) (H : Hp) (C : Addr) (cl : List (Str × Addr)) (fp : List Addr), PDTs (X.blk s H scope (compEnvC scope cl C X.env) fp) Z ifs tt)
    (he : ∀ (s : Shared) (H : Hp) (C : Addr) (cl : List (Str × Addr)) (fp : List Addr), PD (X.blk s H scope (compEnvC scope cl C X.env) fp) Z elt te) (hs : ∀ x, foldedSetIterable iter X.env x = pure x := by intro _; rfl) :
    PD X Z (.ListComp elt [⟨tg, iter, ifs, 0⟩] scope pos) (dLc wi g tt te (own.map (·.2))) := fun W tk =>
  PE.imp (pe_lc (g := liftG X.K Z (fun _ _ _ _ => False) ts g) (tt := liftT X.K Z (fun _ _ _ _ => False) tt) (te := lift X.K Z (fun _ _ _ _ => False) te) hc hN (hi W tk) ok (fun s H C cl fp => hg s H C cl fp _ takesF) (fun s H C cl fp => ht s H C cl fp _ takesF) (fun s H C cl fp => he s H C cl fp _ takesF) hs) fun _ _ _ h => lift_lc hts h
/-- name = [..] on one line -/
theorem pds_setLc {te : TD} {i : Nat} {y : Str} {py spos : Pos} (hc : X.calm = true) (hN : X.N.Nodup) (hi : PDI X Z tg iter wi) (own : List (Str × Nat)) (ok : BlkOk X.N X.env.scope scope own) (hts : ∀ i ∈ ts, i ∈ own.map (·.2))
    (hg : ∀ (s : Shared) (H : Hp) (C : Addr) (cl : List (Str × Addr)) (fp : List Addr), PDG (X.blk s H scope (compEnvC scope cl C X.env) fp) Z tg ts g) (ht : ∀ (s : Shared) (H : Hp) (C : Addr) (cl : List (Str × Addr)) (fp : List Addr), PDTs (X.blk s H scope (compEnvC scope cl C X.env) fp) Z ifs tt)
    (he : ∀ (s : Shared) (H : Hp) (C : Addr) (cl : List (Str × Addr)) (fp : List Addr), PD (X.blk s H scope (compEnvC scope cl C X.env) fp) Z elt te)
    (hsw : swapsWith (.ListComp elt [⟨tg, iter, ifs, 0⟩] scope pos) (some (.Name y py)) spos.line X.env = pure true) (hy : X.N[i]? = some y := by rfl) (hyl : X.env.scope.names.lookup y = some .local := by rfl) (hs : ∀ x, foldedSetIterable iter X.env x = pure x := by intro _; rfl) :
    PDS X Z (.Assign [.Name y py] (.ListComp elt [⟨tg, iter, ifs, 0⟩] scope pos) spos) (dAsg (dLc wi g tt te (own.map (·.2))) (gN i)) := fun W tk => by
  refine PS.imp (ps_setLc (g := liftG X.K Z (fun _ _ _ _ => False) ts g) (tt := liftT X.K Z (fun _ _ _ _ => False) tt) (te := lift X.K Z (fun _ _ _ _ => False) te) hc hN hy hyl hsw (hi W tk) ok (fun s H C cl fp => hg s H C cl fp _ takesF) (fun s H C cl fp => ht s H C cl fp _ takesF) (fun s H C cl fp => he s H C cl fp _ takesF) hs) fun D σ H h => ?_
  obtain ⟨r, S, D0, R, q, k⟩ := h
  refine lift_lc (W := W) hts ⟨r, S, _, _, R, q, fun d S1 v H1 e1 st1 dv1 q1 => ?_, k.exx R⟩
  exact k.nx _ S1 _ H1 e1 ⟨(R.sl.mono e1.evo).set i dv1, st1⟩ q1

/-! ### errors -/
def dRaise (i : Nat) : TDS := fun D r S => D.ex i r S
theorem pds_raise {mm : Str} {j : Nat} {p2 p1 : Pos} (hM : TxOk X.prog X.w X.K X.mg X.base Z tx M) (i : Nat) (hN : tx.xn i = some x) (hc : X.calm = true) (hg : Gl X x) (hdb : (x == ("__debug__" : Str)) = false := by decide) :
    PDS X Z (.Raise (some (.Call (.Name x p1) [.Constant (.str mm) j p2] [] p)) none pos) (dRaise i) := fun W tk => by
  obtain ⟨C, bmB, B, newId, initId, eu, hm, F, q, kC, hb, ht⟩ := (hM.xn i x hN).ok
  refine PS.imp (ps_raise hc tk (pmk_own F q hm kC (raises_own hb ht) hg hdb)) fun D σ H h => ?_
  obtain ⟨r, S, D0, R, q, k⟩ := h
  have z := k.ex i r S none σ H Go.r R q
  rw [eu] at z
  exact z
def dTry (tx : Tx) (i : Nat) (t u : TDS) : TDS := fun D r S => t { D with ex := fun c r' S' => ∃ b, tx.sb c i = some b ∧ (b = true → u { D with ex := fun _ _ _ => False } r' S') ∧ (b = false → D.ex c r' S') } r S
theorem pds_try {b₀ : Stmt} (hM : TxOk X.prog X.w X.K X.mg X.base Z tx M) (i : Nat) (hN : tx.xn i = some x) (hg : Gl X x)
    (hb : ∀ (pn : List (Addr × Obj)) (xe : Value → Shared → Prop), PassesOwn (model X.prog X.w) X.A X.env xe → PDSs (X.tr pn xe) Z body t)
    (hsu : ∀ (a : Addr) (oe : Obj) (pn : List (Addr × Obj)), PDSs (X.suite a ((a, oe) :: pn)) Z (b₀ :: suite) u)
    (hs : X.stack = X.env :: X.outer := by rfl) (hf : X.env.frame = some X.env.locals := by rfl) (hdb : (x == ("__debug__" : Str)) = false := by decide) :
    PDS X Z (.Try body [.ExceptHandler (some (.Name x np)) none (b₀ :: suite) pos'] [] [] pos) (dTry tx i t u) := fun W tk => by
  obtain ⟨C, bmB, B, newId, initId, eu, hm, F, q, kC, _, ht⟩ := (hM.xn i x hN).ok
  refine PS.imp (ps_try_only (c := .ref C) (tb := fun W => liftS X.K Z W t) (ts := fun _ _ _ => liftS X.K Z (fun _ _ _ _ => False) u) (Wout := W) hs hf ⟨hg, hdb, .inl hm⟩ tk (fun W pn xe tk' hp => hb pn xe hp W tk') (fun a oe cls d pn _ _ => hsu a oe pn _ takesF)) fun D σ H h => ?_
  obtain ⟨r, S, D0, R, q, k⟩ := h
  refine ⟨r, S, _, R, q, k.nx, k.rt, k.bk, k.ct, fun c r' S' dd σ' H' e R' ⟨b, h1, h2, h3⟩ => ⟨b, ?_, fun hb a na => ?_, fun hb => k.ex c r' S' dd σ' H' e R' (h3 hb)⟩⟩
  · rw [← eu]
    exact hM.sb c i b h1
  · have k' : Meant X.K Z W r' S' σ' H' D0 D := k.go e
    exact ⟨r', S', _, R', h2 hb, k'.nx, k'.rt, k'.bk, k'.ct, fun _ _ _ _ _ _ _ _ z => z.elim⟩

/-! ### several names at once -/
def dPar2 (i j : Nat) (ta : TDA) : TDS := fun D r S => ta r S (fun ds S1 => match ds with
  | [d, e] => D.nx ((r.set i (some d)).set j (some e)) S1
  | _ => False) (fun c S1 => D.ex c r S1)
theorem pds_par2 {i j : Nat} {x y : Str} {a b : Expr} {px py pt : Pos} {kt k2 pt2} (hc : X.calm = true) (hN : X.N.Nodup) (ha : PDA X Z [a, b] ta) (hw : swappedStores [.Tuple [.Name x px, .Name y py] kt pt] (.Tuple [a, b] k2 pt2) X.env = pure (some [x, y])) (hij : i ≠ j := by decide) (hi : X.N[i]? = some x := by rfl) (hj : X.N[j]? = some y := by rfl)
    (hx : X.env.scope.names.lookup x = some .local := by rfl) (hy : X.env.scope.names.lookup y = some .local := by rfl)
    (hs : swapsWithSole [.Tuple [.Name x px, .Name y py] kt pt] (.Tuple [a, b] k2 pt2) pos.line X.env = pure false := by rfl) :
    PDS X Z (.Assign [.Tuple [.Name x px, .Name y py] kt pt] (.Tuple [a, b] k2 pt2) pos) (dPar2 i j ta) := fun W tk => by
  refine PS.imp (ps_par hc hN hi hj hij hx hy (ha W tk) hw hs) fun D σ H h => ?_
  obtain ⟨r, S, D0, R, q, k⟩ := h
  refine ⟨r, S, _, _, R, q, fun ds S1 vs H1 e1 st1 dv1 q1 => ?_, k.exx R⟩
  match ds, q1, dv1 with
  | [d, e], q1, dv1 =>
    obtain ⟨v, r1, ev1, h1, h2⟩ := dvs_cons.mp dv1
    obtain ⟨w, r2, ev2, h3, h4⟩ := dvs_cons.mp h2
    rw [dvs_nil.mp h4] at ev2
    rw [ev2] at ev1
    exact ⟨v, w, ev1, k.nx _ S1 _ H1 e1 ⟨((R.sl.mono e1.evo).set i h1).set j h3, st1⟩ q1⟩
theorem ps_par3 {i j l : Nat} {x y z : Str} {a b c : Expr} {ta : TA} {px py pz pt : Pos} {kt k2 pt2} (hc : X.calm = true) (hN : X.N.Nodup) (hi : X.N[i]? = some x) (hj : X.N[j]? = some y) (hl : X.N[l]? = some z) (hij : i ≠ j) (hil : i ≠ l) (hjl : j ≠ l)
    (hx : X.env.scope.names.lookup x = some .local) (hy : X.env.scope.names.lookup y = some .local) (hz : X.env.scope.names.lookup z = some .local) (ha : PA X [a, b, c] ta)
    (hw : swappedStores [.Tuple [.Name x px, .Name y py, .Name z pz] kt pt] (.Tuple [a, b, c] k2 pt2) X.env = pure (some [x, y, z]))
    (hs : swapsWithSole [.Tuple [.Name x px, .Name y py, .Name z pz] kt pt] (.Tuple [a, b, c] k2 pt2) pos.line X.env = pure false := by rfl) :
    PS X (.Assign [.Tuple [.Name x px, .Name y py, .Name z pz] kt pt] (.Tuple [a, b, c] k2 pt2) pos) (fun D σ H => ta σ H fun vs H1 => ∃ v w u, vs = [v, w, u] ∧ D.nx (((σ.set i (some v)).set j (some w)).set l (some u)) H1) := by
  refine ⟨fun pins s σ H D I h => ?_⟩
  rw [exec_Assign_arm]
  refine wpAny_bind (wpAny_standAt ?_)
  rw [hs]
  refine wpAny_bind (wpAny_pure ?_)
  rw [if_neg (by decide)]
  refine wpAny_bind (Tuple_ (thn (ha.run _ pins s σ H _ I h) fun us s1 ⟨vs, H1, I1, r1, q1⟩ => ?_))
  obtain ⟨v, w, u, e1, q1⟩ := q1
  subst e1
  obtain ⟨u1, u2, u3, rfl, rv, rw', ru⟩ : ∃ u1 u2 u3, us = [u1, u2, u3] ∧ RelV v u1 ∧ RelV w u2 ∧ RelV u u3 := by
    cases r1 with
    | cons p q =>
      cases q with
      | cons p' q' =>
        cases q' with
        | cons p2 q2 =>
          cases q2
          exact ⟨_, _, _, rfl, p, p', p2⟩
  refine wpAny_newObj_type ?_ (by show 3 ≤ sizeLine; decide)
  have I2 : Inv X pins σ H1 { s1 with heap := s1.heap.push { cls := .type "tuple", data := .seq [u1, u2, u3].toArray } } := I1.kept (t' := s1.toks) fun b o e => Heap.get?_push_of_some _ e
  rw [hw]
  refine wpAny_bind (wpAny_pure ?_)
  show wpAny (model X.prog X.w) X.A (do rule "assign.swapped-stores"; let items ← unpackItems (.ref s1.heap.objs.size) 3 none; assignInOrder [fun v => bindName X.env z v, fun v => bindName X.env y v, fun v => bindName X.env x v] items.reverse; pure Flow.next) _ _ _
  refine wpAny_bind (wpAny_rule (wpAny_bind (unpackItems_tuple (items := #[u1, u2, u3]) (I.ok.hd hc) (IsTup.new s1.heap _) fun h' hx' => ?_)))
  have I3 := I2.kept (h' := h') (t' := s1.toks) fun b o e => hx' b o (Nat.ne_of_lt (Heap.lt_size e)) e
  show wpAny _ _ (assignInOrder [fun v => bindName X.env z v, fun v => bindName X.env y v, fun v => bindName X.env x v] [u3, u2, u1] >>= fun _ => pure Flow.next) _ _ _
  refine wpAny_bind (assignInOrder_cons (wpAny_bindName (store_ok I3 hN hl (.inl hz) ru (fun s2 I4 => ?_) (.inr hz))))
  refine assignInOrder_cons (wpAny_bindName (store_ok I4 hN hj (.inl hy) rw' (fun s3 I5 => ?_) (.inr hy)))
  refine assignInOrder_cons (wpAny_bindName (store_ok I5 hN hi (.inl hx) rv (fun s4 I6 => assignInOrder_nil (wpAny_pure ?_)) (.inr hx)))
  have e2 : ((σ.set l (some u)).set j (some w)).set i (some v) = ((σ.set i (some v)).set j (some w)).set l (some u) := by
    rw [List.set_comm _ _ (Ne.symm hjl), List.set_comm _ _ (Ne.symm hil), List.set_comm _ _ (Ne.symm hij)]
  rw [e2] at I6
  exact ⟨_, H1, I6, q1⟩
def dPar3 (i j l : Nat) (ta : TDA) : TDS := fun D r S => ta r S (fun ds S1 => match ds with
  | [d, e, f] => D.nx (((r.set i (some d)).set j (some e)).set l (some f)) S1
  | _ => False) (fun c S1 => D.ex c r S1)
theorem pds_par3 {i j l : Nat} {x y z : Str} {a b c : Expr} {px py pz pt : Pos} {kt k2 pt2} (hc : X.calm = true) (hN : X.N.Nodup) (ha : PDA X Z [a, b, c] ta) (hw : swappedStores [.Tuple [.Name x px, .Name y py, .Name z pz] kt pt] (.Tuple [a, b, c] k2 pt2) X.env = pure (some [x, y, z])) (hij : i ≠ j := by decide) (hil : i ≠ l := by decide) (hjl : j ≠ l := by decide)
    (hi : X.N[i]? = some x := by rfl) (hj : X.N[j]? = some y := by rfl) (hl : X.N[l]? = some z := by rfl)
    (hx : X.env.scope.names.lookup x = some .local := by rfl) (hy : X.env.scope.names.lookup y = some .local := by rfl) (hz : X.env.scope.names.lookup z = some .local := by rfl)
    (hs : swapsWithSole [.Tuple [.Name x px, .Name y py, .Name z pz] kt pt] (.Tuple [a, b, c] k2 pt2) pos.line X.env = pure false := by rfl) :
    PDS X Z (.Assign [.Tuple [.Name x px, .Name y py, .Name z pz] kt pt] (.Tuple [a, b, c] k2 pt2) pos) (dPar3 i j l ta) := fun W tk => by
  refine PS.imp (ps_par3 hc hN hi hj hl hij hil hjl hx hy hz (ha W tk) hw hs) fun D σ H h => ?_
  obtain ⟨r, S, D0, R, q, k⟩ := h
  refine ⟨r, S, _, _, R, q, fun ds S1 vs H1 e1 st1 dv1 q1 => ?_, k.exx R⟩
  match ds, q1, dv1 with
  | [d, e, f], q1, dv1 =>
    obtain ⟨v, r1, ev1, h1, h2⟩ := dvs_cons.mp dv1
    obtain ⟨w, r2, ev2, h3, h4⟩ := dvs_cons.mp h2
    obtain ⟨w3, r3, ev3, h5, h6⟩ := dvs_cons.mp h4
    rw [dvs_nil.mp h6] at ev3
    rw [ev3] at ev2
    rw [ev2] at ev1
    exact ⟨v, w, w3, ev1, k.nx _ S1 _ H1 e1 ⟨(((R.sl.mono e1.evo).set i h1).set j h3).set l h5, st1⟩ q1⟩
end

/-! ### a def's promise from its body -/
def startD (N : List Str) (ds : List D) : Env_ := ds.map some ++ List.replicate (N.length - ds.length) none
theorem sl_start {K : PySem.W.Frag} {H : Hp} {N : List Str} {ds : List D} {vs : List V} (h : DVs K H ds vs) : SL K H (startD N ds) (L2.start N vs) := by
  unfold startD L2.start
  rw [← h.len]
  refine ⟨by simp [h.len], fun i d q => ?_⟩
  by_cases hi : i < ds.length
  · rw [List.getElem?_append_left (by simpa using hi), List.getElem?_map] at q
    rw [List.getElem?_append_left (by simpa [← h.len] using hi), List.getElem?_map]
    cases e : ds[i]? with
    | none => rw [e] at q; cases q
    | some d' =>
      rw [e] at q
      cases q
      obtain ⟨v, h1, h2⟩ := h.get e
      exact ⟨v, by rw [h1]; rfl, h2⟩
  · rw [List.getElem?_append_right (by simpa using hi)] at q
    have := List.getElem?_eq_some_iff.mp q
    obtain ⟨h1, h2⟩ := this
    rw [List.getElem_replicate] at h2
    cases h2
/-- what is wanted at a def's end: less may be known -/
def fin (Q0 : QD) (E0 : XD) : EndsD := { nx := fun _ S' => ∃ S0, Sub S0 S' ∧ Q0 .non S0, rt := fun d S' => ∃ S0, Sub S0 S' ∧ Q0 d S0, ex := fun c _ S' => ∃ S0, Sub S0 S' ∧ E0 c S0 }
section
variable {P : Program} {w : World} {K : PySem.W.Frag} {mg : Str → Option Value} {base : Heap} {Z : Zt}
theorem fn_body {x qual : Str} {st : Stmt} {f : Addr} {fd : FuncData} {N ps : List Str} {L : Nat} {sp : SpD} (F : Fun K x qual st f fd) (Sc : FnScope N ps (defScope st)) (len : ∀ ds S Q E, sp ds S Q E → ds.length = ps.length) (t : TDS)
    (hd : ∀ (cdv : Value) (A : Around) (outer : List Env) (s : Shared) (H : Hp) (E : XK), Room L (A.deeper (envOfC qual (defScope st) s.heap.objs.size f cdv)) → PDSs (cxOf (L2.CX P w) P w K mg base N qual (defScope st) f cdv A outer s H E) Z (defBody st) t)
    (hb : ∀ ds S Q0 E0, sp ds S Q0 E0 → t (fin Q0 E0) (startD N ds) S) : FnOk P w K mg base (L2.CX P w) (L + 1) f fd ps (liftSp K Z sp) := by
  refine F.okX Sc (fun vs H Q E h => ?_) (fun cdv A outer s H vs Q E hr h => ?_)
  · obtain ⟨ds, S, Q0, E0, st', dv, h, _⟩ := h
    rw [← dv.len]
    exact len _ _ _ _ h
  · obtain ⟨ds, S, Q0, E0, st', dv, h, k, kE⟩ := h
    refine ⟨_, hd cdv A outer s H E hr _ (takes_of rfl rfl rfl rfl), startD N ds, S, fin Q0 E0, ⟨sl_start dv, st'⟩, hb ds S Q0 E0 h, ?_⟩
    exact ⟨fun r' S' σ' H' g R' ⟨S0, s0, q⟩ => k .non S0 .non H' (g.sub s0) (R'.st.sub s0) (dv_non.mpr rfl) q, fun d S' v H' g st dv ⟨S0, s0, q⟩ => k d S0 v H' (g.sub s0) (st.sub s0) dv q, fun _ _ _ _ _ _ z => z.elim, fun _ _ _ _ _ _ z => z.elim,
      fun c r' S' dd σ' H' g R' ⟨S0, s0, q⟩ => kE c S0 dd H' (g.sub s0) (R'.st.sub s0) q⟩
/-- without defaults -/
theorem FnD.mk0 {f : Addr} {fd : FuncData} {ps : List Str} {L : Nat} {e : Ent} (F : FnOk P w K mg base (L2.CX P w) L f fd ps (liftSp K Z e.sp)) (h : ps.length = e.ar) (hd : e.dfl = []) (b : Binds K fd ps []) : FnD P w K mg base Z L f e :=
  ⟨fd, ps, F, h, fun m hm => ⟨[], [], b, .nil, fun H => by rw [hd, List.drop_nil]; exact dvs_nil.mpr rfl⟩⟩
end
end G

set_option Elab.async false
set_option linter.all false
set_option maxRecDepth 100000
set_option maxHeartbeats 4000000
/-! GI: built-ins and methods of built-in types, by data; two clauses; enumerate, zip. -/
namespace G
open PySem PySem.Spec PyProof.Rows L2
section
variable {X : Cx} {Z : Zt} {tx : Tx} {M : List Ent} {L : Nat} {a b c e o : Expr} {es : List Expr} {te to ti : TD} {ta : TDA} {pos p apos cpos : Pos} {x m : Str}
/-! ### built-ins -/
def rAbs : RDC := fun ds S Q => match ds with
  | [.int i] => Q (.int (if i < 0 then -i else i)) S
  | _ => False
def rInt : RDC := fun ds S Q => match ds with
  | [.int i] => Q (.int i) S
  | [.bl b] => Q (.int (if b then 1 else 0)) S
  | [.str z] => ∃ n, PySem.intText? z = some n ∧ z.length ≤ 640 ∧ Q (.int n) S
  | _ => False
def rStr : RDC := fun ds S Q => match ds with
  | [.int i] => i.natAbs.log2 < 1920 ∧ Q (.str (toString i)) S
  | _ => False
def rLen : RDC := fun ds S Q => match ds with
  | [.str z] => z.length ≤ sizeLine ∧ Q (.int z.length) S
  | [.tup xs] => Q (.int xs.length) S
  | [.rol xs] => Q (.int xs.length) S
  | [.ref l] => ∃ xs, S l = some (.lst xs) ∧ Q (.int xs.length) S
  | _ => False
def rList : RDC := fun ds S Q => match ds with
  | [.tup xs] => ∀ l, S l = none → Q (.ref l) (put S l (.lst xs))
  | [.rol xs] => ∀ l, S l = none → Q (.ref l) (put S l (.lst xs))
  | [.ref p] => ∃ xs, S p = some (.lst xs) ∧ ∀ l, S l = none → Q (.ref l) (put S l (.lst xs))
  | _ => False
def rTuple : RDC := fun ds S Q => match ds with
  | [.tup xs] => Q (.tup xs) S
  | [.rol xs] => Q (.tup xs) S
  | [.ref p] => ∃ xs, S p = some (.lst xs) ∧ Q (.tup xs) S
  | _ => False
def rMax : RDC := fun ds S Q => match ds with
  | [.int i, .int j] => Q (.int (if j > i then j else i)) S
  | [.ref p] => ∃ ns : List Int, S p = some (.lst (ns.map D.int)) ∧ ns ≠ [] ∧ ∀ m, m ∈ ns → (∀ y, y ∈ ns → y ≤ m) → Q (.int m) S
  | _ => False
def rMin : RDC := fun ds S Q => match ds with
  | [.int i, .int j] => Q (.int (if j < i then j else i)) S
  | [.ref p] => ∃ ns : List Int, S p = some (.lst (ns.map D.int)) ∧ ns ≠ [] ∧ ∀ m, m ∈ ns → (∀ y, y ∈ ns → m ≤ y) → Q (.int m) S
  | _ => False
def rSum : RDC := fun ds S Q => match ds with
  | [.ref p] => ∃ ns : List Int, S p = some (.lst (ns.map D.int)) ∧ Q (.int ns.sum) S
  | _ => False
theorem one_of {K : PySem.W.Frag} {H : Hp} {d : D} {vs : List V} (h : DVs K H [d] vs) : ∃ v, vs = [v] ∧ DV K H d v := by
  obtain ⟨v, r, e, h1, h2⟩ := dvs_cons.mp h
  rw [dvs_nil.mp h2] at e
  exact ⟨v, e, h1⟩
theorem two_of {K : PySem.W.Frag} {H : Hp} {d f : D} {vs : List V} (h : DVs K H [d, f] vs) : ∃ v w, vs = [v, w] ∧ DV K H d v ∧ DV K H f w := by
  obtain ⟨v, r, e, h1, h2⟩ := dvs_cons.mp h
  obtain ⟨w, e2, h3⟩ := one_of h2
  rw [e2] at e
  exact ⟨v, w, e, h1, h3⟩
theorem cd_abs : CallD X Z (.builtin "abs") rAbs := by
  intro pins s σ H vs us Q I rv h
  obtain ⟨ds, S, Q0, st, dv, h, k⟩ := h
  match ds, h, dv with
  | [.int i], h, dv =>
    obtain ⟨v, rfl, dq⟩ := one_of dv
    rw [dv_int.mp dq] at rv
    exact call_abs pins s σ H _ us Q I rv ⟨i, rfl, k _ S _ H Go.r st (dv_int.mpr rfl) h⟩
theorem cd_int : CallD X Z (.type "int") rInt := by
  intro pins s σ H vs us Q I rv h
  obtain ⟨ds, S, Q0, st, dv, h, k⟩ := h
  match ds, h, dv with
  | [.int i], h, dv =>
    obtain ⟨v, rfl, dq⟩ := one_of dv
    rw [dv_int.mp dq] at rv
    exact call_int1 pins s σ H _ us Q I rv (.inl ⟨i, rfl, k _ S _ H Go.r st (dv_int.mpr rfl) h⟩)
  | [.bl i], h, dv =>
    obtain ⟨v, rfl, dq⟩ := one_of dv
    rw [dv_bl.mp dq] at rv
    exact call_int1 pins s σ H _ us Q I rv (.inr ⟨i, rfl, k _ S _ H Go.r st (dv_int.mpr rfl) h⟩)
  | [.str z], h, dv =>
    obtain ⟨v, rfl, dq⟩ := one_of dv
    rw [dv_str.mp dq] at rv
    obtain ⟨n, h1, h2, h3⟩ := h
    exact call_int_str pins s σ H _ us Q I rv ⟨z, n, rfl, h1, h2, k _ S _ H Go.r st (dv_int.mpr rfl) h3⟩
theorem cd_str : CallD X Z (.type "str") rStr := by
  intro pins s σ H vs us Q I rv h
  obtain ⟨ds, S, Q0, st, dv, h, k⟩ := h
  match ds, h, dv with
  | [.int i], h, dv =>
    obtain ⟨v, rfl, dq⟩ := one_of dv
    rw [dv_int.mp dq] at rv
    exact call_str_int pins s σ H _ us Q I rv ⟨i, rfl, h.1, k _ S _ H Go.r st (dv_str.mpr rfl) h.2⟩
theorem cd_len : CallD X Z (.builtin "len") rLen := by
  intro pins s σ H vs us Q I rv h
  obtain ⟨ds, S, Q0, st, dv, h, k⟩ := h
  match ds, h, dv with
  | [.str z], h, dv =>
    obtain ⟨v, rfl, dq⟩ := one_of dv
    rw [dv_str.mp dq] at rv
    exact call_len_str pins s σ H _ us Q I rv ⟨z, rfl, h.1, k _ S _ H Go.r st (dv_int.mpr rfl) h.2⟩
  | [.tup xs], h, dv =>
    obtain ⟨v, rfl, dq⟩ := one_of dv
    obtain ⟨q, ws, e1, h1, d1⟩ := dv_tup.mp dq
    rw [e1] at rv
    exact call_len_seq pins s σ H _ us Q I rv ⟨q, ws, rfl, .inr h1, by rw [← d1.len]; exact k _ S _ H Go.r st (dv_int.mpr rfl) h⟩
  | [.rol xs], h, dv =>
    obtain ⟨v, rfl, dq⟩ := one_of dv
    obtain ⟨q, ws, e1, h1, d1⟩ := dv_rol.mp dq
    rw [e1] at rv
    exact call_len_seq pins s σ H _ us Q I rv ⟨q, ws, rfl, .inl h1.sq, by rw [← d1.len]; exact k _ S _ H Go.r st (dv_int.mpr rfl) h⟩
  | [.ref l], h, dv =>
    obtain ⟨v, rfl, dq⟩ := one_of dv
    rw [dv_ref.mp dq] at rv
    obtain ⟨xs, sa, h⟩ := h
    obtain ⟨ws, h1, d1⟩ := sr_lst st sa
    exact call_len_seq pins s σ H _ us Q I rv ⟨l, ws, rfl, .inl (SqL.of h1), by rw [← d1.len]; exact k _ S _ H Go.r st (dv_int.mpr rfl) h⟩
theorem cd_list : CallD X Z (.type "list") rList := by
  intro pins s σ H vs us Q I rv h
  obtain ⟨ds, S, Q0, st, dv, h, k⟩ := h
  match ds, h, dv with
  | [.tup xs], h, dv =>
    obtain ⟨v, rfl, dq⟩ := one_of dv
    obtain ⟨q, ws, e1, h1, d1⟩ := dv_tup.mp dq
    rw [e1] at rv
    exact call_list_of pins s σ H _ us Q I rv ⟨q, ws, rfl, .inr h1, fun l hl => k _ _ _ _ (Go.made hl) (st.made (o := .lst xs) hl ⟨ws, upd_same, d1.mono (Evo.new hl)⟩) (dv_ref.mpr rfl) (h l (st.free hl))⟩
  | [.rol xs], h, dv =>
    obtain ⟨v, rfl, dq⟩ := one_of dv
    obtain ⟨q, ws, e1, h1, d1⟩ := dv_rol.mp dq
    rw [e1] at rv
    exact call_list_of pins s σ H _ us Q I rv ⟨q, ws, rfl, .inl h1.sq, fun l hl => k _ _ _ _ (Go.made hl) (st.made (o := .lst xs) hl ⟨ws, upd_same, d1.mono (Evo.new hl)⟩) (dv_ref.mpr rfl) (h l (st.free hl))⟩
  | [.ref r], h, dv =>
    obtain ⟨v, rfl, dq⟩ := one_of dv
    rw [dv_ref.mp dq] at rv
    obtain ⟨xs, sa, h⟩ := h
    obtain ⟨ws, h1, d1⟩ := sr_lst st sa
    exact call_list_of pins s σ H _ us Q I rv ⟨r, ws, rfl, .inl (SqL.of h1), fun l hl => k _ _ _ _ (Go.made hl) (st.made (o := .lst xs) hl ⟨ws, upd_same, d1.mono (Evo.new hl)⟩) (dv_ref.mpr rfl) (h l (st.free hl))⟩
theorem cd_tuple : CallD X Z (.type "tuple") rTuple := by
  intro pins s σ H vs us Q I rv h
  obtain ⟨ds, S, Q0, st, dv, h, k⟩ := h
  match ds, h, dv with
  | [.tup xs], h, dv =>
    obtain ⟨v, rfl, dq⟩ := one_of dv
    obtain ⟨q, ws, e1, h1, d1⟩ := dv_tup.mp dq
    rw [e1] at rv
    exact call_tuple_of pins s σ H _ us Q I rv ⟨q, ws, rfl, .inr ⟨h1, k _ S _ H Go.r st (dv_tup.mpr ⟨q, ws, rfl, h1, d1⟩) h⟩⟩
  | [.rol xs], h, dv =>
    obtain ⟨v, rfl, dq⟩ := one_of dv
    obtain ⟨q, ws, e1, h1, d1⟩ := dv_rol.mp dq
    rw [e1] at rv
    exact call_tuple_of pins s σ H _ us Q I rv ⟨q, ws, rfl, .inl ⟨h1.sq, fun l hl => k _ S _ _ (Go.new hl) (st.new hl) (dv_tup.mpr ⟨l, ws, rfl, .inl (.inl upd_same), d1.mono (Evo.new hl)⟩) h⟩⟩
  | [.ref r], h, dv =>
    obtain ⟨v, rfl, dq⟩ := one_of dv
    rw [dv_ref.mp dq] at rv
    obtain ⟨xs, sa, h⟩ := h
    obtain ⟨ws, h1, d1⟩ := sr_lst st sa
    exact call_tuple_of pins s σ H _ us Q I rv ⟨r, ws, rfl, .inl ⟨SqL.of h1, fun l hl => k _ S _ _ (Go.new hl) (st.new hl) (dv_tup.mpr ⟨l, ws, rfl, .inl (.inl upd_same), d1.mono (Evo.new hl)⟩) h⟩⟩
theorem cd_max (hc : X.calm = true) : CallD X Z (.builtin "max") rMax := by
  intro pins s σ H vs us Q I rv h
  obtain ⟨ds, S, Q0, st, dv, h, k⟩ := h
  match ds, h, dv with
  | [.int i, .int j], h, dv =>
    obtain ⟨v, w, rfl, d1, d2⟩ := two_of dv
    rw [dv_int.mp d1, dv_int.mp d2] at rv
    exact call_max2 hc pins s σ H _ us Q I rv ⟨i, j, rfl, k _ S _ H Go.r st (dv_int.mpr rfl) h⟩
  | [.ref r], h, dv =>
    obtain ⟨v, rfl, dq⟩ := one_of dv
    rw [dv_ref.mp dq] at rv
    obtain ⟨ns, sa, hne, h⟩ := h
    obtain ⟨ws, h1, d1⟩ := sr_lst st sa
    rw [dvs_intsE d1] at h1
    exact cr_max hc pins s σ H _ us Q I rv ⟨r, ns, rfl, SqL.of h1, List.length_pos_iff.mpr hne, fun m hm hy => k _ S _ H Go.r st (dv_int.mpr rfl) (h m hm hy)⟩
theorem cd_min (hc : X.calm = true) : CallD X Z (.builtin "min") rMin := by
  intro pins s σ H vs us Q I rv h
  obtain ⟨ds, S, Q0, st, dv, h, k⟩ := h
  match ds, h, dv with
  | [.int i, .int j], h, dv =>
    obtain ⟨v, w, rfl, d1, d2⟩ := two_of dv
    rw [dv_int.mp d1, dv_int.mp d2] at rv
    exact call_min2 hc pins s σ H _ us Q I rv ⟨i, j, rfl, k _ S _ H Go.r st (dv_int.mpr rfl) h⟩
  | [.ref r], h, dv =>
    obtain ⟨v, rfl, dq⟩ := one_of dv
    rw [dv_ref.mp dq] at rv
    obtain ⟨ns, sa, hne, h⟩ := h
    obtain ⟨ws, h1, d1⟩ := sr_lst st sa
    rw [dvs_intsE d1] at h1
    exact cr_min hc pins s σ H _ us Q I rv ⟨r, ns, rfl, SqL.of h1, List.length_pos_iff.mpr hne, fun m hm hy => k _ S _ H Go.r st (dv_int.mpr rfl) (h m hm hy)⟩
theorem cd_sum (hc : X.calm = true) : CallD X Z (.builtin "sum") rSum := by
  intro pins s σ H vs us Q I rv h
  obtain ⟨ds, S, Q0, st, dv, h, k⟩ := h
  match ds, h, dv with
  | [.ref r], h, dv =>
    obtain ⟨v, rfl, dq⟩ := one_of dv
    rw [dv_ref.mp dq] at rv
    obtain ⟨ns, sa, h⟩ := h
    obtain ⟨ws, h1, d1⟩ := sr_lst st sa
    rw [dvs_intsE d1] at h1
    exact cr_sum hc pins s σ H _ us Q I rv ⟨r, ns, rfl, SqL.of h1, k _ S _ H Go.r st (dv_int.mpr rfl) h⟩
/-- list(range(a, b)) -/
def dLRg2 (ta tb : TD) : TD := fun r S Q E => ta r S (fun x S1 => tb r S1 (fun y S2 => match x, y with
  | .int i, .int j => RgOk i ∧ RgOk j ∧ j - i ≤ 1000000 ∧ ∀ l, S2 l = none → Q (.ref l) (put S2 l (.lst (rngD i (j - i).toNat)))
  | _, _ => False) E) E
theorem dvs_rng {K : PySem.W.Frag} {H : Hp} (i : Int) (n : Nat) : DVs K H (rngD i n) ((List.range n).map fun k => V.int (i + (k : Nat))) := by
  have e : rngD i n = ((List.range n).map fun k => i + ((k : Nat) : Int)).map D.int := by
    unfold rngD
    rw [List.map_map]
    rfl
  rw [e]
  have e2 : ((List.range n).map fun k => V.int (i + (k : Nat))) = ((List.range n).map fun k => i + ((k : Nat) : Int)).map V.int := by
    rw [List.map_map]
    rfl
  rw [e2]
  exact dvs_ints _

/-! ### methods of texts and lists -/
abbrev RDM := D → List D → DS → QD → Prop
def liftM (K : PySem.W.Frag) (Z : Zt) (r : RDM) : V → List V → Hp → VK → Prop := fun v vs H Q => ∃ x ds S Q0, ST K Z S H ∧ DV K H x v ∧ DVs K H ds vs ∧ r x ds S Q0 ∧ ∀ d S' v' H', Go H S H' S' → ST K Z S' H' → DV K H' d v' → Q0 d S' → Q v' H'
def MtD (X : Cx) (Z : Zt) (id : String) (r : RDM) : Prop := MtR X id (liftM X.K Z r)
/-- o.m(..) of a text -/
def dSM (r2 : RDM) (to : TD) (ta : TDA) : TD := fun r S Q E => to r S (fun x S1 => (∃ z, x = .str z) ∧ ta r S1 (fun ds S2 => r2 x ds S2 Q) E) E
theorem lift_bm {K : PySem.W.Frag} {W : WX} {T : String} {r2 : RDM} {σ : L2.St} {H : Hp} {Q : VK} (P : D → DS → Prop) (hP : ∀ H S x v, ST K Z S H → DV K H x v → P x S → tyV K T v H)
    (h : lift K Z W (fun r S Q E => to r S (fun x S1 => P x S1 ∧ ta r S1 (fun ds S2 => r2 x ds S2 Q) E) E) σ H Q) : tBM K T (liftM K Z r2) (lift K Z W to) (liftA K Z W ta) σ H Q := by
  obtain ⟨r, S, Q0, E0, R, q, k, kE⟩ := h
  refine ⟨r, S, _, E0, R, q, fun x S1 v H1 e1 st1 dv1 q1 => ⟨hP H1 S1 x v st1 dv1 q1.1, ?_⟩, kE⟩
  exact ⟨r, S1, _, E0, R.go e1 st1, q1.2, fun ds S2 vs H2 e2 st2 dv2 q2 => ⟨x, ds, S2, Q0, st2, dv1.mono e2.evo, dv2, q2, fun d S' v' H' e' => k d S' v' H' ((e1.trans e2).trans e')⟩, fun c S' dd H' e' => kE c S' dd H' (e1.trans e')⟩
theorem pd_sm {name : Str} {id : String} {r2 : RDM} (slot : Slot "str" name id) (hty : typeOf (.builtin id) = pure (.type "method_descriptor")) (hm : MtD X Z id r2) (ho : PD X Z o to) (ha : PDA X Z (e :: es) ta)
    (hbase : attributeBase o name X.env (eval o X.env) = eval o X.env := by rfl)
    (hfew : ((backTo cpos (starEach (e :: es) X.env)).all (fun x => !x.1) && (backToKw cpos (keywordEach [] X.env)).all (fun x => x.1.isSome)
      && decide ((e :: es).length + ([] : List Keyword).length + (if ([] : List Keyword).isEmpty then 0 else 1) < 30)) = true := by rfl)
    (hline : (apos.endLine == cpos.line) = true := by rfl) (hs : starEach (e :: es) X.env = (false, eval e X.env) :: starEach es X.env := by rfl) (hplain : (backTo cpos (starEach es X.env)).any (·.1) = false := by rfl) :
    PD X Z (.Call (.Attribute o name apos) (e :: es) [] cpos) (dSM r2 to ta) := fun W tk =>
  PE.imp (pe_bm PySem.F.plainAttrs_str slot hty hm (ho W tk) (ha W tk) hbase hfew hline hs hplain) fun σ H Q h => lift_bm (T := "str") (fun x _ => ∃ z, x = D.str z) (fun H S x v _ dv hp => by
    obtain ⟨z, rfl⟩ := hp
    rw [dv_str.mp dv]
    rfl) h
/-- o.m(..) of a list -/
def dLM (r2 : RDM) (to : TD) (ta : TDA) : TD := fun r S Q E => to r S (fun x S1 => (∃ l ds, x = .ref l ∧ S1 l = some (.lst ds)) ∧ ta r S1 (fun ds S2 => r2 x ds S2 Q) E) E
theorem pd_lm {name : Str} {id : String} {r2 : RDM} (slot : Slot "list" name id) (hty : typeOf (.builtin id) = pure (.type "method_descriptor")) (hm : MtD X Z id r2) (ho : PD X Z o to) (ha : PDA X Z (e :: es) ta)
    (hbase : attributeBase o name X.env (eval o X.env) = eval o X.env := by rfl)
    (hfew : ((backTo cpos (starEach (e :: es) X.env)).all (fun x => !x.1) && (backToKw cpos (keywordEach [] X.env)).all (fun x => x.1.isSome)
      && decide ((e :: es).length + ([] : List Keyword).length + (if ([] : List Keyword).isEmpty then 0 else 1) < 30)) = true := by rfl)
    (hline : (apos.endLine == cpos.line) = true := by rfl) (hs : starEach (e :: es) X.env = (false, eval e X.env) :: starEach es X.env := by rfl) (hplain : (backTo cpos (starEach es X.env)).any (·.1) = false := by rfl) :
    PD X Z (.Call (.Attribute o name apos) (e :: es) [] cpos) (dLM r2 to ta) := fun W tk =>
  PE.imp (pe_bm PySem.F.plainAttrs_list slot hty hm (ho W tk) (ha W tk) hbase hfew hline hs hplain) fun σ H Q h => lift_bm (T := "list") (fun x S => ∃ l ds, x = D.ref l ∧ S l = some (.lst ds)) (fun H S x v st dv hp => by
    obtain ⟨l, ds, rfl, sa⟩ := hp
    rw [dv_ref.mp dv]
    obtain ⟨ws, h1, _⟩ := sr_lst st sa
    exact .inl ⟨rfl, ws, SqL.of h1⟩) h
def rPart : RDM := fun x ds S Q => match x, ds with
  | .str a, [.str b] => (b.length == 0) = false ∧ a.length ≤ sizeLine ∧ Q (.tup [.str (Txt.partition a b).1, .str (Txt.partition a b).2.1, .str (Txt.partition a b).2.2]) S
  | _, _ => False
theorem md_partition : MtD X Z "str.partition" rPart := by
  intro pins s σ H v vs u us Q I rx rv h
  obtain ⟨x, ds, S, Q0, st, dx, dv, h, k⟩ := h
  match x, ds, h, dx, dv with
  | .str a, [.str b], h, dx, dv =>
    obtain ⟨w, rfl, dw⟩ := one_of dv
    rw [dv_str.mp dx] at rx
    rw [dv_str.mp dw] at rv
    exact mt_partition pins s σ H _ _ u us Q I rx rv ⟨a, b, rfl, rfl, h.1, h.2.1, fun l hl => k _ S _ _ (Go.new hl) (st.new hl) (dv_tup.mpr ⟨l, _, rfl, .inl (.inl upd_same), DVs.cons (dv_str.mpr rfl) (DVs.cons (dv_str.mpr rfl) (DVs.cons (dv_str.mpr rfl) (dvs_nil.mpr rfl)))⟩) h.2.2⟩
def rStarts : RDM := fun x ds S Q => match x, ds with
  | .str a, [.str b] => Q (.bl (Txt.startswith a b)) S
  | _, _ => False
theorem md_startswith : MtD X Z "str.startswith" rStarts := by
  intro pins s σ H v vs u us Q I rx rv h
  obtain ⟨x, ds, S, Q0, st, dx, dv, h, k⟩ := h
  match x, ds, h, dx, dv with
  | .str a, [.str b], h, dx, dv =>
    obtain ⟨w, rfl, dw⟩ := one_of dv
    rw [dv_str.mp dx] at rx
    rw [dv_str.mp dw] at rv
    exact mt_startswith pins s σ H _ _ u us Q I rx rv ⟨a, b, rfl, rfl, k _ S _ H Go.r st (dv_bl.mpr rfl) h⟩
def rSIndex : RDM := fun x ds S Q => match x, ds with
  | .str a, [.str b] => ∃ i rest, Builtin.Str.occurrences a b 0 a.length 1 = i :: rest ∧ Q (.int (i : Nat)) S
  | _, _ => False
theorem md_sindex : MtD X Z "str.index" rSIndex := by
  intro pins s σ H v vs u us Q I rx rv h
  obtain ⟨x, ds, S, Q0, st, dx, dv, h, k⟩ := h
  match x, ds, h, dx, dv with
  | .str a, [.str b], h, dx, dv =>
    obtain ⟨w, rfl, dw⟩ := one_of dv
    rw [dv_str.mp dx] at rx
    rw [dv_str.mp dw] at rv
    obtain ⟨i, rest, h1, h2⟩ := h
    exact mt_sindex pins s σ H _ _ u us Q I rx rv ⟨a, b, i, rest, rfl, rfl, h1, k _ S _ H Go.r st (dv_int.mpr rfl) h2⟩
def rApp : RDM := fun x ds S Q => match x, ds with
  | .ref l, [d] => ∃ xs, S l = some (.lst xs) ∧ xs.length < sizeLine ∧ Q .non (put S l (.lst (xs ++ [d])))
  | _, _ => False
theorem md_append : MtD X Z "list.append" rApp := by
  intro pins s σ H v vs u us Q I rx rv h
  obtain ⟨x, ds, S, Q0, st, dx, dv, h, k⟩ := h
  match x, ds, h, dx, dv with
  | .ref l, [d], h, dx, dv =>
    obtain ⟨w, rfl, dw⟩ := one_of dv
    rw [dv_ref.mp dx] at rx
    obtain ⟨xs, sa, hz, h⟩ := h
    obtain ⟨ws, h1, d1⟩ := sr_lst st sa
    have ev : Evo H (upd H l (.lst (ws ++ [w]))) := mut_evo h1 trivial
    exact mt_append pins s σ H _ _ u us Q I rx rv ⟨l, ws, w, rfl, rfl, h1, by rw [← d1.len]; exact hz, k _ _ _ _ (Go.wrote (u' := .lst (xs ++ [d])) ev sa) (st.wrote h1 trivial ⟨_, upd_same, (d1.append (DVs.cons dw (dvs_nil.mpr rfl))).mono ev⟩) (dv_non.mpr rfl) h⟩

/-! ### in, not in -/
/-- one sign in a text; x in a list or tuple of plain data -/
def flatD : D → Bool
  | .non => true
  | .bl _ => true
  | .int _ => true
  | .str _ => true
  | _ => false
def inD (x : D) (xs : List D) : Bool := xs.any fun y => deq y x
def memIn (neg : Bool) : RD2 := fun x y S Q => match y with
  | .str z => (∃ c, x = .str ⟨#[c]⟩ ∧ Q (.bl (if neg then !decide (c ∈ z.cps.toList) else decide (c ∈ z.cps.toList))) S)
  | .tup ds => flatD x = true ∧ ds.all flatD = true ∧ Q (.bl (if neg then !inD x ds else inD x ds)) S
  | .ref l => ∃ ds, S l = some (.lst ds) ∧ flatD x = true ∧ ds.all flatD = true ∧ Q (.bl (if neg then !inD x ds else inD x ds)) S
  | _ => False
theorem flat_dv {K : PySem.W.Frag} {H : Hp} {x : D} {v : V} (h : DV K H x v) (f : flatD x = true) : flatV v = true := by
  cases x with
  | non => rw [dv_non.mp h]; rfl
  | bl b => rw [dv_bl.mp h]; rfl
  | int b => rw [dv_int.mp h]; rfl
  | str b => rw [dv_str.mp h]; rfl
  | _ => cases f
theorem eqV_dv {K : PySem.W.Frag} {H : Hp} {x y : D} {v w : V} (h : DV K H x v) (h' : DV K H y w) (f : flatD x = true) (f' : flatD y = true) : eqV v w = deq x y := by
  cases x <;> first | (cases f; done) | skip
  all_goals (cases y <;> first | (cases f'; done) | skip)
  all_goals (simp only [DV] at h h'; subst h; subst h'; simp [eqV, deq])
end
end G

set_option Elab.async false
set_option linter.all false
set_option maxRecDepth 100000
set_option maxHeartbeats 4000000
/-! GJ: in, not in; list(range(..)); two clauses; any over a text's signs; lambdas that capture nothing. -/
namespace G
open PySem PySem.Spec PyProof.Rows L2
section
variable {X : Cx} {Z : Zt} {tx : Tx} {M : List Ent} {L : Nat} {a b c e o : Expr} {es : List Expr} {te to ti ta' tb' : TD} {ta : TDA} {pos p apos cpos : Pos} {x m : Str}
/-! ### in, not in -/
theorem flat_dvs {K : PySem.W.Frag} {H : Hp} : ∀ {ds : List D} {vs : List V}, DVs K H ds vs → ds.all flatD = true → vs.all flatV = true
  | [], _, h, _ => by rw [dvs_nil.mp h]; rfl
  | d :: ds, _, h, f => by
    obtain ⟨v, r, rfl, h1, h2⟩ := dvs_cons.mp h
    rw [List.all_cons, Bool.and_eq_true] at f ⊢
    exact ⟨flat_dv h1 f.1, flat_dvs h2 f.2⟩
theorem inV_dv {K : PySem.W.Frag} {H : Hp} {x : D} {v : V} (h : DV K H x v) (f : flatD x = true) : ∀ {ds : List D} {vs : List V}, DVs K H ds vs → ds.all flatD = true → inV v vs = inD x ds
  | [], _, h', _ => by rw [dvs_nil.mp h']; rfl
  | d :: ds, _, h', f' => by
    obtain ⟨w, r, rfl, h1, h2⟩ := dvs_cons.mp h'
    rw [List.all_cons, Bool.and_eq_true] at f'
    have ih := inV_dv h f h2 f'.2
    unfold inV inD at ih ⊢
    rw [List.any_cons, List.any_cons, eqV_dv h1 h f'.1 f, ih]
theorem od_mem {neg : Bool} {op : Value → Value → Sem Value} (o1 : OpR X op (rIn X.K neg)) (o2 : OpR X op (fun x y H Q => ∃ (c : Nat) (z : Str), x = .str ⟨#[c]⟩ ∧ y = .str z ∧ Q (.bl (if neg then !decide (c ∈ z.cps.toList) else decide (c ∈ z.cps.toList))) H)) : OpD X Z op (memIn neg) := by
  intro pins s σ H v w u u' Q I rx ry h
  obtain ⟨x, y, S, Q0, st, hx, hy, h, k⟩ := h
  cases y with
  | str z =>
    obtain ⟨c, rfl, h⟩ : ∃ c, x = .str ⟨#[c]⟩ ∧ Q0 (.bl (if neg then !decide (c ∈ z.cps.toList) else decide (c ∈ z.cps.toList))) S := h
    rw [dv_str.mp hx] at rx
    rw [dv_str.mp hy] at ry
    exact o2 pins s σ H _ _ _ _ Q I rx ry ⟨c, z, rfl, rfl, k _ S _ H Go.r st (dv_bl.mpr rfl) h⟩
  | tup ds =>
    obtain ⟨f1, f2, h⟩ : flatD x = true ∧ ds.all flatD = true ∧ Q0 (.bl (if neg then !inD x ds else inD x ds)) S := h
    obtain ⟨q, vs, e1, h1, d1⟩ := dv_tup.mp hy
    rw [e1] at ry
    exact o1 pins s σ H _ _ _ _ Q I rx ry ⟨q, vs, rfl, .inr h1, flat_dv hx f1, flat_dvs d1 f2, by rw [inV_dv hx f1 d1 f2]; exact k _ S _ H Go.r st (dv_bl.mpr rfl) h⟩
  | ref l =>
    obtain ⟨ds, sa, f1, f2, h⟩ : ∃ ds, S l = some (.lst ds) ∧ flatD x = true ∧ ds.all flatD = true ∧ Q0 (.bl (if neg then !inD x ds else inD x ds)) S := h
    rw [dv_ref.mp hy] at ry
    obtain ⟨vs, h1, d1⟩ := sr_lst st sa
    exact o1 pins s σ H _ _ _ _ Q I rx ry ⟨l, vs, rfl, .inl (SqL.of h1), flat_dv hx f1, flat_dvs d1 f2, by rw [inV_dv hx f1 d1 f2]; exact k _ S _ H Go.r st (dv_bl.mpr rfl) h⟩
  | _ => exact h.elim
theorem od_in : OpD X Z (compareOp .In) (memIn false) := od_mem op_in_seq (by simpa using op_in_sign)
theorem od_notIn : OpD X Z (compareOp .NotIn) (memIn true) := od_mem op_notIn_seq (by simpa using op_notIn_sign)

/-! ### list(range(a, b)) -/
theorem pd_listRg2 {p2 pos2 : Pos} (hM : TxOk X.prog X.w X.K X.mg X.base Z tx M) (hc : X.calm = true) (i j : Nat) (hN : tx.bl i = some ("list" : Str)) (hN2 : tx.bl j = some ("range" : Str)) (hg : Gl X "list") (hg2 : Gl X "range") (ha : PD X Z a ta') (hb : PD X Z b tb')
    (na : starEach [a, b] X.env = (false, eval a X.env) :: starEach [b] X.env := by rfl) (nb : starEach [b] X.env = (false, eval b X.env) :: starEach [] X.env := by rfl) (hp : (backTo pos2 (starEach [b] X.env)).any (·.1) = false := by rfl)
    (nc : starEach [.Call (.Name "range" p2) [a, b] [] pos2] X.env = (false, eval (.Call (.Name "range" p2) [a, b] [] pos2) X.env) :: starEach [] X.env := by rfl) :
    PD X Z (.Call (.Name "list" p) [.Call (.Name "range" p2) [a, b] [] pos2] [] pos) (dLRg2 ta' tb') := fun W tk => by
  refine PE.imp (pe_listRg hc hg (hM.bl i _ hN) (prg_2 hg2 (hM.bl j _ hN2) (ha W tk) (hb W tk) na nb hp) nc) fun σ H Q h => ?_
  obtain ⟨r, S, Q0, E0, R, q, k, kE⟩ := h
  refine ⟨r, S, _, E0, R, q, fun x S1 v H1 e1 st1 dv1 q1 => ?_, kE⟩
  refine ⟨r, S1, _, E0, R.go e1 st1, q1, fun y S2 w H2 e2 st2 dv2 q2 => ?_, fun c S2 dd H2 e2 => kE c S2 dd H2 (e1.trans e2)⟩
  cases x with
  | int i =>
    cases y with
    | int j =>
      obtain ⟨r1, r2, r3, q3⟩ : RgOk i ∧ RgOk j ∧ j - i ≤ 1000000 ∧ ∀ l, S2 l = none → Q0 (.ref l) (put S2 l (.lst (rngD i (j - i).toNat))) := q2
      refine ⟨i, j, dv_int.mp dv1, dv_int.mp dv2, ⟨r1.1, r1.2, r2.1, r2.2, by omega⟩, fun l hl => ?_⟩
      exact k _ _ _ _ ((e1.trans e2).trans (Go.made hl)) (st2.made (o := .lst (rngD i (j - i).toNat)) hl ⟨_, upd_same, dvs_rng i _⟩) (dv_ref.mpr rfl) (q3 l (st2.free hl))
    | _ => exact q2.elim
  | _ => cases y <;> exact q2.elim

/-! ### two clauses -/
/-- [elt for tg in iter if .. for tg1 in iter1 if ..]: Pv ahead of the outer turns, Pw ahead of the inner ones of the i-th -/
def dLc2 (wi : TDI) (g : TDG) (tt : TDT) (wi1 : TDI) (g1 : TDG) (tt1 : TDT) (te : TD) (vs vs1 : List Nat) : TD := fun r S Q E => wi r S (fun ds ok S1 => ds.length ≤ sizeLine ∧ ∃ Pv : Nat → List D → DS → Prop, Pv 0 [] S1 ∧ (∀ i acc S, Pv i acc S → ok S) ∧
  (∀ i d acc S, ds[i]? = some d → Pv i acc S → g d (wipeD r vs) S (fun r2 S2 => tt r2 S2 (fun b S3 =>
    if b = true then wi1 r2 S3 (fun ds1 ok1 S4 => ∃ Pw : Nat → List D → DS → Prop, Pw 0 acc S4 ∧ (∀ j acc S, Pw j acc S → ok1 S ∧ acc.length < sizeLine) ∧
      (∀ j d1 acc S, ds1[j]? = some d1 → Pw j acc S → g1 d1 (wipeD r2 vs1) S (fun r5 S5 => tt1 r5 S5 (fun b S6 =>
        if b = true then te r5 S6 (fun y S7 => ∃ S0, Sub S0 S7 ∧ Pw (j + 1) (acc ++ [y]) S0) nofl else ∃ S0, Sub S0 S6 ∧ Pw (j + 1) acc S0) nofl) nofl) ∧
      ∀ acc S, Pw ds1.length acc S → ∃ S0, Sub S0 S ∧ Pv (i + 1) acc S0) nofl
    else ∃ S0, Sub S0 S3 ∧ Pv (i + 1) acc S0) nofl) nofl) ∧
  ∀ acc S l, Pv ds.length acc S → S l = none → Q (.ref l) (put S l (.lst acc))) E
variable {elt tg iter tg1 iter1 : Expr} {ifs ifs1 : List Expr} {scope : Scope} {own : List (Str × Nat)} {wi wi1 : TDI} {g g1 : TDG} {ts ts1 vs vs1 : List Nat} {tt tt1 : TDT}
theorem lift_lc2 {K : PySem.W.Frag} {W : WX} {te : TD} {σ : L2.St} {H : Hp} {Q : VK} (hts : ∀ i ∈ ts, i ∈ vs) (hts1 : ∀ i ∈ ts1, i ∈ vs1) (h : lift K Z W (dLc2 wi g tt wi1 g1 tt1 te vs vs1) σ H Q) :
    tLc2 (liftI K Z W wi) (liftG K Z (fun _ _ _ _ => False) ts g) (liftT K Z (fun _ _ _ _ => False) tt) (liftI K Z (fun _ _ _ _ => False) wi1) (liftG K Z (fun _ _ _ _ => False) ts1 g1) (liftT K Z (fun _ _ _ _ => False) tt1) (lift K Z (fun _ _ _ _ => False) te) vs vs1 σ H Q := by
  obtain ⟨r, S, Q0, E0, R, q, k, kE⟩ := h
  refine ⟨r, S, _, E0, R, q, fun ds ok S1 J H1 e1 st1 yy q1 => ?_, kE⟩
  obtain ⟨hsz, Pv, p0, pok, pt, pe⟩ := q1
  intro Dl hDl
  have nS : S1 Dl = none := st1.free hDl
  have n0 : H Dl = none := by
    cases z : H Dl with
    | none => rfl
    | some o => exact absurd hDl (e1.evo.dom Dl (by rw [z]; exact fun z => nomatch z))
  refine ⟨fun i m H' => m = ds.length - i ∧ i ≤ ds.length ∧ ∃ acc S', Turn0 K Z (wipeD r vs) (wipe σ vs) H S H1 Dl acc S' H' ∧ Pv i acc S',
    ⟨ds.length, by simp, Nat.zero_le _, [], S1, ⟨e1.trans (Go.new hDl), Evo.new hDl, st1.new hDl, ((R.sl.mono e1.evo).wipe vs).mono (Evo.new hDl), nS, [], upd_same, dvs_nil.mpr rfl⟩, p0⟩, ?_⟩
  rintro i m H' ⟨rfl, hi, acc, S', T', p'⟩
  obtain ⟨y1, y2⟩ := yy i S' H' T'.ev T'.st (pok i acc S' p')
  by_cases hlt : i < ds.length
  · have hd : ds[i]? = some ds[i] := List.getElem?_eq_getElem hlt
    obtain ⟨go, y1⟩ := y1 _ hd
    refine .inr ⟨go, fun H2 => ∃ acc2 S2, Turn0 K Z (wipeD r vs) (wipe σ vs) H S H1 Dl acc2 S2 H2 ∧ Pv (i + 1) acc2 S2, fun H2 ⟨acc2, S2, h2, h3⟩ => ⟨ds.length - (i + 1), by omega, rfl, hlt, acc2, S2, h2, h3⟩, fun x H2 y => ?_⟩
    obtain ⟨dx, g2, st2⟩ := y1 x H2 y
    have T2 := T'.step g2 st2 (Sub.refl _)
    refine ⟨ds[i], wipeD r vs, S', _, _, ⟨T2.sl, st2⟩, dx, pt i _ acc S' hd p', fun r3 S3 σ3 H3 e3 R3 kp q3 => ⟨kp.wipe hts, ?_⟩, fun _ _ _ _ _ _ z => z.elim⟩
    have T3 := T2.step e3 R3.st (Sub.refl _)
    refine ⟨r3, S3, _, _, R3, q3, fun b S4 H4 e4 st4 q4 => ?_, fun _ _ _ _ _ _ z => z.elim⟩
    have T4 := T3.step e4 st4 (Sub.refl _)
    cases b with
    | false =>
      obtain ⟨S6, hs, p6⟩ := (if_neg Bool.false_ne_true).mp q4
      exact iteF ⟨acc, S6, T3.step e4 st4 hs, p6⟩
    | true =>
      have R4 : Rel K Z r3 S4 σ3 H4 := R3.go e4 st4
      refine iteT ⟨r3, S4, _, _, R4, (if_pos rfl).mp q4, fun ds1 ok1 S5 J1 H5 e5 st5 yy1 q5 => ?_, fun _ _ _ _ _ _ z => z.elim⟩
      obtain ⟨Pw, w0, wok, wt, we⟩ := q5
      have T5 := T4.step e5 st5 (Sub.refl _)
      refine ⟨fun j k H' => k = ds1.length - j ∧ j ≤ ds1.length ∧ ∃ acc' S', Evo H5 H' ∧ Turn0 K Z (wipeD r vs) (wipe σ vs) H S H1 Dl acc' S' H' ∧ Pw j acc' S', ⟨ds1.length, by simp, Nat.zero_le _, acc, S5, Evo.refl _, T5, w0⟩, ?_⟩
      rintro j k' H6 ⟨rfl, hj, acc', S6, ev6, T6, w6⟩
      obtain ⟨z1, z2⟩ := yy1 j S6 H6 ev6 T6.st (wok j acc' S6 w6).1
      by_cases hlt1 : j < ds1.length
      · have hd1 : ds1[j]? = some ds1[j] := List.getElem?_eq_getElem hlt1
        obtain ⟨go1, z1⟩ := z1 _ hd1
        refine .inr ⟨go1, fun H7 => ∃ acc2 S2, Evo H5 H7 ∧ Turn0 K Z (wipeD r vs) (wipe σ vs) H S H1 Dl acc2 S2 H7 ∧ Pw (j + 1) acc2 S2, fun H7 ⟨acc2, S2, h1, h2, h3⟩ => ⟨ds1.length - (j + 1), by omega, rfl, hlt1, acc2, S2, h1, h2, h3⟩, fun x1 H7 y7 => ?_⟩
        obtain ⟨dx1, g7, st7⟩ := z1 x1 H7 y7
        have T7 := T6.step g7 st7 (Sub.refl _)
        have sl7 : SL K H7 (wipeD r3 vs1) (wipe σ3 vs1) := (R4.sl.mono (e5.evo.trans (ev6.trans g7.evo))).wipe vs1
        refine ⟨ds1[j], wipeD r3 vs1, S6, _, _, ⟨sl7, st7⟩, dx1, wt j _ acc' S6 hd1 w6, fun r8 S8 σ8 H8 e8 R8 kp8 q8 => ⟨kp8.wipe hts1, ?_⟩, fun _ _ _ _ _ _ z => z.elim⟩
        have T8 := T7.step e8 R8.st (Sub.refl _)
        refine ⟨r8, S8, _, _, R8, q8, fun b S9 H9 e9 st9 q9 => ?_, fun _ _ _ _ _ _ z => z.elim⟩
        have T9 := T8.step e9 st9 (Sub.refl _)
        have ev9 : Evo H5 H9 := ((ev6.trans g7.evo).trans e8.evo).trans e9.evo
        cases b with
        | true =>
          refine iteT ⟨r8, S9, _, _, R8.go e9 st9, (if_pos rfl).mp q9, fun y' Sa v Ha ea sta dva ⟨S0, hs, p6⟩ => ?_, fun _ _ _ _ _ _ z => z.elim⟩
          have Ta := T9.step ea sta hs
          obtain ⟨ws, h1, h2, Tb⟩ := Ta.app n0 dva
          exact ⟨ws, h1, by rw [h2]; exact (wok j acc' S6 w6).2, acc' ++ [y'], S0, (ev9.trans ea.evo).trans (mut_evo h1 trivial), Tb, p6⟩
        | false =>
          obtain ⟨S0, hs, p6⟩ := (if_neg Bool.false_ne_true).mp q9
          exact iteF ⟨acc', S0, ev9, T8.step e9 st9 hs, p6⟩
      · have e : j = ds1.length := by omega
        subst e
        obtain ⟨S0, hs, p6⟩ := we acc' S6 w6
        exact .inl ⟨z2 (Nat.le_refl _), acc', S0, T6.step Go.r T6.st hs, p6⟩
  · have e : i = ds.length := by omega
    subst e
    obtain ⟨ws, h1, h2⟩ := T'.at_
    refine .inl ⟨y2 (Nat.le_refl _), k (.ref Dl) (put S' Dl (.lst acc)) _ _ ⟨T'.go.evo, fun b h3 h4 => ?_, T'.go.un⟩ ⟨fun b o eb => ?_, T'.st.tb⟩ (dv_ref.mpr rfl) (pe acc S' Dl p' T'.no)⟩
    · rw [put_ne (fun z => h3 (by rw [z]; exact n0))]
      exact T'.go.fr b h3 h4
    · by_cases hb : b = Dl
      · subst hb
        rw [put_same] at eb
        cases eb
        exact ⟨ws, h1, h2⟩
      · rw [put_ne hb] at eb
        exact T'.st.sr b o eb
theorem pd_lc2 {te : TD} (hc : X.calm = true) (hN : X.N.Nodup) (hi : PDI X Z tg iter wi) (own : List (Str × Nat)) (ok : BlkOk X.N X.env.scope scope own) (hts : ∀ i ∈ ts, i ∈ own.map (·.2)) (hts1 : ∀ i ∈ ts1, i ∈ vs1) (hv : ∀ i ∈ vs1, i ∈ own.map (·.2))
    (hg : ∀ (s : Shared) (H : Hp) (C : Addr) (cl : List (Str × Addr)) (fp : List Addr), PDG (X.blk s H scope (compEnvC scope cl C X.env) fp) Z tg ts g) (ht : ∀ (s : Shared) (H : Hp) (C : Addr) (cl : List (Str × Addr)) (fp : List Addr), PDTs (X.blk s H scope (compEnvC scope cl C X.env) fp) Z ifs tt)
    (hi1 : ∀ (s : Shared) (H : Hp) (C : Addr) (cl : List (Str × Addr)) (fp : List Addr), PDI (X.blk s H scope (compEnvC scope cl C X.env) fp) Z tg1 iter1 wi1)
    (hg1 : ∀ (s : Shared) (H : Hp) (C : Addr) (cl : List (Str × Addr)) (fp : List Addr), PDG (X.blk s H scope (compEnvC scope cl C X.env) fp) Z tg1 ts1 g1) (ht1 : ∀ (s : Shared) (H : Hp) (C : Addr) (cl : List (Str × Addr)) (fp : List Addr), PDTs (X.blk s H scope (compEnvC scope cl C X.env) fp) Z ifs1 tt1)
    (he : ∀ (s : Shared) (H : Hp) (C : Addr) (cl : List (Str × Addr)) (fp : List Addr), PD (X.blk s H scope (compEnvC scope cl C X.env) fp) Z elt te) (hs : ∀ x, foldedSetIterable iter X.env x = pure x := by intro _; rfl) (hs1 : ∀ env x, foldedSetIterable iter1 env x = pure x := by intro _ _; rfl) :
    PD X Z (.ListComp elt [⟨tg, iter, ifs, 0⟩, ⟨tg1, iter1, ifs1, 0⟩] scope pos) (dLc2 wi g tt wi1 g1 tt1 te (own.map (·.2)) vs1) := fun W tk =>
  PE.imp (pe_lc2 (g := liftG X.K Z (fun _ _ _ _ => False) ts g) (tt := liftT X.K Z (fun _ _ _ _ => False) tt) (g1 := liftG X.K Z (fun _ _ _ _ => False) ts1 g1) (tt1 := liftT X.K Z (fun _ _ _ _ => False) tt1) (wi1 := liftI X.K Z (fun _ _ _ _ => False) wi1) (te := lift X.K Z (fun _ _ _ _ => False) te) hc hN (hi W tk) ok hv (fun s H C cl fp => hg s H C cl fp _ takesF) (fun s H C cl fp => ht s H C cl fp _ takesF)
    (fun s H C cl fp => hi1 s H C cl fp _ takesF) (fun s H C cl fp => hg1 s H C cl fp _ takesF) (fun s H C cl fp => ht1 s H C cl fp _ takesF) (fun s H C cl fp => he s H C cl fp _ takesF) hs hs1) fun _ _ _ h => lift_lc2 hts hts1 h
end
end G

set_option Elab.async false
set_option linter.all false
set_option maxRecDepth 100000
set_option maxHeartbeats 4000000
/-! GK: any over a text's signs, the test may read globals; lambdas that capture nothing. -/
namespace G
open PySem PySem.Spec PyProof.Rows L2 GxR
section
variable {X : Cx} {pins : List (Addr × Obj)} {σ : L2.St} {H : Hp} {s : Shared}
/-- the element: a test of the sign c; globals may be read -/
def EltG (prog : Program) (w : World) (mg : Str → Option Value) (scope : Scope) (x : Str) (elt : Expr) (pb : Nat → Bool) : Prop :=
  ∀ (cenv : Env) (A' : Around) (E' : Value → Shared → Prop) (c : Nat) (t : Tok) (s₂ : Shared) (m₂ : Str → Option Value), cenv.scope = scope → cenv.globals = mainGlobals → s₂.heap.Ns mainGlobals mg → s₂.heap.Ns cenv.locals m₂ → m₂ x = some (.str ⟨#[c]⟩ t) →
    wpAny (model prog w) A' (eval elt cenv) (fun y s₃ => y = .bool (pb c) ∧ Keeps s₂ s₃) E' s₂
/-- x not in NAME, a module's text -/
theorem elt_notIn_glob {prog : Program} {w : World} {mg : Str → Option Value} {scope : Scope} {x y : Str} {z : Str} {tz : Tok} {p1 p2 p3 : Pos} (hm : mg y = some (.str z tz)) (hk : scope.kind = .function) (hl : scope.names.lookup x = some .local) (hy : scope.names.lookup y = some .globalImplicit)
    (hd : (x == ("__debug__" : Str)) = false := by decide) (hd2 : (y == ("__debug__" : Str)) = false := by decide) :
    EltG prog w mg scope x (.Compare (.Name x p1) [.NotIn] [.Name y p2] p3) (fun c => !decide (c ∈ z.cps.toList)) := by
  intro cenv A' E' c t s₂ m₂ hs hg hN hn hv
  refine wpAny_Compare1 ?_
  refine wpAny_Name (wpAny_loadName_local (by rw [hs]; exact hk) (show cenv.scope.names.lookup x = some .local by rw [hs]; exact hl) hn hv ?_) hd
  refine Calls.Name_function_global (by rw [hs]; exact hk) (show cenv.scope.names.lookup y = some .globalImplicit by rw [hs]; exact hy) (Calls.loadGlobal_global (by rw [hg]; exact hN) hm ?_) hd2
  refine PyProof.Rows.notIn_str ⟨?_, keeps_tok _ _⟩
  rw [PySem.StrLaws.found_one z c]
theorem Ns.at_ {h h' : Heap} {d : Addr} {m : Str → Option Value} (hn : h.Ns d m) (k : ∀ o, h.get? d = some o → h'.get? d = some o) : h'.Ns d m := by
  obtain ⟨ob, es, ep, ho, r⟩ := hn
  exact ⟨ob, es, ep, k _ ho, r⟩
theorem gen_strG {c P : Addr} {elt iter : Expr} {x : Str} {px gpos : Pos} {scope : Scope} {pb : Nat → Bool} {te : TE} {k : Nat} {Q' : Value → Shared → Prop} {R : Str → Hp → Prop}
    (hr : Room k X.A) (TB : GxR.TabB X.base X.mg c P) (hcode : X.env.code = .ref c) (S : GenS X.env scope x) (hi : PE X iter te) (hel : EltG X.prog X.w X.mg scope x elt pb)
    (hs : ∀ v, genFold iter X.env v = pure v) (I : Inv X pins σ H s) (h : te σ H fun v H1 => ∃ a : Str, v = .str a ∧ TabG H1 P ∧ R a H1)
    (hQ : ∀ a H1 g s5, R a H1 → Ready X pins σ H1 P a pb g s5 → Q' (.ref g) s5) :
    wpAny (model X.prog X.w) X.A (eval (.GeneratorExp elt [⟨.Name x px, iter, [], 0⟩] scope gpos) X.env) Q' X.xe s := by
  refine wpAny_GeneratorExp_walksQ hr.hd S.co (closure_ok S.free) S.cell S.dot S.loc S.kind (by have := hr.dp; omega) ?_ hs
  refine thn (hi.run pins s σ H _ I h) fun xv s1 ⟨v, H1, I1, r1, q1⟩ => ?_
  obtain ⟨a, rfl, ⟨ps, hP, ht⟩, q1⟩ := q1
  obtain ⟨t, rfl⟩ := _root_.id r1
  refine wpAny_pyIter_str fun o St W hst => ?_
  have hPs : s1.heap.get? P = some { cls := .none, data := .fields ps } := I1.hok P _ hP
  have hPlt : P < s1.heap.objs.size := Heap.lt_size hPs
  have hP2 : (s1.heap.push o).get? P = some { cls := .none, data := .fields ps } := Heap.get?_push_of_some _ hPs
  have cd : PySem.W.CodeHd (s1.heap.push o) c P := TB.code.keeps fun b u e => Heap.get?_push_of_some _ (I1.bk b u e)
  have lim2 : (s1.heap.push o).NoLimit := I1.nolimit.push o
  have ng0 : (s1.heap.push o).Ns mainGlobals X.mg := (I1.mod.glob.keeps I1.bk).push o
  have cont : ∀ (code : Value) (h3 : Heap) (tk : Nat) (ps' : Array Value), Heap.ExtBut P (s1.heap.push o) h3 → (s1.heap.push o).objs.size ≤ h3.objs.size → h3.get? P = some { cls := .none, data := .fields ps' } → (∃ more, ps' = ps ++ more) → TriplesOk ps'.toList →
      wpAny (model X.prog X.w) X.A (builtinsFor X.env.globals X.env.builtins) (fun bi s₄ =>
        ∃ Ia fp wr n₀ Pf St₀ pz F, Value.ref s1.heap.objs.size = .ref Ia ∧ (∀ A' : Around, A'.handled = none → Walks X.prog X.w A' Ia fp wr n₀ Pf St₀) ∧ St₀ 0 s₄.heap ∧ (∀ b ∈ fp, b < s₄.heap.objs.size) ∧ s₄.heap.NoLimit ∧ cStatics ∉ wr ∧
          (∀ href : Heap, (∀ b o, s₄.heap.get? b = some o → href.get? b = some o) →
            QuietGen X.prog X.w (genEnv scope (cloFrom X.env.cells scope.names []) s₄.heap.objs.size code bi X.env) x [] elt (List.range s₄.heap.objs.size) wr Pf pz F href) ∧
          (∀ a h₅ tk gs, gs.bare = true → s₄.heap.objs.size < a → h₅.objs.size = a + 1 → (∀ b o, s₄.heap.get? b = some o → h₅.get? b = some o) →
            WalksS X.prog X.w X.A.in4 a (a :: s₄.heap.objs.size :: List.range s₄.heap.objs.size) (s₄.heap.objs.size :: wr) (GenOnlyQ s₄.gens.size) (passing pz n₀ 0).length
              (fun j y => ∃ i, (passing pz n₀ 0)[j]? = some i ∧ F i y) (GenAt X.prog X.w X.A.in4 a s₄.gens.size s₄.heap.objs.size (List.range s₄.heap.objs.size) wr pz n₀ F) →
            GenAt X.prog X.w X.A.in4 a s₄.gens.size s₄.heap.objs.size (List.range s₄.heap.objs.size) wr pz n₀ F 0 { s₄ with gens := s₄.gens.push gs, toks := tk, heap := h₅ } →
            Q' (.ref a) { s₄ with gens := s₄.gens.push gs, toks := tk, heap := h₅ })) X.xe { s1 with heap := h3, toks := tk } := by
    intro code h3 tk ps' hx hsz hP3 hmore ht3
    have ng3 : h3.Ns mainGlobals X.mg := ng0.extBut hx TB.gP
    have ngl : mainGlobals < s1.heap.objs.size := (I1.mod.glob.keeps I1.bk).lt
    obtain ⟨bm, ob, e1, e2, e3, e4, e5, e6, e7, e8⟩ := TB.bm
    have hcP : cStatics ≠ P := fun e => by
      obtain ⟨_, hns, _⟩ := I1.nolimit
      obtain ⟨o', es, ep, ho, hd, _⟩ := hns
      rw [e, hPs] at ho
      cases ho
      cases hd
    have hcl : cStatics < s1.heap.objs.size := let ⟨_, hns, _⟩ := I1.nolimit; hns.lt
    have sz2 : (s1.heap.push o).objs.size = s1.heap.objs.size + 1 := Heap.size_push ..
    have keep3 : ∀ b u, b ≠ P → s1.heap.get? b = some u → h3.get? b = some u := fun b u hb e => hx b u hb (Heap.get?_push_of_some _ e)
    refine wpAny_builtinsFor (m := X.mg) (by rw [I1.ok.glob]; exact ng3) e1 e2 (keep3 _ _ e4 (I1.bk _ _ e5)) e6 e7 e8 ?_
    refine ⟨s1.heap.objs.size, [s1.heap.objs.size], [s1.heap.objs.size], a.cps.size, SignAt a, St, (fun _ => true), (fun i y => ∃ cc, a.cps[i]? = some cc ∧ y = .bool (pb cc)), rfl, W, ?_, ?_, lim2.extBut hx hcP, ?_, ?_, ?_⟩
    · refine (W X.A hr.hd).frame _ _ _ hst fun b hb u e => hx b u (fun z => ?_) e
      rcases List.mem_cons.mp hb with z2 | z2
      · exact Nat.ne_of_lt hPlt (z.symm.trans z2)
      · cases z2
    · intro b hb
      rcases List.mem_cons.mp hb with z | z
      · rw [z]
        show s1.heap.objs.size < h3.objs.size
        omega
      · cases z
    · intro z
      rcases List.mem_cons.mp z with z | z
      · exact Nat.ne_of_lt hcl z
      · cases z
    · intro href hhref
      refine ⟨fun A' E' i v s₂ m₂ hA hPv hn hm hk => ?_, fun A' E' i v s₂ m₂ hA hPv hp hn hm hk => ?_⟩
      · simp only [List.forIn_nil]
        exact wpAny_pure ⟨rfl, keeps_refl _⟩
      · obtain ⟨cc, u, hcc, rfl⟩ := hPv
        have ng2 : s₂.heap.Ns mainGlobals X.mg := Ns.at_ (Ns.at_ ng3 (fun o e => hhref _ o e)) fun o e => hk mainGlobals (List.mem_range.mpr (Nat.lt_of_lt_of_le ngl (by show s1.heap.objs.size ≤ h3.objs.size; omega))) (fun z => by
          rcases List.mem_cons.mp z with z | z
          · exact Nat.ne_of_lt ngl z
          · cases z) o e
        exact wpAny_mono (hel _ A' E' cc u s₂ m₂ rfl I1.ok.glob ng2 hn hm) (fun y s3 r => ⟨⟨cc, hcc, r.1⟩, r.2⟩) fun _ _ e => e
    · intro g h5 tk5 gs hgb hag hsz5 hk5 W5 hat
      simp only [GxR.passing_true, List.length_range] at W5
      refine hQ a H1 g _ q1 ⟨_, _, _, _, _, W5.in4_1, hat, ?_, fun s' hm => ?_⟩
      · intro j y sj Qj Ej hy hQj
        obtain ⟨i, hij, cc, hcc, rfl⟩ := hy
        obtain ⟨hj, ej⟩ := List.getElem?_eq_some_iff.mp hij
        rw [List.getElem_range] at ej
        subst ej
        have e9 : a.cps.toList[j]? = some cc := by rw [Array.getElem?_toList]; exact hcc
        have hQ2 : Qj (trF pb a.cps.toList j) sj := hQj
        rw [trF_some e9] at hQ2
        exact wpAny_truthy_bool hQ2
      · obtain ⟨more, em⟩ := hmore
        have nwr : ∀ b u, s1.heap.get? b = some u → b ∉ h3.objs.size :: [s1.heap.objs.size] := fun b u e hb => by
          have hl := Heap.lt_size e
          rcases List.mem_cons.mp hb with z | z
          · rw [z] at hl
            have h9 : (h3.objs.size : Nat) < s1.heap.objs.size := hl
            omega
          · rcases List.mem_cons.mp z with z | z
            · rw [z] at hl
              exact Nat.lt_irrefl _ hl
            · cases z
        have J := inv_tab (more := more) (h' := s'.heap) (g' := s'.gens) (d' := s'.drawn) (t' := s'.toks) I1 hP (fun b u hb e => hm.heap b u (nwr b u e) (hk5 b u (keep3 b u hb e)))
          (by rw [← em]; exact hm.heap P _ (nwr P _ hPs) (hk5 P _ hP3)) (AllBare.movedS (I1.bare.push hgb) hm)
        rw [sh_eta s1 s' hm.os] at J
        refine ⟨upd H1 P (.tbl (ps ++ more)), ⟨⟨ps ++ more, upd_same, by rw [← em]; exact ht3⟩, fun b hb => upd_ne hb⟩, J⟩
  refine ⟨lim2, ?_⟩
  cases hf : codeAmong gpos ps.toList with
  | none =>
    refine wpAny_genexprCodeX hcode (cd.code hP2 ht) (cd.tab hP2) hf fun c' h' tk hx hge hlt hco' _ htab' _ => ?_
    obtain ⟨o1, vs, f1, tf, fl, tg, inF, tx, tt, op, _, _, _, _, _, _, _, _, _, htr, _⟩ := hco'
    exact cont _ h' tk _ hx (Nat.le_trans hge (Nat.le_of_lt hlt)) htab'.2 ⟨_, rfl⟩ htr
  | some cv =>
    refine wpAny_genexprCode_hit hcode (cd.code hP2 ht) hf ?_
    exact cont cv (s1.heap.push o) s1.toks ps (Heap.ExtBut.refl _ _) (Nat.le_refl _) hP2 ⟨#[], by simp⟩ ht
theorem pe_anyG {c P : Addr} {elt iter : Expr} {x : Str} {px p pos gpos : Pos} {scope : Scope} {pb : Nat → Bool} {te : TE} {k : Nat}
    (hr : Room k X.A) (hg : Gl X "any") (hm : X.mg "any" = none) (TB : GxR.TabB X.base X.mg c P) (hcode : X.env.code = .ref c) (S : GenS X.env scope x) (hi : PE X iter te) (hel : EltG X.prog X.w X.mg scope x elt pb)
    (hs : ∀ v, genFold iter X.env v = pure v)
    (he : starEach [.GeneratorExp elt [⟨.Name x px, iter, [], 0⟩] scope gpos] X.env = (false, eval (.GeneratorExp elt [⟨.Name x px, iter, [], 0⟩] scope gpos) X.env) :: starEach [] X.env := by rfl) :
    PE X (.Call (.Name "any" p) [.GeneratorExp elt [⟨.Name x px, iter, [], 0⟩] scope gpos] [] pos) (tAnyS P pb te) := by
  refine ⟨fun pins s σ H Q I h => ?_⟩
  refine wpAny_Call_Name_kw (ld_blt I hg hm boot_any ?_)
  refine PyProof.Rows.callWith_builtin1 ?_ he (by rfl)
  rw [he]
  show wpAny _ _ (spliced ((false, eval (.GeneratorExp elt [⟨.Name x px, iter, [], 0⟩] scope gpos) X.env) :: backTo pos (starEach [] X.env))) _ _ s
  refine Calls.spliced_cons (gen_strG (R := fun a H1 => ∀ H2, Tabbed P H1 H2 → Q (.bl (a.cps.toList.any pb)) H2) hr TB hcode S hi hel hs I h fun a H1 g s5 hR hG => ?_)
  obtain ⟨fp, wr, G, F, St, W, hst, htr, hI⟩ := hG
  refine Calls.spliced_nil ?_
  refine call_any_walkS (W.self 0 _ _ _ hst ⟨g, fp, wr, G, _, F, St, _, rfl, W, hst, htr, fun s' hmv => ?_⟩)
  obtain ⟨H2, hT, J⟩ := hI s' hmv
  refine ⟨.bl _, H2, J, rfl, ?_⟩
  rw [any_signs a pb]
  exact hR H2 hT
end
section
variable {X : Cx} {Z : Zt} {tx : Tx} {M : List Ent}
/-- a table has grown -/
theorem tabbed_st {K : PySem.W.Frag} {P : Addr} {H H' : Hp} {S : DS} (st : ST K Z S H) (ht : TabG H P) (hn : ∀ p ∈ Z.TL, p.1 ≠ P) (t : Tabbed P H H') : Go H S H' S ∧ ST K Z S H' := by
  obtain ⟨ps0, hP, _⟩ := ht
  have ne : ∀ b o, H b = some o → (∀ ps, o ≠ .tbl ps) → b ≠ P := fun b o e n z => by rw [z, hP] at e; exact n ps0 (Option.some.inj e).symm
  have ev : Evo H H' := ⟨fun a xs e => by rw [t.2 a (ne _ _ e fun ps z => by cases z)]; exact e, fun a o u e => by rw [t.2 a (ne _ _ e fun ps z => by cases z)]; exact e, fun a e => by
    by_cases h : a = P
    · obtain ⟨ps, h1, _⟩ := t.1
      rw [h, h1]
      exact fun z => nomatch z
    · rw [t.2 a h]; exact e, fun a φ e => by rw [t.2 a (ne _ _ e fun ps z => by cases z)]; exact e⟩
  refine ⟨⟨ev, fun _ _ h => h, fun b o e _ n => by rw [t.2 b (ne b o e n)]; exact e⟩, fun a o e => ?_, fun Q hQ => ?_, fun p hp => ?_⟩
  · have q := st.sr a o e
    obtain ⟨u, hu, mu⟩ := q.mut
    exact q.mono ev (t.2 a (ne a u hu fun ps z => by rw [z] at mu; exact mu))
  · by_cases h : Q = P
    · rw [h]; exact t.1
    · obtain ⟨ps, h1, h2⟩ := st.tb.1 Q hQ
      exact ⟨ps, by rw [t.2 Q h]; exact h1, h2⟩
  · obtain ⟨ps, h1, h2, h3⟩ := st.tb.2 p hp
    refine ⟨ps, by rw [t.2 _ (hn p hp)]; exact h1, h2, fun pos cv hc => ?_⟩
    obtain ⟨c, e1, e2⟩ := h3 pos cv hc
    exact ⟨c, e1, ev.ext _ _ e2⟩
/-- any(test for x in e), e a text -/
def dAnyS (pb : Nat → Bool) (te : TD) : TD := fun r S Q E => te r S (fun d S1 => match d with | .str a => Q (.bl (a.cps.toList.any pb)) S1 | _ => False) E
/-- a def's code object and its table, told by Z -/
structure TabD (X : Cx) (Z : Zt) (c P : Addr) : Prop where
  tab : GxR.TabB X.base X.mg c P
  code : X.env.code = .ref c
  mem : P ∈ Z.T
  no : ∀ p ∈ Z.TL, p.1 ≠ P
theorem pd_anyG {c P : Addr} {elt iter : Expr} {x : Str} {px p pos gpos : Pos} {scope : Scope} {pb : Nat → Bool} {te : TD} {k : Nat} (hM : TxOk X.prog X.w X.K X.mg X.base Z tx M) (i : Nat) (hN : tx.bl i = some ("any" : Str))
    (hr : Room k X.A) (hg : Gl X "any") (T : TabD X Z c P) (S : GenS X.env scope x) (hi : PD X Z iter te) (hel : EltG X.prog X.w X.mg scope x elt pb)
    (hs : ∀ v, genFold iter X.env v = pure v := by intro _; rfl)
    (he : starEach [.GeneratorExp elt [⟨.Name x px, iter, [], 0⟩] scope gpos] X.env = (false, eval (.GeneratorExp elt [⟨.Name x px, iter, [], 0⟩] scope gpos) X.env) :: starEach [] X.env := by rfl) :
    PD X Z (.Call (.Name "any" p) [.GeneratorExp elt [⟨.Name x px, iter, [], 0⟩] scope gpos] [] pos) (dAnyS pb te) := fun W tk => by
  refine PE.imp (pe_anyG hr hg (hM.bl i _ hN) T.tab T.code S (hi W tk) hel hs he) fun σ H Q h => ?_
  obtain ⟨r, S0, Q0, E0, R, q, k, kE⟩ := h
  refine ⟨r, S0, _, E0, R, q, fun d S1 v H1 e1 st1 dv1 q1 => ?_, kE⟩
  cases d with
  | str a =>
    have ht : TabG H1 P := st1.tb.1 P T.mem
    refine ⟨a, dv_str.mp dv1, ht, fun H2 t => ?_⟩
    obtain ⟨g, st2⟩ := tabbed_st st1 ht T.no t
    exact k _ S1 _ H2 (e1.trans g) st2 (dv_bl.mpr rfl) q1
  | _ => exact q1.elim
end
end G

set_option Elab.async false
set_option linter.all false
set_option maxRecDepth 100000
set_option maxHeartbeats 4000000
/-! GL: lambdas that capture nothing: made, handed on, called. -/
namespace G
open PySem PySem.Spec PyProof.Rows L2 LamX
/-- the function object of a lambda that captures nothing -/
def LamO (f : Addr) (l : LamR) (pm : Value) (c' : Addr) (ctv : Value) : HO := .ext fun h => h.get? f = some (PySem.W.kla_obj "<lambda>" l.q l.params l.body l.scope [] pm c' ctv)
/-- at f stands the j-th lambda -/
def isLam (Z : Zt) (j : Nat) : Hp → Addr → Prop := fun H f => ∃ l pm c' ctv, Z.lm j = some l ∧ H f = some (LamO f l pm c' ctv) ∧ H c' = some (CodeO c' l.q)
theorem lam_obj {P : Program} {w : World} {H : Hp} {h : Heap} {f c' : Addr} {l : LamR} {pm ctv : Value} (e : h.get? f = some (PySem.W.kla_obj "<lambda>" l.q l.params l.body l.scope [] pm c' ctv)) : ObjOk P w H h f (LamO f l pm c' ctv) :=
  ⟨e, ⟨_, e⟩, fun h1 h2 e1 k => k _ e1⟩
section
variable {X : Cx} {pins : List (Addr × Obj)} {σ : L2.St} {H : Hp} {s : Shared}
/-- the lambda is made and known: its code object is new, or found in the table -/
theorem lam_make3 {T : List (Addr × Str)} {c P : Addr} {l : LamR} {pos : Pos} {E : Value → Shared → Prop} {Q : Value → Shared → Prop} (I : Inv X pins σ H s) (TB : LamX.TabB X.base X.mg c P) (hcode : X.env.code = .ref c) (hq : X.env.qual ++ "<lambda>" = l.q)
    (hm : (P, l.q) ∈ T) (hu : ∀ p ∈ T, p.1 = P → p.2 = l.q) (hT : Tabs T H) (hdef : defaultsOf l.params X.env = ([], [])) (L0 : Lam0 l.scope) (hcl : cloFrom X.env.cells l.scope.names [] = [])
    (h : ∀ (f c' : Addr) (pm ctv : Value) (H1 : Hp) (s' : Shared), Inv X pins σ (upd H1 f (LamO f l pm c' ctv)) s' → ExtN H H1 → (∀ b, H b ≠ none → H1 b ≠ none) → (∀ b, b ≠ P → H b ≠ none → H1 b = H b) → H1 f = none → (∃ ps, H1 P = some (.tbl ps) ∧ TriplesOk ps.toList) → Tabs T H1 → H1 c' = some (CodeO c' l.q) → Q (.ref f) s') :
    wpAny (model X.prog X.w) X.A (eval (.Lambda l.params l.body l.scope pos) X.env) Q E s := by
  obtain ⟨ps, hP, ht, ha⟩ := hT _ hm
  refine PySem.W.kla_eval hdef ?_
  have hfree : ∀ y ∈ l.scope.names, y.2 = .free → ∃ c, X.env.cells.lookup y.1 = some c := fun y hy e => absurd e (L0.own y hy).2.2
  have bP : s.heap.BuiltinsAt X.mg P := TB.bm.keeps I.bk
  have hP' : s.heap.get? P = some { cls := .none, data := .fields ps } := I.hok P _ hP
  cases hc : codeAmong pos ps.toList with
  | none =>
    refine PySem.W.kla_makeFunction (mg := X.mg) (c := c) (P := P) (ps := ps) (closure_ok hfree) I.ok.glob (I.mod.glob.keeps I.bk) hcode (TB.code.keeps I.bk) hP' ht hc TB.gP bP fun c' ctv h' tk hx hge hlt hrec htb => ?_
    obtain ⟨c2, oc, vs, t, e2, hoc, hd, hv⟩ := hrec
    cases e2
    rw [hq] at hv ⊢
    rw [hcl]
    have hsz : s.heap.objs.size ≤ h'.objs.size := Nat.le_trans hge (Nat.le_of_lt hlt)
    have nC : H c' = none := I.hok.fresh hge
    have I1 := inv_table (q := l.q) (t' := tk) (more := #[rawInt pos.line, rawInt pos.col, .ref c']) (h' := h') I hP hx htb hge ⟨oc, vs, t, hoc, hd, hv⟩
    have I2 : Inv X pins σ (upd _ h'.objs.size (LamO h'.objs.size l ((X.mg "__name__").getD .none) c' ctv)) { s with heap := h'.push (PySem.W.kla_obj "<lambda>" l.q l.params l.body l.scope [] ((X.mg "__name__").getD .none) c' ctv), toks := tk } :=
      I1.laid (t' := tk) (fun b o e => Heap.get?_push_of_some _ e) (Nat.le_refl _) (lam_obj (Heap.get?_push_size _ rfl))
    have hE : ExtN H (upd (upd H P (.tbl (ps ++ #[rawInt pos.line, rawInt pos.col, .ref c']))) c' (CodeO c' l.q)) := fun b o e n => by
      rw [upd_ne (ne_of_none e nC), upd_ne (fun z => n ps (Option.some.inj (e.symm.trans (by rw [z]; exact hP))))]
      exact e
    have eL : (ps ++ #[rawInt pos.line, rawInt pos.col, .ref c']).toList = ps.toList ++ [rawInt pos.line, rawInt pos.col, .ref c'] := by simp
    have hPc : P ≠ c' := ne_of_none hP nC
    have n1 : h'.objs.size ≠ c' := Nat.ne_of_gt hlt
    have n2 : h'.objs.size ≠ P := Nat.ne_of_gt (Nat.lt_of_lt_of_le (Heap.lt_size hP') hsz)
    refine h h'.objs.size c' ((X.mg "__name__").getD .none) ctv _ _ I2 hE (fun b hb => ?_) (fun b hb hn => ?_) ?_ ⟨_, by rw [upd_ne hPc, upd_same], by rw [eL]; exact PySem.TriplesOk_snoc _ _ _ _ ht⟩ (fun p hp => ?_) upd_same
    · by_cases e1 : b = c'
      · rw [e1, upd_same]; exact fun z => nomatch z
      · rw [upd_ne e1]; exact upd_dom hb
    · cases hb2 : H b with
      | none => exact absurd hb2 hn
      | some o => rw [upd_ne (ne_of_none hb2 nC), upd_ne hb]; exact hb2
    · rw [upd_ne n1, upd_ne n2]
      exact I.hok.fresh hsz
    · by_cases hb : p.1 = P
      · rw [hu p hp hb, hb]
        refine ⟨_, by rw [upd_ne hPc, upd_same], by rw [eL]; exact PySem.TriplesOk_snoc _ _ _ _ ht, fun p' cv hcv => ?_⟩
        rw [eL] at hcv
        rcases among_app _ ht hcv with z | z
        · obtain ⟨c0, e1, e2⟩ := ha p' cv z
          exact ⟨c0, e1, hE _ _ e2 codeO_ne⟩
        · exact ⟨c', z, upd_same⟩
      · obtain ⟨ps', a1, a2, a3⟩ := hT p hp
        refine ⟨ps', by rw [upd_ne (ne_of_none a1 nC), upd_ne hb]; exact a1, a2, fun p' cv hcv => ?_⟩
        obtain ⟨c0, e1, e2⟩ := a3 p' cv hcv
        exact ⟨c0, e1, hE _ _ e2 codeO_ne⟩
  | some cv =>
    obtain ⟨c', e, hco⟩ := ha pos cv hc
    subst e
    refine PySem.W.kla_makeFunctionHit (mg := X.mg) (c := c) (P := P) (ps := ps) (closure_ok hfree) I.ok.glob (I.mod.glob.keeps I.bk) hcode (TB.code.keeps I.bk) hP' ht hc bP fun ctv h' tk hx hsz => ?_
    rw [hq, hcl]
    have I1 : Inv X pins σ H { s with heap := h', toks := tk } := I.kept fun b o e => hx b o e
    have I2 : Inv X pins σ (upd H h'.objs.size (LamO h'.objs.size l ((X.mg "__name__").getD .none) c' ctv)) { s with heap := h'.push (PySem.W.kla_obj "<lambda>" l.q l.params l.body l.scope [] ((X.mg "__name__").getD .none) c' ctv), toks := tk } :=
      I1.laid (t' := tk) (fun b o e => Heap.get?_push_of_some _ e) (Nat.le_refl _) (lam_obj (Heap.get?_push_size _ rfl))
    exact h h'.objs.size c' ((X.mg "__name__").getD .none) ctv H _ I2 (ExtN.refl H) (fun _ z => z) (fun _ _ _ => rfl) (I.hok.fresh hsz) ⟨ps, hP, ht⟩ hT hco
end
section
variable {X : Cx} {Z : Zt} {tx : Tx} {M : List Ent} {L : Nat}
def dLam (Z : Zt) (j : Nat) : TD := fun _ S Q _ => ∀ f, S f = none → Q (.ref f) (put S f (.oth (isLam Z j)))
/-- the making def's code object and its table, told by Z -/
structure TabL (X : Cx) (Z : Zt) (c P : Addr) (q : Str) : Prop where
  tab : LamX.TabB X.base X.mg c P
  code : X.env.code = .ref c
  mem : (P, q) ∈ Z.TL
  uniq : ∀ p ∈ Z.TL, p.1 = P → p.2 = q
theorem pd_lam {c P : Addr} {l : LamR} {params : Arguments} {body : Expr} {scope : Scope} {pos : Pos} (j : Nat) (hl : Z.lm j = some l) (T : TabL X Z c P l.q) (h1 : l.params = params) (h2 : l.body = body) (h3 : l.scope = scope) (hq : X.env.qual ++ "<lambda>" = l.q) (L0 : Lam0 l.scope) (hdef : defaultsOf l.params X.env = ([], []) := by rfl) (hcl : cloFrom X.env.cells l.scope.names [] = [] := by rfl) :
    PD X Z (.Lambda params body scope pos) (dLam Z j) := fun W tk => by
  subst h1 h2 h3
  refine ⟨fun pins s σ H Q I h => ?_⟩
  obtain ⟨r, S, Q0, E0, R, q, k, kE⟩ := h
  refine lam_make3 I T.tab T.code hq T.mem T.uniq R.st.tb.2 hdef L0 hcl fun f c' pm ctv H1 s' I2 eN dm sm nf hP1 T1 hco => ?_
  have nf0 : H f = none := by
    cases z : H f with
    | none => rfl
    | some o => exact absurd nf (dm f (by rw [z]; exact fun z => nomatch z))
  have ev1 : Evo H H1 := ⟨fun a xs e => eN a _ e (fun ps z => nomatch z), fun a o u e => eN a _ e (fun ps z => nomatch z), dm, fun a φ e => eN a _ e (fun ps z => nomatch z)⟩
  have st1 : ST X.K Z S H1 := by
    refine ⟨fun a o e => ?_, fun P' hP' => ?_, T1⟩
    · have q := R.st.sr a o e
      obtain ⟨u, hu, mu⟩ := q.mut
      exact q.mono ev1 ((eN a u hu fun ps z => by rw [z] at mu; exact mu).trans hu.symm)
    · by_cases e : P' = P
      · rw [e]; exact hP1
      · obtain ⟨ps, a1, a2⟩ := R.st.tb.1 P' hP'
        exact ⟨ps, by rw [sm P' e (by rw [a1]; exact fun z => nomatch z)]; exact a1, a2⟩
  have g1 : Go H S H1 S := ⟨ev1, fun _ _ h => h, fun b o e _ n => eN b o e n⟩
  have hc2 : upd H1 f (LamO f l pm c' ctv) c' = some (CodeO c' l.q) := by rw [upd_ne (ne_of_none hco nf)]; exact hco
  have st2 := st1.made (u := LamO f l pm c' ctv) (o := .oth (isLam Z j)) nf ⟨⟨_, upd_same, trivial⟩, ⟨l, pm, c', ctv, hl, upd_same, hc2⟩, fun A B ⟨l', pm', c2, ct2, a1, a2, a3⟩ e ev => ⟨l', pm', c2, ct2, a1, e.trans a2, ev.ext _ _ a3⟩⟩
  exact ⟨.ref f, _, I2, rfl, k _ _ _ _ (g1.trans (Go.made nf)) st2 (dv_ref.mpr rfl) (q f (R.st.free nf0))⟩

/-- such a lambda's body is entered -/
theorem lam_start0 {P : Program} {w : World} {K : PySem.W.Frag} {mg : Str → Option Value} {base : Heap} {A : Around} {outer : List Env} {s : Shared} {H : Hp} {E : XK} {q : Str} {scope : Scope} {f c' : Addr} {h₁ : Heap} {tk : Nat} (L0 : Lam0 scope) (e0 : Env0 P w K mg base A outer s H) (hd : A.handled = none)
    (hns : h₁.Ns s.heap.objs.size fun y => ([] : List (Str × Value)).reverse.lookup y) (kp : ∀ b o, s.heap.get? b = some o → h₁.get? b = some o) :
    Inv (lamCx0 P w K mg base A outer s H E q scope f c') [] [] H { s with heap := h₁, toks := tk } := by
  have noA : ∀ b : Addr, b ∉ (lamCx0 P w K mg base A outer s H E q scope f c').ex := fun b z => absurd (show b ∈ ([] : List Addr) from z) (by simp)
  have noC : ∀ {y c}, (lamCx0 P w K mg base A outer s H E q scope f c').env.cells.lookup y = some c → False := fun {y c} z => nomatch (show ([] : List (Str × Addr)).lookup y = some c from z)
  refine ⟨⟨e0.mod, L0.kind, rfl, rfl, Nat.le_refl _, fun y z c e1 e2 => (noC e1).elim, fun y hy => ?_, fun y c z e => (noC e).elim, fun _ => hd, Around.frames_deeper e0.frames, .inr ⟨rfl, rfl⟩, fun b z => absurd z (noA b), e0.bs, e0.bsz, fun b _ _ => noA b,
      fun b z => absurd z (noA b), e0.funs, e0.frf⟩,
    rfl, e0.bare, Un.kept kp, ⟨_, hns, fun i y v e1 e2 e3 => ?_⟩, fun y c e => (noC e).elim, e0.hok.fresh (Nat.le_refl _), fun y c e => (noC e).elim, fun q hq => absurd (show q ∈ ([] : List (Addr × Obj)) ++ [] from hq) (by simp), e0.hok.kept kp, rfl⟩
  · have hy : scope.names.lookup y = some .cell ∨ scope.names.lookup y = some .free := hy
    rcases hy with hy | hy
    · exact absurd rfl (L0.own _ (PySem.mem_of_lookup hy)).2.1
    · exact absurd rfl (L0.own _ (PySem.mem_of_lookup hy)).2.2
  · exact nomatch (show ([] : List Str)[i]? = some y from e1)
/-- x(), x a name that holds a lambda -/
def dAct (M : List Ent) (Z : Zt) (L i : Nat) : TD := fun r S Q E => ∃ (f : Addr) (j n : Nat) (e : Ent), r[i]? = some (some (.ref f)) ∧ S f = some (.oth (isLam Z j)) ∧ M[n]? = some e ∧ e.la = some j ∧ e.lv ≤ L ∧ e.sp [] S Q E
theorem pd_act {x : Str} {p1 p2 : Pos} (hM : TxOk X.prog X.w X.K X.mg X.base Z tx M) (hr : Room (L + 1) X.A) (i : Nat) (hN : X.N[i]? = some x := by rfl) (hv : Vis X.env.scope x := by first | exact Or.inl rfl | exact Or.inr (Or.inl rfl) | exact Or.inr (Or.inr rfl)) (hd : (x == ("__debug__" : Str)) = false := by decide)
    (hcd : (x == ("__classdict__" : Str)) = false := by decide) : PD X Z (.Call (.Name x p1) [] [] p2) (dAct M Z L i) := fun W tk => by
  refine ⟨fun pins s σ H Q I h => ?_⟩
  obtain ⟨r, S, Q0, E0, R, ⟨f, j, n, en, hri, sf, hj, hn, hlv, q⟩, k, kE⟩ := h
  obtain ⟨v, hσ, dv⟩ := R.sl.get i _ hri
  rw [dv_ref.mp dv] at hσ
  refine wpAny_Call_Name_kw (thn ((pe_var (pos := p1) (i := i) hN hv hd hcd).run pins s σ H (fun v H1 => v = .ref f ∧ H1 = H) I ⟨.ref f, hσ, rfl, rfl⟩) fun u s1 ⟨v, H1, I1, r1, q1⟩ => ?_)
  obtain ⟨ev, eH⟩ := q1
  subst ev
  rw [eH] at I1
  obtain rfl : u = Value.ref f := r1
  obtain ⟨_, ⟨l, pm, c', ctv, hl, hf, hc⟩, _⟩ := R.st.sr f _ sf
  obtain ⟨l', hl', LO⟩ := hM.lm j n en hj hn
  rw [hl] at hl'
  cases hl'
  have of1 : s1.heap.get? f = some (PySem.W.kla_obj "<lambda>" l.q l.params l.body l.scope [] pm c' ctv) := (I1.hok f _ hf).1
  refine PySem.W.callWith_F0 ⟨_, _, _, _, of1⟩ ?_
  obtain ⟨⟨oc, vs, t, hoc, hdc, hvc⟩, _, _⟩ := I1.hok c' _ hc
  obtain ⟨tb, htb, hsp⟩ := LO.body
  have rc : codeAny (model X.prog X.w) X.A (.call (.ref f) ⟨[], []⟩) (CR (L2.CX X.prog X.w) X.stack X.prog X.w H s1 Q (WE W σ)) s1 := by
    refine PySem.W.kla_callFunE hr.depth of1 rfl LO.sc.co LO.sc.gen rfl ⟨c', oc, vs, t, rfl, hoc, hdc, hvc⟩ ?_
    rw [LO.bind]
    refine wpAny_pure (wpAny_newFunctionEnv (fun y hy => (LO.sc.own y hy).2.1) (fun y hy => absurd hy (by simp)) (fun h₁ hns hsb => ⟨I1.nolimit.fresh _ hsb, ?_⟩) LO.sc.kind)
    show codeAny _ _ (.expr l.body (lamEnv0 l.q l.scope s1.heap.objs.size f c')) _ _
    have kp : ∀ b o, s1.heap.get? b = some o → h₁.get? b = some o := fun b o e => hsb.extBut b o (Nat.ne_of_lt (Heap.lt_size e)) (Heap.get?_push_of_some _ e)
    have J : Inv (lamCx0 X.prog X.w X.K X.mg X.base X.A X.stack s1 H (WE W σ) l.q l.scope f c') [] [] H { s1 with heap := h₁, toks := s1.toks + ([] : List (Str × Value)).length } :=
      lam_start0 LO.sc I1.env0 hr.hd hns kp
    have hb := htb X.A X.stack s1 H (WE W σ) f c' ((hr.mono (Nat.succ_le_succ hlv)).deeper _) _ (takes_of rfl rfl rfl rfl)
    refine PySem.W.kla_codeExpr (wpAny_mono (hb.run [] _ [] H Q J ⟨[], S, _, _, ⟨⟨rfl, fun i d z => by simp at z⟩, R.st⟩, hsp S Q0 E0 q, fun d S' v H' g st dv ⟨S0, s0, q⟩ => k d S0 v H' (g.sub s0) (st.sub s0) dv q, fun c S' dd H' g st ⟨S0, s0, q⟩ => kE c S0 dd H' (g.sub s0) (st.sub s0) q⟩) (fun v s' hq => ?_) fun e s' hq => hq)
    obtain ⟨w', H', J', rv, q⟩ := hq
    exact ⟨w', H', J'.os, J'.bare, J'.base, J'.hok, rv, q⟩
  refine wpAny_call (codeAny_mono rc fun r s' hq => ?_)
  cases r with
  | error e => exact passAt tk σ pins H s1 e s' I1 hq
  | ok fl =>
    cases fl with
    | ret u => exact I1.after hq
    | next => exact False.elim hq
    | brk => exact False.elim hq
    | cont => exact False.elim hq
end
end G

set_option Elab.async false
set_option linter.all false
set_option maxRecDepth 100000
set_option maxHeartbeats 4000000
/-! GM: from the top to the promises; the end with tables of any def. -/
namespace G
open PySem PySem.Spec PyProof.Rows L2
section
variable {P : Program} {w : World} {K : PySem.W.Frag} {mg : Str → Option Value} {base : Heap} {Z : Zt} {tx : Tx}
/-- the top's facts, whatever is promised: the i-th def stands at fa i -/
structure TxS (K : PySem.W.Frag) (mg : Str → Option Value) (Z : Zt) (tx : Tx) (fa : Nat → Addr) : Prop where
  fn : ∀ i x, tx.gn i = some x → mg x = some (.ref (fa i)) ∧ PySem.W.keepIn K (.ref (fa i)) = true
  mt : ∀ c m i, tx.mt c m = some i → Cls K (Z.cm c) ∧ Meth K (Z.cm c) (Z.fn m) (fa i)
  it : ∀ c x i, tx.cn c = some x → tx.it c = some i → mg x = some (.ref (Z.cm c)) ∧ Mk K (Z.cm c) (fa i)
  fl : ∀ c i, tx.fl c i = true → Cls K (Z.cm c) ∧ NoAttr K (Z.cm c) (Z.fn i)
  va : ∀ i x d, tx.va i = some (x, d) → ∃ u v, mg x = some u ∧ RelV v u ∧ ∀ H, DV K H d v
  bl : ∀ i x, tx.bl i = some x → mg x = none
  xn : ∀ i x, tx.xn i = some x → ExcOk K mg x (Z.ex i)
  sb : ∀ i j b, tx.sb i j = some b → PySem.W.exmOne K (Z.ex i) (Z.ex j) = some b
/-- what is shown of the i-th entry: a def's promise, or a lambda's -/
structure Good (P : Program) (w : World) (K : PySem.W.Frag) (mg : Str → Option Value) (base : Heap) (Z : Zt) (fa : Nat → Addr) (i : Nat) (e : Ent) : Prop where
  fn : e.la = none → FnD P w K mg base Z e.lv (fa i) e
  lm : ∀ j, e.la = some j → ∃ l, Z.lm j = some l ∧ LamOk P w K mg base Z e.lv l e.sp
def Done (P : Program) (w : World) (K : PySem.W.Frag) (mg : Str → Option Value) (base : Heap) (Z : Zt) (fa : Nat → Addr) (M : List Ent) : Prop := ∀ i e, M[i]? = some e → Good P w K mg base Z fa i e
theorem TxS.ok {fa : Nat → Addr} {M : List Ent} (S : TxS K mg Z tx fa) (G : Done P w K mg base Z fa M) : TxOk P w K mg base Z tx M where
  fn := fun i x e h he hl => ⟨fa i, (S.fn i x h).1, (S.fn i x h).2, (G i e he).fn hl⟩
  mt := fun c m i e h he hl => ⟨fa i, (S.mt c m i h).1, (S.mt c m i h).2, (G i e he).fn hl⟩
  it := fun c x i e hx h he hl => ⟨fa i, (S.it c x i hx h).1, (S.it c x i hx h).2, (G i e he).fn hl⟩
  fl := S.fl
  va := S.va
  bl := S.bl
  xn := S.xn
  sb := S.sb
  lm := fun j i e he hl => (G i e he).lm j hl
theorem Done.nil {fa : Nat → Addr} : Done P w K mg base Z fa [] := fun i e h => by simp at h
theorem Done.snoc {fa : Nat → Addr} {M : List Ent} {e : Ent} (G : Done P w K mg base Z fa M) (g : Good P w K mg base Z fa M.length e) : Done P w K mg base Z fa (M ++ [e]) := fun i e' h => by
  by_cases hi : i < M.length
  · rw [List.getElem?_append_left hi] at h
    exact G i e' h
  · rw [List.getElem?_append_right (by omega)] at h
    have hz : i = M.length := by
      have := (List.getElem?_eq_some_iff.mp h).1
      simp at this
      omega
    subst hz
    simp at h
    subst h
    exact g
theorem Good.ofFn {fa : Nat → Addr} {i : Nat} {e : Ent} (hl : e.la = none) (F : FnD P w K mg base Z e.lv (fa i) e) : Good P w K mg base Z fa i e := ⟨fun _ => F, fun j h => (nomatch h.symm.trans hl)⟩
theorem Good.ofLam {fa : Nat → Addr} {i j : Nat} {e : Ent} {l : LamR} (hl : e.la = some j) (hz : Z.lm j = some l) (F : LamOk P w K mg base Z e.lv l e.sp) : Good P w K mg base Z fa i e := ⟨fun h => (nomatch h.symm.trans hl), fun j' h => by
  rw [hl] at h
  cases h
  exact ⟨l, hz, F⟩⟩

/-- a def of the text, its code object told -/
structure FunC (K : PySem.W.Frag) (x qual : Str) (st : Stmt) (f : Addr) (fd : FuncData) (cdv dV : Value) : Prop where
  ex : ∃ (oc : Value) (od : Option Addr) (kV doc pm : Value) (an : Option Addr) (ct : Value) (osl : Array (Option Value)),
    fd = PySem.W.fnOf x qual (defArgs st) (defBody st) (defScope st) dV kV doc pm an cdv ct ∧ K.lookup f = some ⟨oc, od, .func fd, osl⟩ ∧ PySem.W.codeIn K cdv qual = true
theorem fun_mkC {x qual : Str} {st : Stmt} {f : Addr} {oc : Value} {od an : Option Addr} {osl : Array (Option Value)} {dV kV doc pm cdv ct : Value} (l : K.lookup f = some ⟨oc, od, .func (PySem.W.fnOf x qual (defArgs st) (defBody st) (defScope st) dV kV doc pm an cdv ct), osl⟩)
    (c : PySem.W.codeIn K cdv qual = true) : FunC K x qual st f (PySem.W.fnOf x qual (defArgs st) (defBody st) (defScope st) dV kV doc pm an cdv ct) cdv dV := ⟨⟨oc, od, kV, doc, pm, an, ct, osl, rfl, l, c⟩⟩
theorem fn_bodyC {x qual : Str} {st : Stmt} {f : Addr} {fd : FuncData} {cdv dV : Value} {N ps : List Str} {L : Nat} {sp : SpD} (F : FunC K x qual st f fd cdv dV) (Sc : FnScope N ps (defScope st)) (len : ∀ ds S Q E, sp ds S Q E → ds.length = ps.length) (t : TDS)
    (hd : ∀ (A : Around) (outer : List Env) (s : Shared) (H : Hp) (E : XK), Room L (A.deeper (envOfC qual (defScope st) s.heap.objs.size f cdv)) → PDSs (cxOf (L2.CX P w) P w K mg base N qual (defScope st) f cdv A outer s H E) Z (defBody st) t)
    (hb : ∀ ds S Q0 E0, sp ds S Q0 E0 → t (fin Q0 E0) (startD N ds) S) : FnOk P w K mg base (L2.CX P w) (L + 1) f fd ps (liftSp K Z sp) := by
  obtain ⟨oc, od, kV, doc, pm, an, ct, osl, rfl, lk, hcd⟩ := F.ex
  refine fn_of lk hcd Sc (fun vs H Q E h => ?_) (fun A outer s H vs Q E hr h => ?_)
  · obtain ⟨ds, S, Q0, E0, st', dv, h, _⟩ := h
    rw [← dv.len]
    exact len _ _ _ _ h
  · obtain ⟨ds, S, Q0, E0, st', dv, h, k, kE⟩ := h
    refine ⟨_, hd A outer s H E hr _ (takes_of rfl rfl rfl rfl), startD N ds, S, fin Q0 E0, ⟨sl_start dv, st'⟩, hb ds S Q0 E0 h, ?_⟩
    exact ⟨fun r' S' σ' H' g R' ⟨S0, s0, q⟩ => k .non S0 .non H' (g.sub s0) (R'.st.sub s0) (dv_non.mpr rfl) q, fun d S' v H' g st dv ⟨S0, s0, q⟩ => k d S0 v H' (g.sub s0) (st.sub s0) dv q, fun _ _ _ _ _ _ z => z.elim, fun _ _ _ _ _ _ z => z.elim,
      fun c r' S' dd σ' H' g R' ⟨S0, s0, q⟩ => kE c S0 dd H' (g.sub s0) (R'.st.sub s0) q⟩
theorem FunC.binds {x qual : Str} {st : Stmt} {f : Addr} {fd : FuncData} {cdv : Value} {ps : List Str} (F : FunC K x qual st f fd cdv .none)
    (h : ∀ (kV doc pm : Value) (an : Option Addr) (cdv ct : Value) (us : List Value), us.length = ps.length → bindArgs (PySem.W.fnOf x qual (defArgs st) (defBody st) (defScope st) .none kV doc pm an cdv ct) ⟨us, []⟩ = pure (ps.zip us)) : Binds K fd ps [] := by
  obtain ⟨oc, od, kV, doc, pm, an, ct, osl, rfl, lk, hcd⟩ := F.ex
  exact .all (h kV doc pm an cdv ct)
end
/-! ### the text by places -/
def asgVal : Stmt → Expr
  | .Assign _ v _ => v
  | _ => .Constant .none 0 ⟨0, 0, 0, 0⟩
def lstAt : Expr → Nat → Expr
  | .List es _, j => es.getD j (.Constant .none 0 ⟨0, 0, 0, 0⟩)
  | _, _ => .Constant .none 0 ⟨0, 0, 0, 0⟩
def noArgs : Arguments := { posonlyargs := [], args := [], vararg := none, kwonlyargs := [], kw_defaults := [], kwarg := none, defaults := [] }
def lamOf (q : Str) : Expr → LamR
  | .Lambda p b s _ => ⟨q, p, b, s⟩
  | e => ⟨q, noArgs, e, { kind := .function, names := [], isGenerator := false, isCoroutine := false }⟩
/-- attribute names by number, all different -/
def fnOf' (l : List Str) (i : Nat) : Str := match l[i]? with
  | some x => x
  | none => ⟨Array.replicate (i + 100) 126⟩
theorem fnOf'_inj {l : List Str} (h : l.Nodup) (h2 : ∀ x ∈ l, x.cps.size < 100) (i j : Nat) (e : fnOf' l i = fnOf' l j) : i = j := by
  unfold fnOf' at e
  cases hi : l[i]? with
  | some x =>
    rw [hi] at e
    cases hj : l[j]? with
    | some y =>
      rw [hj] at e
      have e : x = y := e
      subst e
      obtain ⟨h3, h4⟩ := List.getElem?_eq_some_iff.mp hi
      obtain ⟨h5, h6⟩ := List.getElem?_eq_some_iff.mp hj
      exact (List.getElem_inj h).mp (h4.trans h6.symm)
    | none =>
      rw [hj] at e
      have e : x = (⟨Array.replicate (j + 100) 126⟩ : Str) := e
      have := h2 x (List.mem_of_getElem? hi)
      rw [e] at this
      simp at this
      omega
  | none =>
    rw [hi] at e
    cases hj : l[j]? with
    | some y =>
      rw [hj] at e
      have e : (⟨Array.replicate (i + 100) 126⟩ : Str) = y := e
      have := h2 y (List.mem_of_getElem? hj)
      rw [← e] at this
      simp at this
      omega
    | none =>
      rw [hj] at e
      have e : (⟨Array.replicate (i + 100) 126⟩ : Str) = ⟨Array.replicate (j + 100) 126⟩ := e
      have := congrArg (fun z : Str => z.cps.size) e
      simp at this
      exact this
theorem hu64 {A : Around} {k : Nat} (hr : Room k A) : A.units + 64 < cLine := by
  have := hr.un
  omega
/-- the end: what is known of the top, all of it -/
theorem walk_all {l : PySem.W.OpenLaw} {n k : Nat} {q : Program} {loose : List Str} {XP : (Str → Option Value) → Heap → Prop} {YP : World → Heap → Prop} {d : DefRec} {K : Params → PySem.W.Frag} {CX : World → CXT} {x : Str}
    (hn : l.most = some n) (hn2 : n ≤ sizeLine) (hdf : d.params.defaults = []) (hr : Room k callerA) (hY : ∀ (w : World) (h : Heap), YP w h → (K w.params).In h)
    (F : ∀ (w : World) (mg mb : Str → Option Value) (mean : ExcName → Option Value) (fa : Addr) (h : Heap), YP w h → (K w.params).In h → Top q (PySem.W.looseW q loose) mean mg mb h → mg d.name = some (.ref fa) → LamX.LawAtS l w (K w.params) (CX w) k n x mg fa h)
    (hCX : ∀ (w : World) (H : Hp) (s : Shared) (e : Value) (s' : Shared), CX w [] H s (fun _ _ _ => False) e s' → False) :
    PySem.W.WalkO q loose XP YP l.row.toRowW d [] (fun f vs => PySem.call f vs) := by
  refine Att.attach_callB hn hdf fun w s₀ s₁ mg mb fa o pm cd doc a vs ns G Y ho hd hcd hmg hobj hints hlen hbits hg => ?_
  have KX := hY w _ Y
  obtain ⟨fd, cs, sp, hT, nT, C, hb, hsp, hF⟩ := F w mg mb _ fa _ Y KX G.T hmg
  exact LamX.law_callTs KX G.T.g G.T.b G.T.builtins G.T.nolimit hg hT nT C G.T.bmain hobj hints (Nat.le_trans hlen hn2) hr hF hb (fun H hH hS => hsp H a ns hlen hbits hH hS) fun H e s' => hCX w H s₁ e s'
/-- the table of a def of the top -/
theorem tab_ofTop {q : Program} {loose : List Str} {mean : ExcName → Option Value} {mg mb : Str → Option Value} {h : Heap} {K : PySem.W.Frag} {x : Str} {f c P : Addr} {fd : FuncData} {oc e : Value} {od dd : Option Addr} {osl sl : Array (Option Value)} {vs : Array Value} (T : Top q loose mean mg mb h) (X : K.In h) (hrec : ((recsOf q).any fun e => e.name == x) = true)
    (hm : mg x = some (.ref f)) (l : K.lookup f = some ⟨oc, od, .func fd, osl⟩) (hc : fd.code = .ref c) (lc : K.lookup c = some ⟨e, dd, .fields vs, sl⟩) (lp : vs[11]? = some (.ref P)) : PySem.W.CodeHd h c P ∧ h.get? P = some { cls := .none, data := .fields #[] } := by
  obtain ⟨dL, hmem, hn1⟩ := List.any_eq_true.mp hrec
  have hn2 : dL.name = x := beq_iff_eq.mp hn1
  obtain ⟨a', o', fd', c', P', h1, h2, h3, h4, h5, h6⟩ := T.tab dL hmem
  rw [hn2, hm] at h1
  cases h1
  have g1 := X _ _ l
  rw [g1] at h2
  cases h2
  cases h3
  rw [hc] at h4
  cases h4
  have h6' := h6
  obtain ⟨⟨oc, vc, e1, _, e3, e4⟩, hP⟩ := h6
  have g2 := X _ _ lc
  rw [g2] at e1
  cases e1
  cases e3
  rw [lp] at e4
  cases e4
  exact ⟨PySem.W.CodeHd.of h5 h6', hP⟩
/-- the script: a list of whole numbers -/
def IsScript (S : DS) (x : D) (ns : List Int) : Prop := x = .rol (ns.map D.int) ∨ ∃ a, x = .ref a ∧ S a = some (.lst (ns.map D.int))
theorem slScript {S : DS} {x : D} {ns : List Int} {lo hi : Option Int} {Q : QD} (h : IsScript S x ns) (k : ∀ l, S l = none → Q (.ref l) (put S l (.lst (G.cutD (ns.map D.int) lo hi)))) : slD x lo hi S Q := by
  rcases h with rfl | ⟨a, rfl, h⟩
  · exact k
  · exact ⟨_, h, k⟩
/-- from the law's start -/
theorem start_sp {K : PySem.W.Frag} {Z : Zt} {H : Hp} {a : Addr} {ns : List Int} {sp : SpD} (hT : ∀ P ∈ Z.T, H P = some (.tbl #[])) (hL : ∀ p ∈ Z.TL, H p.1 = some (.tbl #[])) (hS : SqL K H a (ns.map V.int)) (h : ∀ S x (Q : QD) E, IsScript S x ns → (∀ S, Q (.bl true) S) → sp [x] S Q E) :
    liftSp K Z sp [.ref a] H (fun v _ => v = .bl true) fun _ _ _ => False := by
  have tb : TB Z H := ⟨fun P hP => ⟨#[], hT P hP, True.intro⟩, fun p hp => LamX.TabS.nil (hL p hp)⟩
  have fin : ∀ (x : D) (S : DS), ST K Z S H → DV K H x (.ref a) → IsScript S x ns → liftSp K Z sp [.ref a] H (fun v _ => v = .bl true) fun _ _ _ => False := fun x S st dv hx =>
    ⟨[x], S, fun d _ => d = .bl true, fun _ _ => False, st, DVs.cons dv (dvs_nil.mpr rfl), h S x _ _ hx fun _ => rfl, fun d S' v H' _ _ dv hd => by rw [hd] at dv; exact dv_bl.mp dv, fun _ _ _ _ _ _ z => z⟩
  rcases hS with (h1 | ⟨o, h1⟩) | h1
  · refine fin (.ref a) (put (fun _ => none) a (.lst (ns.map D.int))) ⟨fun b o e => ?_, tb⟩ (dv_ref.mpr rfl) (.inr ⟨a, rfl, put_same⟩)
    by_cases hb : b = a
    · subst hb
      rw [put_same] at e
      cases e
      exact ⟨_, h1, dvs_ints ns⟩
    · rw [put_ne hb] at e
      cases e
  · exact fin (.rol (ns.map D.int)) (fun _ => none) ⟨fun b o e => (nomatch e), tb⟩ (dv_rol.mpr ⟨a, _, rfl, .inl ⟨o, h1⟩, dvs_ints ns⟩) (.inl rfl)
  · exact fin (.rol (ns.map D.int)) (fun _ => none) ⟨fun b o e => (nomatch e), tb⟩ (dv_rol.mpr ⟨a, _, rfl, .inr h1, dvs_ints ns⟩) (.inl rfl)
/-- an error of the class at S is what «except S» names -/
theorem exm_of {K : PySem.W.Frag} {C S : Addr} {b : Bool} (h1 : PySem.W.subIn K (.ref S) (.type "BaseException") = some true) (h2 : PySem.W.isClsIn K S = true) (h3 : PySem.W.typeIn K (.ref S) = some (.type "type")) (h4 : PySem.W.subIn K (.ref C) (.ref S) = some b) :
    PySem.W.exmOne K (.ref C) (.ref S) = some b := by
  have e1 : (PySem.W.subIn K (.ref S) (.type "BaseException") == some true) = true := by rw [h1] <;> rfl
  have e2 : ((PySem.W.clsIn K S).isSome && PySem.W.typeIn K (.ref S) == some (.type "type")) = true := by
    have h2' : (PySem.W.clsIn K S).isSome = true := h2
    rw [h2', h3] <;> rfl
  unfold PySem.W.exmOne
  rw [if_pos e1]
  unfold PySem.W.kitCls
  first
    | (rw [if_pos e2]; exact h4)
    | (simp only [e2, if_true]; exact h4)
end G

set_option Elab.async false
set_option linter.all false
set_option maxRecDepth 100000
set_option maxHeartbeats 4000000
/-! GT: plain facts about the texts of whole numbers. -/
namespace G
open PySem PySem.NumText
/-- the signs of a number's text -/
def natD (n : Nat) : List Nat := (Nat.toDigits 10 n).map (fun c : Char => c.toNat)
theorem natD_small {n : Nat} (h : n < 10) : natD n = [48 + n] := by
  unfold natD
  rw [Nat.toDigits_of_lt_base h]
  have : ∀ d : Nat, d < 10 → [Nat.digitChar d].map (fun c : Char => c.toNat) = [48 + d] := by decide
  exact this n h
theorem natD_step {n d : Nat} (h : 0 < n) (hd : d < 10) : natD (10 * n + d) = natD n ++ [48 + d] := by
  unfold natD
  rw [← Nat.toDigits_append_toDigits (by decide) h hd, List.map_append]
  have := natD_small hd
  unfold natD at this
  rw [this]
theorem natD_ind {P : Nat → Prop} (h0 : ∀ n, n < 10 → P n) (h1 : ∀ n d, 0 < n → d < 10 → P n → P (10 * n + d)) : ∀ n, P n := by
  intro n
  induction n using Nat.strongRecOn with
  | _ n ih =>
    by_cases h : n < 10
    · exact h0 n h
    · have e : 10 * (n / 10) + n % 10 = n := Nat.div_add_mod n 10
      rw [← e]
      exact h1 _ _ (by omega) (by omega) (ih _ (by omega))
theorem natD_digits (n : Nat) : AllDigits (natD n) := by
  refine natD_ind (P := fun n => AllDigits (natD n)) (fun n h => ?_) (fun n d h hd ih => ?_) n
  · rw [natD_small h]
    intro c hc
    have := List.mem_singleton.mp hc
    omega
  · rw [natD_step h hd]
    intro c hc
    rcases List.mem_append.mp hc with q | q
    · exact ih c q
    · have := List.mem_singleton.mp q
      omega
theorem natD_val (n : Nat) : digitsVal (natD n) = n := by
  refine natD_ind (P := fun n => digitsVal (natD n) = n) (fun n h => ?_) (fun n d h hd ih => ?_) n
  · rw [natD_small h]
    show 0 * 10 + (48 + n - 48) = n
    omega
  · rw [natD_step h hd, digitsVal_snoc, ih]
    omega
theorem natD_ne (n : Nat) : natD n ≠ [] := by
  by_cases h : n < 10
  · rw [natD_small h]; simp
  · have e : 10 * (n / 10) + n % 10 = n := Nat.div_add_mod n 10
    rw [← e, natD_step (by omega) (by omega)]
    simp
theorem natD_head (n : Nat) : 0 < n → ∃ c r, natD n = c :: r ∧ 49 ≤ c ∧ c ≤ 57 := by
  refine natD_ind (P := fun n => 0 < n → ∃ c r, natD n = c :: r ∧ 49 ≤ c ∧ c ≤ 57) (fun n h hp => ?_) (fun n d h hd ih _ => ?_) n
  · exact ⟨48 + n, [], natD_small h, by omega, by omega⟩
  · obtain ⟨c, r, e, h1, h2⟩ := ih h
    exact ⟨c, r ++ [48 + d], by rw [natD_step h hd, e]; rfl, h1, h2⟩
theorem natD_len (k : Nat) : ∀ n, n < 10 ^ (k + 1) → (natD n).length ≤ k + 1 := by
  induction k with
  | zero =>
    intro n h
    rw [natD_small (by simpa using h)]
    simp
  | succ k ih =>
    intro n h
    by_cases hn : n < 10
    · rw [natD_small hn]; simp
    · have e : 10 * (n / 10) + n % 10 = n := Nat.div_add_mod n 10
      rw [← e, natD_step (by omega) (by omega), List.length_append]
      have h2 : n / 10 < 10 ^ (k + 1) := by
        rw [Nat.pow_succ] at h
        omega
      have := ih _ h2
      simp
      omega
/-- n has k + 1 digits at least -/
theorem natD_long (k : Nat) : ∀ n, 10 ^ k ≤ n → k < (natD n).length := by
  induction k with
  | zero =>
    intro n h
    have := natD_ne n
    exact List.length_pos_iff.mpr this
  | succ k ih =>
    intro n h
    have h1 : 10 ^ k * 10 = 10 ^ (k + 1) := (Nat.pow_succ ..).symm
    have hp : 0 < 10 ^ k := Nat.pow_pos (by decide)
    have e : 10 * (n / 10) + n % 10 = n := Nat.div_add_mod n 10
    rw [← e, natD_step (by omega) (by omega), List.length_append]
    have := ih (n / 10) (by omega)
    simp
    omega
theorem toString_nat (n : Nat) : (Str.ofString (toString (n : Int))).cps.toList = natD n := PySem.W.KIN.signs_num n
theorem str_ext {a b : Str} (h : a.cps.toList = b.cps.toList) : a = b := by
  cases a; cases b
  congr 1
  exact Array.ext' h
theorem toString_nat' (n : Nat) : (Str.ofString (toString (n : Int))) = ⟨(natD n).toArray⟩ := str_ext (by rw [toString_nat])
theorem toString_int {i : Int} (h : 0 ≤ i) : (Str.ofString (toString i)) = ⟨(natD i.toNat).toArray⟩ := by
  have e : i = ((i.toNat : Nat) : Int) := by omega
  rw [e]
  exact toString_nat' _
theorem log2_of_lt {i : Int} {k : Nat} (h : i.natAbs < 2 ^ k) (h0 : 0 < k) : i.natAbs.log2 < k := by
  by_cases hz : i.natAbs = 0
  · rw [hz]; simpa using h0
  · exact (Nat.log2_lt hz).mpr h
theorem len_mk (l : List Nat) : (⟨l.toArray⟩ : Str).length = l.length := by simp [Str.length]
theorem cat_mk (a b : List Nat) : (⟨a.toArray⟩ : Str) ++ ⟨b.toArray⟩ = ⟨(a ++ b).toArray⟩ := SX.S_cat a b
theorem mk_inj {a b : List Nat} : ((⟨a.toArray⟩ : Str) = ⟨b.toArray⟩) ↔ a = b := ⟨fun h => SX.S_inj h, fun h => by rw [h]⟩
def genB (scope : Scope) (x : Str) : Bool := decide (scope.kind = .function) && !scope.isCoroutine && scope.names.all (fun y => !decide (y.2 = .cell) && !decide (y.2 = .free)) && decide (scope.names.lookup (".0" : Str) = some NameKind.local) && decide (scope.names.lookup x = some NameKind.local)
theorem genS_by {env : Env} {scope : Scope} {x : Str} (h : genB scope x = true) : GxR.GenS env scope x := by
  unfold genB at h
  simp only [Bool.and_eq_true, Bool.not_eq_true', decide_eq_true_eq, decide_eq_false_iff_not, List.all_eq_true] at h
  obtain ⟨⟨⟨⟨h1, h2⟩, h3⟩, h4⟩, h5⟩ := h
  exact ⟨h1, h2, fun y hy => (h3 y hy).1, h4, h5, fun y hy e => absurd e (h3 y hy).2⟩
theorem bt_abs : bootBuiltins "abs" = some (.builtin "abs") := by decide +kernel
theorem bt_len : bootBuiltins "len" = some (.builtin "len") := by decide +kernel
theorem bt_max : bootBuiltins "max" = some (.builtin "max") := by decide +kernel
theorem bt_min : bootBuiltins "min" = some (.builtin "min") := by decide +kernel
theorem bt_sum : bootBuiltins "sum" = some (.builtin "sum") := by decide +kernel
theorem bt_int : bootBuiltins "int" = some (.type "int") := by decide +kernel
theorem bt_str : bootBuiltins "str" = some (.type "str") := by decide +kernel
theorem bt_list : bootBuiltins "list" = some (.type "list") := by decide +kernel
theorem bt_tuple : bootBuiltins "tuple" = some (.type "tuple") := by decide +kernel
theorem _root_.PySem.NumText.intText_digits' {c : Nat} {r : List Nat} (h : AllDigits (c :: r)) (h2 : (c :: r).length ≤ 4300 := by decide) : intText? ⟨(c :: r).toArray⟩ = some ((digitsVal (c :: r) : Nat) : Int) := intText_digits (x := ⟨(c :: r).toArray⟩) h (by simp) (by rw [len_mk]; exact h2)
/-! ### parts of texts -/
theorem slen (z : Str) : z.cps.toList.length = z.length := Array.length_toList
theorem cutS_from {z : Str} {k : Nat} (h : k ≤ z.length) : L2.cutS z (some (k : Int)) none = ⟨(z.cps.toList.drop k).toArray⟩ := by
  unfold L2.cutS
  rw [HT.sIx_nat, HT.sIx_none, Nat.min_eq_left h]
  congr 2
  rw [List.take_of_length_le]
  rw [List.length_drop, slen]
  omega
theorem cutS_to {z : Str} {k : Nat} (h : k ≤ z.length) : L2.cutS z none (some (k : Int)) = ⟨(z.cps.toList.take k).toArray⟩ := by
  unfold L2.cutS
  rw [HT.sIx_nat, HT.sIx_none, Nat.min_eq_left h]
  rfl
theorem par_one {c : Nat} : ∀ (l acc : List Nat), TL.par [c] acc l = if c ∈ l then some (acc ++ l.takeWhile (· != c), (l.dropWhile (· != c)).tail) else none
  | [], acc => rfl
  | d :: r, acc => by
    by_cases h : d = c
    · subst h
      rw [TL.par_hit (by unfold TL.pre; simp)]
      simp
    · rw [TL.par_miss (by unfold TL.pre; simp [h]), par_one r]
      have h1 : (d != c) = true := by simp [h]
      have h2 : (c ∈ d :: r) ↔ c ∈ r := by simp [Ne.symm h]
      by_cases hm : c ∈ r
      · rw [if_pos hm, if_pos (h2.mpr hm), List.takeWhile_cons, if_pos h1, List.dropWhile_cons, if_pos h1]
        simp
      · rw [if_neg hm, if_neg (fun z => hm (h2.mp z))]
theorem partition_one (z : Str) (c : Nat) : Txt.partition z ⟨#[c]⟩ = if c ∈ z.cps.toList then (⟨(z.cps.toList.takeWhile (· != c)).toArray⟩, ⟨#[c]⟩, ⟨((z.cps.toList.dropWhile (· != c)).tail).toArray⟩) else (z, Str.empty, Str.empty) := by
  rw [TL.partition_par z ⟨#[c]⟩ (by show [c] ≠ []; simp)]
  show (match TL.par [c] [] z.cps.toList with | some (a, b) => ((⟨a.toArray⟩ : Str), (⟨#[c]⟩ : Str), (⟨b.toArray⟩ : Str)) | none => (z, Str.empty, Str.empty)) = _
  rw [par_one]
  by_cases h : c ∈ z.cps.toList
  · rw [if_pos h, if_pos h]
    rfl
  · rw [if_neg h, if_neg h]
theorem sign_at {z : Str} {i : Nat} {d : D} (h : (G.signs z)[i]? = some d) : ∃ c, z.cps.toList[i]? = some c ∧ d = .str ⟨#[c]⟩ := by
  unfold G.signs at h
  rw [List.getElem?_map] at h
  cases e : z.cps.toList[i]? with
  | none => rw [e] at h; cases h
  | some c => rw [e] at h; cases h; exact ⟨c, rfl, rfl⟩
theorem signs_len (z : Str) : (G.signs z).length = z.cps.toList.length := by unfold G.signs; rw [List.length_map]
theorem atI_nat {α : Type} {l : List α} {i : Nat} {c : α} (h : l[i]? = some c) : L2.atI l (i : Int) = some c := by
  have hl := (List.getElem?_eq_some_iff.mp h).1
  unfold L2.atI L2.ixN
  rw [if_pos (by omega), if_pos (by omega)]
  simpa using h
theorem put_none {S : DS} {a b : Addr} {o : O} (h : put S a o b = none) : S b = none := by
  unfold put at h
  split at h
  · cases h
  · exact h
theorem put_none_ne {S : DS} {a b : Addr} {o : O} (h : put S a o b = none) : b ≠ a := by
  intro e
  rw [e, put_same] at h
  cases h
/-! ### steps of readings -/
theorem itd {p : Prop} [Decidable p] {A B : Prop} (h1 : p → A) (h2 : ¬ p → B) : if decide p = true then A else B := by
  by_cases h : p
  · rw [if_pos (decide_eq_true h)]; exact h1 h
  · rw [decide_eq_false h, if_neg Bool.false_ne_true]; exact h2 h
theorem itn {p : Prop} [Decidable p] {A B : Prop} (h1 : ¬ p → A) (h2 : p → B) : if (!decide p) = true then A else B := by
  by_cases h : p
  · rw [decide_eq_true h]; exact (if_neg (by decide)).mpr (h2 h)
  · rw [decide_eq_false h]; exact (if_pos (by decide)).mpr (h1 h)
theorem itb {c : Bool} {A B : Prop} (h1 : c = true → A) (h2 : c = false → B) : if c = true then A else B := by
  cases c with
  | true => rw [if_pos rfl]; exact h1 rfl
  | false => rw [if_neg Bool.false_ne_true]; exact h2 rfl
theorem itnb {c : Bool} {A B : Prop} (h1 : c = false → A) (h2 : c = true → B) : if (!c) = true then A else B := by
  cases c with
  | true => exact (if_neg (by decide)).mpr (h2 rfl)
  | false => exact (if_pos (by decide)).mpr (h1 rfl)
theorem fin_rt {Q : QD} {E : XD} {S : DS} {d : D} (h : Q d S) : (fin Q E).rt d S := ⟨S, Sub.refl S, h⟩
theorem fin_ex {Q : QD} {E : XD} {S : DS} {c : Nat} {r : Env_} (h : E c S) : (fin Q E).ex c r S := ⟨S, Sub.refl S, h⟩
theorem fin_nx {Q : QD} {E : XD} {S : DS} {r : Env_} (h : Q .non S) : (fin Q E).nx r S := ⟨S, Sub.refl S, h⟩
theorem mulR {i j : Int} (h : -(2 ^ 64) < j ∧ j < 2 ^ 64) : MulOk i j := .inl (.inr h)
theorem mulL {i j : Int} (h : -(2 ^ 64) < i ∧ i < 2 ^ 64) : MulOk i j := .inl (.inl h)
theorem divS {j : Int} (h0 : j ≠ 0) (h : j.natAbs < 1073741824) : DivOk j := ⟨h0, .inl h⟩
theorem keep_put {S : DS} {a l : Addr} {o u : O} (h : S a = some o) (h' : S l = none) : put S l u a = some o := by rw [put_ne (ne_of_free h h')]; exact h
end G

set_option Elab.async false
set_option linter.all false
set_option maxRecDepth 100000
set_option maxHeartbeats 4000000
namespace K02
open PySem PySem.Spec PyProof.Rows L2 G
def top (i : Nat) : Stmt := PySem.Challenge.pw_cellstack_k02_spots_and_ranges.main.body.getD i (.Pass ⟨0, 0, 0, 0⟩)
abbrev s_column_name : Stmt := top 8
theorem sc_column_name : FnScope ["column"] ["column"] (defScope s_column_name) := ⟨rfl, rfl, rfl, by decide +kernel, rfl, by decide +kernel, by decide +kernel⟩
abbrev s_column_number : Stmt := top 9
theorem sc_column_number : FnScope ["name", "found", "sign"] ["name"] (defScope s_column_number) := ⟨rfl, rfl, rfl, by decide +kernel, rfl, by decide +kernel, by decide +kernel⟩
abbrev s_spot_name : Stmt := top 10
theorem sc_spot_name : FnScope ["spot"] ["spot"] (defScope s_spot_name) := ⟨rfl, rfl, rfl, by decide +kernel, rfl, by decide +kernel, by decide +kernel⟩
abbrev s_spot_of : Stmt := top 11
theorem sc_spot_of : FnScope ["name", "many", "figures"] ["name"] (defScope s_spot_of) := ⟨rfl, rfl, rfl, by decide +kernel, rfl, by decide +kernel, by decide +kernel⟩
abbrev s_is_spot_name : Stmt := top 12
theorem sc_is_spot_name : FnScope ["text"] ["text"] (defScope s_is_spot_name) := ⟨rfl, rfl, rfl, by decide +kernel, rfl, by decide +kernel, by decide +kernel⟩
abbrev s_Area___init__ : Stmt := inClass (top 13) 0
theorem sc_Area___init__ : FnScope ["self", "left", "top", "right", "bottom"] ["self", "left", "top", "right", "bottom"] (defScope s_Area___init__) := ⟨rfl, rfl, rfl, by decide +kernel, rfl, by decide +kernel, by decide +kernel⟩
abbrev s_Area_shown : Stmt := inClass (top 13) 1
theorem sc_Area_shown : FnScope ["self"] ["self"] (defScope s_Area_shown) := ⟨rfl, rfl, rfl, by decide +kernel, rfl, by decide +kernel, by decide +kernel⟩
abbrev s_Area_size : Stmt := inClass (top 13) 2
theorem sc_Area_size : FnScope ["self"] ["self"] (defScope s_Area_size) := ⟨rfl, rfl, rfl, by decide +kernel, rfl, by decide +kernel, by decide +kernel⟩
abbrev s_Area_holds : Stmt := inClass (top 13) 3
theorem sc_Area_holds : FnScope ["self", "spot"] ["self", "spot"] (defScope s_Area_holds) := ⟨rfl, rfl, rfl, by decide +kernel, rfl, by decide +kernel, by decide +kernel⟩
abbrev s_Area_spots : Stmt := inClass (top 13) 4
theorem sc_Area_spots : FnScope ["self", "columns", "row", "column"] ["self"] (defScope s_Area_spots) := ⟨rfl, rfl, rfl, by decide +kernel, rfl, by decide +kernel, by decide +kernel⟩
abbrev s_Area_meets : Stmt := inClass (top 13) 5
theorem sc_Area_meets : FnScope ["self", "other"] ["self", "other"] (defScope s_Area_meets) := ⟨rfl, rfl, rfl, by decide +kernel, rfl, by decide +kernel, by decide +kernel⟩
abbrev s_Area_label : Stmt := inClass (top 13) 6
theorem sc_Area_label : FnScope ["self", "first", "last"] ["self"] (defScope s_Area_label) := ⟨rfl, rfl, rfl, by decide +kernel, rfl, by decide +kernel, by decide +kernel⟩
abbrev s_area_of : Stmt := top 14
theorem sc_area_of : FnScope ["text", "first", "mark", "last", "one", "other"] ["text"] (defScope s_area_of) := ⟨rfl, rfl, rfl, by decide +kernel, rfl, by decide +kernel, by decide +kernel⟩
abbrev s_moved_place : Stmt := top 15
theorem sc_moved_place : FnScope ["place", "at", "many"] ["place", "at", "many"] (defScope s_moved_place) := ⟨rfl, rfl, rfl, by decide +kernel, rfl, by decide +kernel, by decide +kernel⟩
abbrev s_moved_span : Stmt := top 16
theorem sc_moved_span : FnScope ["first", "last", "at", "many", "gone", "low", "high"] ["first", "last", "at", "many"] (defScope s_moved_span) := ⟨rfl, rfl, rfl, by decide +kernel, rfl, by decide +kernel, by decide +kernel⟩
abbrev s_moved_area : Stmt := top 17
theorem sc_moved_area : FnScope ["area", "axis", "at", "many", "columns", "rows"] ["area", "axis", "at", "many"] (defScope s_moved_area) := ⟨rfl, rfl, rfl, by decide +kernel, rfl, by decide +kernel, by decide +kernel⟩
abbrev s__law_dice : Stmt := top 19
theorem sc__law_dice : FnScope ["cell"] ["cell"] (defScope s__law_dice) := ⟨rfl, rfl, rfl, by decide +kernel, rfl, by decide +kernel, by decide +kernel⟩
abbrev s__law_roll : Stmt := top 20
theorem sc__law_roll : FnScope ["dice", "many", "found"] ["dice", "many"] (defScope s__law_roll) := ⟨rfl, rfl, rfl, by decide +kernel, rfl, by decide +kernel, by decide +kernel⟩
abbrev s__law_rounds : Stmt := top 21
theorem sc__law_rounds : FnScope ["script", "most", "cells", "cell"] ["script", "most"] (defScope s__law_rounds) := ⟨rfl, rfl, rfl, by decide +kernel, rfl, by decide +kernel, by decide +kernel⟩
abbrev s__law_told : Stmt := top 22
theorem sc__law_told : FnScope ["what"] ["what"] (defScope s__law_told) := ⟨rfl, rfl, rfl, by decide +kernel, rfl, by decide +kernel, by decide +kernel⟩
abbrev s__law_column : Stmt := top 23
theorem sc__law_column : FnScope ["column", "letters"] ["column"] (defScope s__law_column) := ⟨rfl, rfl, rfl, by decide +kernel, rfl, by decide +kernel, by decide +kernel⟩
abbrev s__law_area : Stmt := top 24
theorem sc__law_area : FnScope ["dice", "size", "left", "top"] ["dice", "size"] (defScope s__law_area) := ⟨rfl, rfl, rfl, by decide +kernel, rfl, by decide +kernel, by decide +kernel⟩
abbrev s__law_goes : Stmt := top 25
theorem sc__law_goes : FnScope ["place", "at", "many"] ["place", "at", "many"] (defScope s__law_goes) := ⟨rfl, rfl, rfl, by decide +kernel, rfl, by decide +kernel, by decide +kernel⟩
abbrev s_law : Stmt := top 26
theorem sc_law : FnScope ["script", "dice", "bad", "ends", "column", "row", "name", "one", "other", "area", "second", "spots", "y", "first", "last", "label", "mixed", "axis", "at", "many", "low", "high", "goes", "left", "due", "found", "place", "f", "x", "spot"] ["script"] (defScope s_law) := ⟨rfl, rfl, rfl, by decide +kernel, rfl, by decide +kernel, by decide +kernel⟩
def fnT : List Str := ["left", "top", "right", "bottom", "shown", "size", "holds", "spots", "meets", "label", "__init__"]
def lmT (j : Nat) : Option LamR := match j with
  | 0 => some (lamOf "law.<locals>.<lambda>" (lstAt (asgVal ((defBody s_law).getD 1 (.Pass ⟨0, 0, 0, 0⟩))) 0))
  | 1 => some (lamOf "law.<locals>.<lambda>" (lstAt (asgVal ((defBody s_law).getD 1 (.Pass ⟨0, 0, 0, 0⟩))) 1))
  | 2 => some (lamOf "law.<locals>.<lambda>" (lstAt (asgVal ((defBody s_law).getD 1 (.Pass ⟨0, 0, 0, 0⟩))) 2))
  | 3 => some (lamOf "law.<locals>.<lambda>" (lstAt (asgVal ((defBody s_law).getD 1 (.Pass ⟨0, 0, 0, 0⟩))) 3))
  | 4 => some (lamOf "law.<locals>.<lambda>" (lstAt (asgVal ((defBody s_law).getD 1 (.Pass ⟨0, 0, 0, 0⟩))) 4))
  | 5 => some (lamOf "law.<locals>.<lambda>" (lstAt (asgVal ((defBody s_law).getD 1 (.Pass ⟨0, 0, 0, 0⟩))) 5))
  | 6 => some (lamOf "law.<locals>.<lambda>" (lstAt (asgVal ((defBody s_law).getD 1 (.Pass ⟨0, 0, 0, 0⟩))) 6))
  | 7 => some (lamOf "law.<locals>.<lambda>" (lstAt (asgVal ((defBody s_law).getD 1 (.Pass ⟨0, 0, 0, 0⟩))) 7))
  | 8 => some (lamOf "law.<locals>.<lambda>" (lstAt (asgVal ((defBody s_law).getD 1 (.Pass ⟨0, 0, 0, 0⟩))) 8))
  | 9 => some (lamOf "law.<locals>.<lambda>" (lstAt (asgVal ((defBody s_law).getD 1 (.Pass ⟨0, 0, 0, 0⟩))) 9))
  | 10 => some (lamOf "law.<locals>.<lambda>" (lstAt (asgVal ((defBody s_law).getD 1 (.Pass ⟨0, 0, 0, 0⟩))) 10))
  | 11 => some (lamOf "law.<locals>.<lambda>" (lstAt (asgVal ((defBody s_law).getD 1 (.Pass ⟨0, 0, 0, 0⟩))) 11))
  | 12 => some (lamOf "law.<locals>.<lambda>" (lstAt (asgVal ((defBody s_law).getD 1 (.Pass ⟨0, 0, 0, 0⟩))) 12))
  | 13 => some (lamOf "law.<locals>.<lambda>" (lstAt (asgVal ((defBody s_law).getD 1 (.Pass ⟨0, 0, 0, 0⟩))) 13))
  | 14 => some (lamOf "law.<locals>.<lambda>" (lstAt (asgVal ((defBody s_law).getD 1 (.Pass ⟨0, 0, 0, 0⟩))) 14))
  | 15 => some (lamOf "law.<locals>.<lambda>" (lstAt (asgVal ((defBody s_law).getD 1 (.Pass ⟨0, 0, 0, 0⟩))) 15))
  | _ => none
def tx : Tx where
  gn := fun i => match i with | 0 => some "column_name" | 1 => some "column_number" | 2 => some "spot_name" | 3 => some "spot_of" | 4 => some "is_spot_name" | 12 => some "area_of" | 13 => some "moved_place" | 14 => some "moved_span" | 15 => some "moved_area" | 16 => some "_law_dice" | 17 => some "_law_roll" | 18 => some "_law_rounds" | 35 => some "_law_told" | 36 => some "_law_column" | 37 => some "_law_area" | 38 => some "_law_goes" | 39 => some "law" | _ => none
  cn := fun i => match i with | 0 => some "Area" | _ => none
  fl := fun c i => match c, i with | 0, 0 => true | 0, 1 => true | 0, 2 => true | 0, 3 => true | _, _ => false
  mt := fun c i => match c, i with | 0, 4 => some 6 | 0, 5 => some 7 | 0, 6 => some 8 | 0, 7 => some 9 | 0, 8 => some 10 | 0, 9 => some 11 | _, _ => none
  it := fun i => match i with | 0 => some 5 | _ => none
  va := fun i => match i with | 0 => some ("LETTERS", .str "ABCDEFGHIJKLMNOPQRSTUVWXYZ") | 1 => some ("FIGURES", .str "0123456789") | 2 => some ("MOST_COLUMNS", .int 702) | 3 => some ("MOST_ROWS", .int 9999) | _ => none
  bl := fun i => match i with | 0 => some "len" | 1 => some "any" | 2 => some "str" | 3 => some "int" | 4 => some "range" | 5 => some "list" | 6 => some "min" | 7 => some "max" | 8 => some "abs" | _ => none
  xn := fun i => match i with | 0 => some "SpotError" | _ => none
  sb := fun i j => match i, j with | 0, 0 => some true | _, _ => none

/-! ### the mirror -/
def LETz : Str := "ABCDEFGHIJKLMNOPQRSTUVWXYZ"
def FIGz : Str := "0123456789"
def colL (c : Int) : List Nat := if c < 26 then [65 + c.toNat] else [65 + (c / 26 - 1).toNat, 65 + (c % 26).toNat]
def colName (c : Int) : Str := ⟨(colL c).toArray⟩
def colOk (l : List Nat) : Bool := decide (0 < l.length) && decide (l.length ≤ 2) && !(l.any fun c => !decide (c ∈ LETz.cps.toList))
def colFold (l : List Nat) : Int := l.foldl (fun (f : Int) c => f * 26 + ((c - 65 : Nat) : Int) + 1) 0
def colNum (l : List Nat) : Int := colFold l - 1
def spotL (x y : Int) : List Nat := colL x ++ natD (y + 1).toNat
def spotName (x y : Int) : Str := ⟨(spotL x y).toArray⟩
def isLet (c : Nat) : Bool := decide (c ∈ LETz.cps.toList)
def lead (l : List Nat) : Nat := (l.takeWhile isLet).length
def figOk (l : List Nat) : Bool := decide (0 < l.length) && decide (l.length ≤ 4) && !(decide (l.head? = some 48)) && !(l.any fun c => !decide (c ∈ FIGz.cps.toList))
def spotOf (l : List Nat) : Option (Int × Int) := if figOk (l.drop (lead l)) && colOk (l.take (lead l)) then some (colNum (l.take (lead l)), ((NumText.digitsVal (l.drop (lead l)) : Nat) : Int) - 1) else none
def areaOk (l t r b : Int) : Prop := 0 ≤ l ∧ l ≤ r ∧ r < 702 ∧ 0 ≤ t ∧ t ≤ b ∧ b < 9999
instance (l t r b : Int) : Decidable (areaOk l t r b) := by unfold areaOk; infer_instance
def aF (l t r b : Int) : List (Nat × D) := [(0, .int l), (1, .int t), (2, .int r), (3, .int b)]
def spotsD (l t r b : Int) : List D := (rngD t (b + 1 - t).toNat).flatMap fun y => (rngD l (r + 1 - l).toNat).map fun x => .tup [x, y]
def areaL (l t r b : Int) : List Nat := if spotL l t = spotL r b then spotL l t else spotL l t ++ [58] ++ spotL r b
def areaOf (l : List Nat) : Option (Int × Int × Int × Int) := match spotOf (l.takeWhile (· != 58)) with
  | none => none
  | some one => match (if 58 ∈ l then spotOf (l.dropWhile (· != 58)).tail else some one) with
    | none => none
    | some other => some (min one.1 other.1, min one.2 other.2, max one.1 other.1, max one.2 other.2)
def oD : Option Int → D
  | some i => .int i
  | none => .non
def mvO (p a m : Int) : Option Int := if 0 ≤ m then some (if a ≤ p then p + m else p) else if p < a then some p else if p < a - m then none else some (p + m)
def spanO (f l a m : Int) : Option (Int × Int) := if 0 ≤ m then some ((mvO f a m).getD 0, (mvO l a m).getD 0) else if a ≤ f ∧ l ≤ a - m - 1 then none else some ((mvO f a m).getD a, (mvO l a m).getD (a - 1))
def spanD : Option (Int × Int) → D
  | some p => .tup [.int p.1, .int p.2]
  | none => .non
def mvAreaO (l t r b axis a m : Int) : Option (Int × Int × Int × Int) := match (if axis = 0 then spanO l r a m else some (l, r)), (if axis = 0 then some (t, b) else spanO t b a m) with
  | some c, some w => if 702 ≤ c.1 ∨ 9999 ≤ w.1 then none else some (c.1, w.1, min c.2 701, min w.2 9998)
  | _, _ => none
theorem atLET : ∀ i : Nat, i < 26 → atI LETz.cps.toList (i : Int) = some (65 + i) := by decide +kernel
theorem atLETi {i : Int} (h0 : 0 ≤ i) (h : i < 26) : atI LETz.cps.toList i = some (65 + i.toNat) := by
  have := atLET i.toNat (by omega)
  rwa [show ((i.toNat : Nat) : Int) = i by omega] at this
theorem LETl : LETz.cps.toList = List.range' 65 26 := by decide +kernel
theorem memLET {c : Nat} (h : c ∈ LETz.cps.toList) : 65 ≤ c ∧ c < 91 := by
  rw [LETl, List.mem_range'] at h
  obtain ⟨i, h1, h2⟩ := h
  omega
theorem occL : ∀ i : Nat, i < 26 → Builtin.Str.occurrences LETz ⟨#[65 + i]⟩ 0 LETz.length 1 = [i] := by decide +kernel
theorem occLET {c : Nat} (h : c ∈ LETz.cps.toList) : Builtin.Str.occurrences LETz ⟨#[c]⟩ 0 LETz.length 1 = [c - 65] := by
  have q := memLET h
  have := occL (c - 65) (by omega)
  rwa [show 65 + (c - 65) = c by omega] at this
theorem colFold_step {l : List Nat} {i c : Nat} (h : l[i]? = some c) : colFold (l.take (i + 1)) = colFold (l.take i) * 26 + ((c - 65 : Nat) : Int) + 1 := by
  have e : l.take (i + 1) = l.take i ++ [c] := by rw [List.take_add_one, h]; rfl
  unfold colFold
  rw [e, List.foldl_append]
  rfl
theorem isLet_mem {c : Nat} : isLet c = true ↔ c ∈ LETz.cps.toList := by unfold isLet; exact decide_eq_true_iff
theorem lead_le (l : List Nat) : lead l ≤ l.length := (List.takeWhile_sublist _).length_le
theorem lead_step : ∀ (l : List Nat) (k c : Nat), k ≤ lead l → l[k]? = some c → (if isLet c = true then k + 1 ≤ lead l else k = lead l)
  | [], k, c, _, h => by simp at h
  | d :: r, k, c, hk, h => by
    unfold lead at hk ⊢
    rw [List.takeWhile_cons] at hk ⊢
    by_cases hd : isLet d = true
    · rw [if_pos hd] at hk ⊢
      rw [List.length_cons] at hk ⊢
      cases k with
      | zero =>
        have e : d = c := by simpa using h
        subst e
        rw [if_pos hd]
        omega
      | succ k =>
        have ih := lead_step r k c (by unfold lead; omega) (by simpa using h)
        unfold lead at ih
        split at ih
        · rename_i q; rw [if_pos q]; omega
        · rename_i q; rw [if_neg q]; omega
    · rw [if_neg hd] at hk ⊢
      have k0 : k = 0 := by simpa using hk
      subst k0
      have e : d = c := by simpa using h
      subst e
      rw [if_neg hd]
      rfl
theorem colOk_of {l : List Nat} (h : colOk l = true) : 0 < l.length ∧ l.length ≤ 2 ∧ ∀ c ∈ l, 65 ≤ c ∧ c < 91 := by
  unfold colOk at h
  simp only [Bool.and_eq_true, decide_eq_true_eq, Bool.not_eq_true'] at h
  obtain ⟨⟨h1, h2⟩, h3⟩ := h
  refine ⟨h1, h2, fun c hc => memLET ?_⟩
  have q := List.any_eq_false.mp h3 c hc
  by_cases hx : c ∈ LETz.cps.toList
  · exact hx
  · rw [decide_eq_false hx] at q
    exact absurd rfl q
theorem colNum_bd {l : List Nat} (h : colOk l = true) : 0 ≤ colNum l ∧ colNum l < 702 := by
  obtain ⟨h1, h2, h3⟩ := colOk_of h
  match l, h1, h2, h3 with
  | [a], _, _, h3 =>
    have := h3 a (by simp)
    unfold colNum colFold
    simp
    omega
  | [a, b], _, _, h3 =>
    have := h3 a (by simp)
    have := h3 b (by simp)
    unfold colNum colFold
    simp
    omega
theorem FIGl : FIGz.cps.toList = List.range' 48 10 := by decide +kernel
theorem figOk_of {l : List Nat} (h : figOk l = true) : 0 < l.length ∧ l.length ≤ 4 ∧ l.head? ≠ some 48 ∧ NumText.AllDigits l := by
  unfold figOk at h
  simp only [Bool.and_eq_true, decide_eq_true_eq, Bool.not_eq_true', decide_eq_false_iff_not] at h
  obtain ⟨⟨⟨h1, h2⟩, h3⟩, h4⟩ := h
  refine ⟨h1, h2, h3, fun c hc => ?_⟩
  have q := List.any_eq_false.mp h4 c hc
  by_cases hx : c ∈ FIGz.cps.toList
  · rw [FIGl, List.mem_range'] at hx
    obtain ⟨i, h5, h6⟩ := hx
    omega
  · rw [decide_eq_false hx] at q
    exact absurd rfl q
theorem dval_lt : ∀ (l : List Nat), NumText.AllDigits l → NumText.digitsVal l < 10 ^ l.length := by
  intro l
  rw [← List.reverse_reverse l]
  generalize l.reverse = m
  induction m with
  | nil => intro _; decide
  | cons c m ih =>
    intro h
    rw [List.reverse_cons] at h ⊢
    rw [NumText.digitsVal_snoc, List.length_append, List.length_singleton, Nat.pow_succ]
    have h1 := ih fun d hd => h d (List.mem_append_left _ hd)
    have h2 := h c (List.mem_append_right _ (List.mem_singleton.mpr rfl))
    omega
theorem spotOf_bd {l : List Nat} {x y : Int} (h : spotOf l = some (x, y)) : 0 ≤ x ∧ x < 702 ∧ 0 ≤ y ∧ y < 9999 := by
  unfold spotOf at h
  split at h
  · rename_i c
    rw [Bool.and_eq_true] at c
    cases h
    obtain ⟨h1, h2⟩ := colNum_bd c.2
    obtain ⟨h3, h4, h5, h6⟩ := figOk_of c.1
    have h7 := dval_lt _ h6
    have h8 : 10 ^ (l.drop (lead l)).length ≤ 10 ^ 4 := Nat.pow_le_pow_right (by decide) h4
    have h9 : 0 < NumText.digitsVal (l.drop (lead l)) := by
      cases e : l.drop (lead l) with
      | nil => rw [e] at h3; simp at h3
      | cons c r =>
        rw [e] at h5 h6
        have := h6.head
        refine NumText.digitsVal_pos ?_
        have : c ≠ 48 := fun q => h5 (by rw [q]; rfl)
        omega
    exact ⟨h1, h2, by omega, by omega⟩
  · cases h
theorem areaOf_ok {l : List Nat} {a b c d : Int} (h : areaOf l = some (a, b, c, d)) : areaOk a b c d := by
  unfold areaOf at h
  cases e1 : spotOf (l.takeWhile (· != 58)) with
  | none => rw [e1] at h; cases h
  | some one =>
    obtain ⟨x, y⟩ := one
    rw [e1] at h
    have b1 := spotOf_bd e1
    cases e2 : (if 58 ∈ l then spotOf (l.dropWhile (· != 58)).tail else some (x, y)) with
    | none => simp only [e2] at h; cases h
    | some other =>
      obtain ⟨x', y'⟩ := other
      have b2 : 0 ≤ x' ∧ x' < 702 ∧ 0 ≤ y' ∧ y' < 9999 := by
        split at e2
        · exact spotOf_bd e2
        · cases e2; exact b1
      simp only [e2] at h
      cases h
      unfold areaOk
      omega
theorem fdiv26 (c : Int) : c.fdiv 26 = c / 26 := Int.fdiv_eq_ediv_of_nonneg c (by decide)
theorem div26 : DivOk 26 := ⟨by decide, .inl (by decide)⟩

abbrev M0 (Z : Zt) : List Ent := []
def sp_column_name : SpD := fun ds S Q E => ∃ c : Int, ds = [.int c] ∧ (0 ≤ c ∧ c < 702 → Q (.str (colName c)) S) ∧ (¬ (0 ≤ c ∧ c < 702) → E 0 S)
abbrev e_column_name : Ent := { sp := sp_column_name, ar := 1, dfl := [], lv := 1 }
abbrev M1 (Z : Zt) : List Ent := [e_column_name]
def sp_column_number : SpD := fun ds S Q E => ∃ z : Str, ds = [.str z] ∧ z.length ≤ 1000 ∧ (colOk z.cps.toList = true → Q (.int (colNum z.cps.toList)) S) ∧ (colOk z.cps.toList = false → E 0 S)
abbrev e_column_number : Ent := { sp := sp_column_number, ar := 1, dfl := [], lv := 1 }
abbrev M2 (Z : Zt) : List Ent := [e_column_name, e_column_number]
def sp_spot_name : SpD := fun ds S Q E => ∃ x y : Int, ds = [.tup [.int x, .int y]] ∧ (0 ≤ x ∧ x < 702 ∧ 0 ≤ y ∧ y < 9999 → Q (.str (spotName x y)) S) ∧ (¬ (0 ≤ x ∧ x < 702 ∧ 0 ≤ y ∧ y < 9999) → E 0 S)
abbrev e_spot_name : Ent := { sp := sp_spot_name, ar := 1, dfl := [], lv := 2 }
abbrev M3 (Z : Zt) : List Ent := [e_column_name, e_column_number, e_spot_name]
def sp_spot_of : SpD := fun ds S Q E => ∃ z : Str, ds = [.str z] ∧ z.length ≤ 1000 ∧ (∀ x y, spotOf z.cps.toList = some (x, y) → Q (.tup [.int x, .int y]) S) ∧ (spotOf z.cps.toList = none → E 0 S)
abbrev e_spot_of : Ent := { sp := sp_spot_of, ar := 1, dfl := [], lv := 2 }
abbrev M4 (Z : Zt) : List Ent := [e_column_name, e_column_number, e_spot_name, e_spot_of]
def sp_is_spot_name : SpD := fun ds S Q E => ∃ z : Str, ds = [.str z] ∧ z.length ≤ 1000 ∧ Q (.bl (spotOf z.cps.toList).isSome) S
abbrev e_is_spot_name : Ent := { sp := sp_is_spot_name, ar := 1, dfl := [], lv := 3 }
abbrev M5 (Z : Zt) : List Ent := [e_column_name, e_column_number, e_spot_name, e_spot_of, e_is_spot_name]
def sp_Area___init__ : SpD := fun ds S Q E => ∃ (p : Addr) (l t r b : Int), ds = [.ref p, .int l, .int t, .int r, .int b] ∧ S p = some (.ins 0 []) ∧ (areaOk l t r b → Q .non (put S p (.ins 0 (aF l t r b)))) ∧ (¬ areaOk l t r b → E 0 S)
abbrev e_Area___init__ : Ent := { sp := sp_Area___init__, ar := 5, dfl := [], lv := 1 }
abbrev M6 (Z : Zt) : List Ent := [e_column_name, e_column_number, e_spot_name, e_spot_of, e_is_spot_name, e_Area___init__]
def sp_Area_shown : SpD := fun ds S Q E => ∃ (p : Addr) (l t r b : Int), ds = [.ref p] ∧ S p = some (.ins 0 (aF l t r b)) ∧ Q (.tup [.int l, .int t, .int r, .int b]) S
abbrev e_Area_shown : Ent := { sp := sp_Area_shown, ar := 1, dfl := [], lv := 1 }
abbrev M7 (Z : Zt) : List Ent := [e_column_name, e_column_number, e_spot_name, e_spot_of, e_is_spot_name, e_Area___init__, e_Area_shown]
def sp_Area_size : SpD := fun ds S Q E => ∃ (p : Addr) (l t r b : Int), ds = [.ref p] ∧ S p = some (.ins 0 (aF l t r b)) ∧ Q (.tup [.int (r - l + 1), .int (b - t + 1)]) S
abbrev e_Area_size : Ent := { sp := sp_Area_size, ar := 1, dfl := [], lv := 1 }
abbrev M8 (Z : Zt) : List Ent := [e_column_name, e_column_number, e_spot_name, e_spot_of, e_is_spot_name, e_Area___init__, e_Area_shown, e_Area_size]
def sp_Area_holds : SpD := fun ds S Q E => ∃ (p : Addr) (l t r b x y : Int), ds = [.ref p, .tup [.int x, .int y]] ∧ S p = some (.ins 0 (aF l t r b)) ∧ Q (.bl (decide (l ≤ x ∧ x ≤ r ∧ t ≤ y ∧ y ≤ b))) S
abbrev e_Area_holds : Ent := { sp := sp_Area_holds, ar := 2, dfl := [], lv := 1 }
abbrev M9 (Z : Zt) : List Ent := [e_column_name, e_column_number, e_spot_name, e_spot_of, e_is_spot_name, e_Area___init__, e_Area_shown, e_Area_size, e_Area_holds]
def sp_Area_spots : SpD := fun ds S Q E => ∃ (p : Addr) (l t r b : Int), ds = [.ref p] ∧ S p = some (.ins 0 (aF l t r b)) ∧ areaOk l t r b ∧ r - l ≤ 100 ∧ b - t ≤ 100 ∧ ∀ q, S q = none → Q (.ref q) (put S q (.lst (spotsD l t r b)))
abbrev e_Area_spots : Ent := { sp := sp_Area_spots, ar := 1, dfl := [], lv := 1 }
abbrev M10 (Z : Zt) : List Ent := [e_column_name, e_column_number, e_spot_name, e_spot_of, e_is_spot_name, e_Area___init__, e_Area_shown, e_Area_size, e_Area_holds, e_Area_spots]
def sp_Area_meets : SpD := fun ds S Q E => ∃ (p p' : Addr) (l t r b l' t' r' b' : Int), ds = [.ref p, .ref p'] ∧ S p = some (.ins 0 (aF l t r b)) ∧ S p' = some (.ins 0 (aF l' t' r' b')) ∧ Q (.bl (decide (l ≤ r' ∧ l' ≤ r ∧ t ≤ b' ∧ t' ≤ b))) S
abbrev e_Area_meets : Ent := { sp := sp_Area_meets, ar := 2, dfl := [], lv := 1 }
abbrev M11 (Z : Zt) : List Ent := [e_column_name, e_column_number, e_spot_name, e_spot_of, e_is_spot_name, e_Area___init__, e_Area_shown, e_Area_size, e_Area_holds, e_Area_spots, e_Area_meets]
def sp_Area_label : SpD := fun ds S Q E => ∃ (p : Addr) (l t r b : Int), ds = [.ref p] ∧ S p = some (.ins 0 (aF l t r b)) ∧ areaOk l t r b ∧ Q (.str ⟨(areaL l t r b).toArray⟩) S
abbrev e_Area_label : Ent := { sp := sp_Area_label, ar := 1, dfl := [], lv := 3 }
abbrev M12 (Z : Zt) : List Ent := [e_column_name, e_column_number, e_spot_name, e_spot_of, e_is_spot_name, e_Area___init__, e_Area_shown, e_Area_size, e_Area_holds, e_Area_spots, e_Area_meets, e_Area_label]
def sp_area_of : SpD := fun ds S Q E => ∃ z : Str, ds = [.str z] ∧ z.length ≤ 1000 ∧ (∀ l t r b, areaOf z.cps.toList = some (l, t, r, b) → ∀ p, S p = none → Q (.ref p) (put S p (.ins 0 (aF l t r b)))) ∧ (areaOf z.cps.toList = none → E 0 S)
abbrev e_area_of : Ent := { sp := sp_area_of, ar := 1, dfl := [], lv := 3 }
abbrev M13 (Z : Zt) : List Ent := [e_column_name, e_column_number, e_spot_name, e_spot_of, e_is_spot_name, e_Area___init__, e_Area_shown, e_Area_size, e_Area_holds, e_Area_spots, e_Area_meets, e_Area_label, e_area_of]
def sp_moved_place : SpD := fun ds S Q E => ∃ p a m : Int, ds = [.int p, .int a, .int m] ∧ Q (oD (mvO p a m)) S
abbrev e_moved_place : Ent := { sp := sp_moved_place, ar := 3, dfl := [], lv := 1 }
abbrev M14 (Z : Zt) : List Ent := [e_column_name, e_column_number, e_spot_name, e_spot_of, e_is_spot_name, e_Area___init__, e_Area_shown, e_Area_size, e_Area_holds, e_Area_spots, e_Area_meets, e_Area_label, e_area_of, e_moved_place]
def sp_moved_span : SpD := fun ds S Q E => ∃ f l a m : Int, ds = [.int f, .int l, .int a, .int m] ∧ Q (spanD (spanO f l a m)) S
abbrev e_moved_span : Ent := { sp := sp_moved_span, ar := 4, dfl := [], lv := 2 }
abbrev M15 (Z : Zt) : List Ent := [e_column_name, e_column_number, e_spot_name, e_spot_of, e_is_spot_name, e_Area___init__, e_Area_shown, e_Area_size, e_Area_holds, e_Area_spots, e_Area_meets, e_Area_label, e_area_of, e_moved_place, e_moved_span]
def sp_moved_area : SpD := fun ds S Q E => ∃ (p : Addr) (l t r b axis a m : Int), ds = [.ref p, .int axis, .int a, .int m] ∧ S p = some (.ins 0 (aF l t r b)) ∧ (mvAreaO l t r b axis a m = none → Q .non S) ∧ ∀ l' t' r' b', mvAreaO l t r b axis a m = some (l', t', r', b') → (areaOk l' t' r' b' → ∀ q, S q = none → Q (.ref q) (put S q (.ins 0 (aF l' t' r' b')))) ∧ (¬ areaOk l' t' r' b' → E 0 S)
abbrev e_moved_area : Ent := { sp := sp_moved_area, ar := 4, dfl := [], lv := 3 }
abbrev M16 (Z : Zt) : List Ent := [e_column_name, e_column_number, e_spot_name, e_spot_of, e_is_spot_name, e_Area___init__, e_Area_shown, e_Area_size, e_Area_holds, e_Area_spots, e_Area_meets, e_Area_label, e_area_of, e_moved_place, e_moved_span, e_moved_area]
def sp__law_dice : SpD := fun ds S Q E => ∃ c : Int, ds = [.int c] ∧ ∀ (a b d : Int) q, S q = none → Q (.ref q) (put S q (.lst [.int a, .int b, .int d]))
abbrev e__law_dice : Ent := { sp := sp__law_dice, ar := 1, dfl := [], lv := 1 }
abbrev M17 (Z : Zt) : List Ent := [e_column_name, e_column_number, e_spot_name, e_spot_of, e_is_spot_name, e_Area___init__, e_Area_shown, e_Area_size, e_Area_holds, e_Area_spots, e_Area_meets, e_Area_label, e_area_of, e_moved_place, e_moved_span, e_moved_area, e__law_dice]
def sp__law_roll : SpD := fun ds S Q E => ∃ (q : Addr) (m a b d : Int), ds = [.ref q, .int m] ∧ 0 < m ∧ m ≤ 100000000 ∧ S q = some (.lst [.int a, .int b, .int d]) ∧ ∀ v a b d : Int, 0 ≤ v → v < m → Q (.int v) (put S q (.lst [.int a, .int b, .int d]))
abbrev e__law_roll : Ent := { sp := sp__law_roll, ar := 2, dfl := [], lv := 1 }
abbrev M18 (Z : Zt) : List Ent := [e_column_name, e_column_number, e_spot_name, e_spot_of, e_is_spot_name, e_Area___init__, e_Area_shown, e_Area_size, e_Area_holds, e_Area_spots, e_Area_meets, e_Area_label, e_area_of, e_moved_place, e_moved_span, e_moved_area, e__law_dice, e__law_roll]
def sp__law_rounds : SpD := fun ds S Q E => ∃ (ns : List Int) (x : D), ds = [x, .int 1] ∧ IsScript S x ns ∧ ∀ (a b d : Int) p q, S p = none → S q = none → p ≠ q → Q (.ref q) (put (put S p (.lst [.int a, .int b, .int d])) q (.lst [.ref p]))
abbrev e__law_rounds : Ent := { sp := sp__law_rounds, ar := 2, dfl := [], lv := 2 }
abbrev M19 (Z : Zt) : List Ent := [e_column_name, e_column_number, e_spot_name, e_spot_of, e_is_spot_name, e_Area___init__, e_Area_shown, e_Area_size, e_Area_holds, e_Area_spots, e_Area_meets, e_Area_label, e_area_of, e_moved_place, e_moved_span, e_moved_area, e__law_dice, e__law_roll, e__law_rounds]
def sp_lam_0 : SpD := fun ds S Q E => E 0 S
abbrev e_lam_0 : Ent := { sp := sp_lam_0, ar := 0, dfl := [], lv := 3, la := some 0 }
abbrev M20 (Z : Zt) : List Ent := [e_column_name, e_column_number, e_spot_name, e_spot_of, e_is_spot_name, e_Area___init__, e_Area_shown, e_Area_size, e_Area_holds, e_Area_spots, e_Area_meets, e_Area_label, e_area_of, e_moved_place, e_moved_span, e_moved_area, e__law_dice, e__law_roll, e__law_rounds, e_lam_0]
def sp_lam_1 : SpD := fun ds S Q E => E 0 S
abbrev e_lam_1 : Ent := { sp := sp_lam_1, ar := 0, dfl := [], lv := 3, la := some 1 }
abbrev M21 (Z : Zt) : List Ent := [e_column_name, e_column_number, e_spot_name, e_spot_of, e_is_spot_name, e_Area___init__, e_Area_shown, e_Area_size, e_Area_holds, e_Area_spots, e_Area_meets, e_Area_label, e_area_of, e_moved_place, e_moved_span, e_moved_area, e__law_dice, e__law_roll, e__law_rounds, e_lam_0, e_lam_1]
def sp_lam_2 : SpD := fun ds S Q E => E 0 S
abbrev e_lam_2 : Ent := { sp := sp_lam_2, ar := 0, dfl := [], lv := 3, la := some 2 }
abbrev M22 (Z : Zt) : List Ent := [e_column_name, e_column_number, e_spot_name, e_spot_of, e_is_spot_name, e_Area___init__, e_Area_shown, e_Area_size, e_Area_holds, e_Area_spots, e_Area_meets, e_Area_label, e_area_of, e_moved_place, e_moved_span, e_moved_area, e__law_dice, e__law_roll, e__law_rounds, e_lam_0, e_lam_1, e_lam_2]
def sp_lam_3 : SpD := fun ds S Q E => E 0 S
abbrev e_lam_3 : Ent := { sp := sp_lam_3, ar := 0, dfl := [], lv := 3, la := some 3 }
abbrev M23 (Z : Zt) : List Ent := [e_column_name, e_column_number, e_spot_name, e_spot_of, e_is_spot_name, e_Area___init__, e_Area_shown, e_Area_size, e_Area_holds, e_Area_spots, e_Area_meets, e_Area_label, e_area_of, e_moved_place, e_moved_span, e_moved_area, e__law_dice, e__law_roll, e__law_rounds, e_lam_0, e_lam_1, e_lam_2, e_lam_3]
def sp_lam_4 : SpD := fun ds S Q E => E 0 S
abbrev e_lam_4 : Ent := { sp := sp_lam_4, ar := 0, dfl := [], lv := 3, la := some 4 }
abbrev M24 (Z : Zt) : List Ent := [e_column_name, e_column_number, e_spot_name, e_spot_of, e_is_spot_name, e_Area___init__, e_Area_shown, e_Area_size, e_Area_holds, e_Area_spots, e_Area_meets, e_Area_label, e_area_of, e_moved_place, e_moved_span, e_moved_area, e__law_dice, e__law_roll, e__law_rounds, e_lam_0, e_lam_1, e_lam_2, e_lam_3, e_lam_4]
def sp_lam_5 : SpD := fun ds S Q E => E 0 S
abbrev e_lam_5 : Ent := { sp := sp_lam_5, ar := 0, dfl := [], lv := 3, la := some 5 }
abbrev M25 (Z : Zt) : List Ent := [e_column_name, e_column_number, e_spot_name, e_spot_of, e_is_spot_name, e_Area___init__, e_Area_shown, e_Area_size, e_Area_holds, e_Area_spots, e_Area_meets, e_Area_label, e_area_of, e_moved_place, e_moved_span, e_moved_area, e__law_dice, e__law_roll, e__law_rounds, e_lam_0, e_lam_1, e_lam_2, e_lam_3, e_lam_4, e_lam_5]
def sp_lam_6 : SpD := fun ds S Q E => E 0 S
abbrev e_lam_6 : Ent := { sp := sp_lam_6, ar := 0, dfl := [], lv := 3, la := some 6 }
abbrev M26 (Z : Zt) : List Ent := [e_column_name, e_column_number, e_spot_name, e_spot_of, e_is_spot_name, e_Area___init__, e_Area_shown, e_Area_size, e_Area_holds, e_Area_spots, e_Area_meets, e_Area_label, e_area_of, e_moved_place, e_moved_span, e_moved_area, e__law_dice, e__law_roll, e__law_rounds, e_lam_0, e_lam_1, e_lam_2, e_lam_3, e_lam_4, e_lam_5, e_lam_6]
def sp_lam_7 : SpD := fun ds S Q E => E 0 S
abbrev e_lam_7 : Ent := { sp := sp_lam_7, ar := 0, dfl := [], lv := 3, la := some 7 }
abbrev M27 (Z : Zt) : List Ent := [e_column_name, e_column_number, e_spot_name, e_spot_of, e_is_spot_name, e_Area___init__, e_Area_shown, e_Area_size, e_Area_holds, e_Area_spots, e_Area_meets, e_Area_label, e_area_of, e_moved_place, e_moved_span, e_moved_area, e__law_dice, e__law_roll, e__law_rounds, e_lam_0, e_lam_1, e_lam_2, e_lam_3, e_lam_4, e_lam_5, e_lam_6, e_lam_7]
def sp_lam_8 : SpD := fun ds S Q E => E 0 S
abbrev e_lam_8 : Ent := { sp := sp_lam_8, ar := 0, dfl := [], lv := 3, la := some 8 }
abbrev M28 (Z : Zt) : List Ent := [e_column_name, e_column_number, e_spot_name, e_spot_of, e_is_spot_name, e_Area___init__, e_Area_shown, e_Area_size, e_Area_holds, e_Area_spots, e_Area_meets, e_Area_label, e_area_of, e_moved_place, e_moved_span, e_moved_area, e__law_dice, e__law_roll, e__law_rounds, e_lam_0, e_lam_1, e_lam_2, e_lam_3, e_lam_4, e_lam_5, e_lam_6, e_lam_7, e_lam_8]
def sp_lam_9 : SpD := fun ds S Q E => E 0 S
abbrev e_lam_9 : Ent := { sp := sp_lam_9, ar := 0, dfl := [], lv := 3, la := some 9 }
abbrev M29 (Z : Zt) : List Ent := [e_column_name, e_column_number, e_spot_name, e_spot_of, e_is_spot_name, e_Area___init__, e_Area_shown, e_Area_size, e_Area_holds, e_Area_spots, e_Area_meets, e_Area_label, e_area_of, e_moved_place, e_moved_span, e_moved_area, e__law_dice, e__law_roll, e__law_rounds, e_lam_0, e_lam_1, e_lam_2, e_lam_3, e_lam_4, e_lam_5, e_lam_6, e_lam_7, e_lam_8, e_lam_9]
def sp_lam_10 : SpD := fun ds S Q E => E 0 S
abbrev e_lam_10 : Ent := { sp := sp_lam_10, ar := 0, dfl := [], lv := 3, la := some 10 }
abbrev M30 (Z : Zt) : List Ent := [e_column_name, e_column_number, e_spot_name, e_spot_of, e_is_spot_name, e_Area___init__, e_Area_shown, e_Area_size, e_Area_holds, e_Area_spots, e_Area_meets, e_Area_label, e_area_of, e_moved_place, e_moved_span, e_moved_area, e__law_dice, e__law_roll, e__law_rounds, e_lam_0, e_lam_1, e_lam_2, e_lam_3, e_lam_4, e_lam_5, e_lam_6, e_lam_7, e_lam_8, e_lam_9, e_lam_10]
def sp_lam_11 : SpD := fun ds S Q E => E 0 S
abbrev e_lam_11 : Ent := { sp := sp_lam_11, ar := 0, dfl := [], lv := 3, la := some 11 }
abbrev M31 (Z : Zt) : List Ent := [e_column_name, e_column_number, e_spot_name, e_spot_of, e_is_spot_name, e_Area___init__, e_Area_shown, e_Area_size, e_Area_holds, e_Area_spots, e_Area_meets, e_Area_label, e_area_of, e_moved_place, e_moved_span, e_moved_area, e__law_dice, e__law_roll, e__law_rounds, e_lam_0, e_lam_1, e_lam_2, e_lam_3, e_lam_4, e_lam_5, e_lam_6, e_lam_7, e_lam_8, e_lam_9, e_lam_10, e_lam_11]
def sp_lam_12 : SpD := fun ds S Q E => E 0 S
abbrev e_lam_12 : Ent := { sp := sp_lam_12, ar := 0, dfl := [], lv := 3, la := some 12 }
abbrev M32 (Z : Zt) : List Ent := [e_column_name, e_column_number, e_spot_name, e_spot_of, e_is_spot_name, e_Area___init__, e_Area_shown, e_Area_size, e_Area_holds, e_Area_spots, e_Area_meets, e_Area_label, e_area_of, e_moved_place, e_moved_span, e_moved_area, e__law_dice, e__law_roll, e__law_rounds, e_lam_0, e_lam_1, e_lam_2, e_lam_3, e_lam_4, e_lam_5, e_lam_6, e_lam_7, e_lam_8, e_lam_9, e_lam_10, e_lam_11, e_lam_12]
def sp_lam_13 : SpD := fun ds S Q E => E 0 S
abbrev e_lam_13 : Ent := { sp := sp_lam_13, ar := 0, dfl := [], lv := 3, la := some 13 }
abbrev M33 (Z : Zt) : List Ent := [e_column_name, e_column_number, e_spot_name, e_spot_of, e_is_spot_name, e_Area___init__, e_Area_shown, e_Area_size, e_Area_holds, e_Area_spots, e_Area_meets, e_Area_label, e_area_of, e_moved_place, e_moved_span, e_moved_area, e__law_dice, e__law_roll, e__law_rounds, e_lam_0, e_lam_1, e_lam_2, e_lam_3, e_lam_4, e_lam_5, e_lam_6, e_lam_7, e_lam_8, e_lam_9, e_lam_10, e_lam_11, e_lam_12, e_lam_13]
def sp_lam_14 : SpD := fun ds S Q E => E 0 S
abbrev e_lam_14 : Ent := { sp := sp_lam_14, ar := 0, dfl := [], lv := 3, la := some 14 }
abbrev M34 (Z : Zt) : List Ent := [e_column_name, e_column_number, e_spot_name, e_spot_of, e_is_spot_name, e_Area___init__, e_Area_shown, e_Area_size, e_Area_holds, e_Area_spots, e_Area_meets, e_Area_label, e_area_of, e_moved_place, e_moved_span, e_moved_area, e__law_dice, e__law_roll, e__law_rounds, e_lam_0, e_lam_1, e_lam_2, e_lam_3, e_lam_4, e_lam_5, e_lam_6, e_lam_7, e_lam_8, e_lam_9, e_lam_10, e_lam_11, e_lam_12, e_lam_13, e_lam_14]
def sp_lam_15 : SpD := fun ds S Q E => E 0 S
abbrev e_lam_15 : Ent := { sp := sp_lam_15, ar := 0, dfl := [], lv := 3, la := some 15 }
abbrev M35 (Z : Zt) : List Ent := [e_column_name, e_column_number, e_spot_name, e_spot_of, e_is_spot_name, e_Area___init__, e_Area_shown, e_Area_size, e_Area_holds, e_Area_spots, e_Area_meets, e_Area_label, e_area_of, e_moved_place, e_moved_span, e_moved_area, e__law_dice, e__law_roll, e__law_rounds, e_lam_0, e_lam_1, e_lam_2, e_lam_3, e_lam_4, e_lam_5, e_lam_6, e_lam_7, e_lam_8, e_lam_9, e_lam_10, e_lam_11, e_lam_12, e_lam_13, e_lam_14, e_lam_15]
def sp__law_told (Z : Zt) : SpD := fun ds S Q E => ∃ (f : Addr) (j : Nat), ds = [.ref f] ∧ S f = some (.oth (isLam Z j)) ∧ j < 16 ∧ Q (.str "SpotError") S
abbrev e__law_told (Z : Zt) : Ent := { sp := sp__law_told Z, ar := 1, dfl := [], lv := 5 }
abbrev M36 (Z : Zt) : List Ent := [e_column_name, e_column_number, e_spot_name, e_spot_of, e_is_spot_name, e_Area___init__, e_Area_shown, e_Area_size, e_Area_holds, e_Area_spots, e_Area_meets, e_Area_label, e_area_of, e_moved_place, e_moved_span, e_moved_area, e__law_dice, e__law_roll, e__law_rounds, e_lam_0, e_lam_1, e_lam_2, e_lam_3, e_lam_4, e_lam_5, e_lam_6, e_lam_7, e_lam_8, e_lam_9, e_lam_10, e_lam_11, e_lam_12, e_lam_13, e_lam_14, e_lam_15, e__law_told Z]
def sp__law_column : SpD := fun ds S Q E => ∃ c : Int, ds = [.int c] ∧ 0 ≤ c ∧ c < 702 ∧ Q (.str (colName c)) S
abbrev e__law_column : Ent := { sp := sp__law_column, ar := 1, dfl := [], lv := 1 }
abbrev M37 (Z : Zt) : List Ent := [e_column_name, e_column_number, e_spot_name, e_spot_of, e_is_spot_name, e_Area___init__, e_Area_shown, e_Area_size, e_Area_holds, e_Area_spots, e_Area_meets, e_Area_label, e_area_of, e_moved_place, e_moved_span, e_moved_area, e__law_dice, e__law_roll, e__law_rounds, e_lam_0, e_lam_1, e_lam_2, e_lam_3, e_lam_4, e_lam_5, e_lam_6, e_lam_7, e_lam_8, e_lam_9, e_lam_10, e_lam_11, e_lam_12, e_lam_13, e_lam_14, e_lam_15, e__law_told Z, e__law_column]
def sp__law_area : SpD := fun ds S Q E => ∃ (q : Addr) (a b d : Int), ds = [.ref q, .int 6] ∧ S q = some (.lst [.int a, .int b, .int d]) ∧ ∀ l t x y a b d : Int, 0 ≤ l → l < 6 → 0 ≤ t → t < 6 → 0 ≤ x → x < 6 → 0 ≤ y → y < 6 → Q (.tup [.int l, .int t, .int (l + x), .int (t + y)]) (put S q (.lst [.int a, .int b, .int d]))
abbrev e__law_area : Ent := { sp := sp__law_area, ar := 2, dfl := [], lv := 2 }
abbrev M38 (Z : Zt) : List Ent := [e_column_name, e_column_number, e_spot_name, e_spot_of, e_is_spot_name, e_Area___init__, e_Area_shown, e_Area_size, e_Area_holds, e_Area_spots, e_Area_meets, e_Area_label, e_area_of, e_moved_place, e_moved_span, e_moved_area, e__law_dice, e__law_roll, e__law_rounds, e_lam_0, e_lam_1, e_lam_2, e_lam_3, e_lam_4, e_lam_5, e_lam_6, e_lam_7, e_lam_8, e_lam_9, e_lam_10, e_lam_11, e_lam_12, e_lam_13, e_lam_14, e_lam_15, e__law_told Z, e__law_column, e__law_area]
def sp__law_goes : SpD := fun ds S Q E => ∃ p a m : Int, ds = [.int p, .int a, .int m] ∧ m ≠ 0 ∧ Q (oD (mvO p a m)) S
abbrev e__law_goes : Ent := { sp := sp__law_goes, ar := 3, dfl := [], lv := 1 }
abbrev M39 (Z : Zt) : List Ent := [e_column_name, e_column_number, e_spot_name, e_spot_of, e_is_spot_name, e_Area___init__, e_Area_shown, e_Area_size, e_Area_holds, e_Area_spots, e_Area_meets, e_Area_label, e_area_of, e_moved_place, e_moved_span, e_moved_area, e__law_dice, e__law_roll, e__law_rounds, e_lam_0, e_lam_1, e_lam_2, e_lam_3, e_lam_4, e_lam_5, e_lam_6, e_lam_7, e_lam_8, e_lam_9, e_lam_10, e_lam_11, e_lam_12, e_lam_13, e_lam_14, e_lam_15, e__law_told Z, e__law_column, e__law_area, e__law_goes]
def sp_law : SpD := fun ds S Q E => ∃ (ns : List Int) (x : D), ds = [x] ∧ IsScript S x ns ∧ ∀ S, Q (.bl true) S
abbrev e_law : Ent := { sp := sp_law, ar := 1, dfl := [], lv := 7 }
abbrev M40 (Z : Zt) : List Ent := [e_column_name, e_column_number, e_spot_name, e_spot_of, e_is_spot_name, e_Area___init__, e_Area_shown, e_Area_size, e_Area_holds, e_Area_spots, e_Area_meets, e_Area_label, e_area_of, e_moved_place, e_moved_span, e_moved_area, e__law_dice, e__law_roll, e__law_rounds, e_lam_0, e_lam_1, e_lam_2, e_lam_3, e_lam_4, e_lam_5, e_lam_6, e_lam_7, e_lam_8, e_lam_9, e_lam_10, e_lam_11, e_lam_12, e_lam_13, e_lam_14, e_lam_15, e__law_told Z, e__law_column, e__law_area, e__law_goes, e_law]
end K02

set_option Elab.async false
set_option linter.all false
set_option maxRecDepth 100000
set_option maxHeartbeats 4000000
namespace K02
open PySem PySem.Spec PyProof.Rows L2 G
theorem LETm {c : Nat} (h : 65 ≤ c) (h2 : c < 91) : c ∈ LETz.cps.toList := by
  rw [LETl, List.mem_range']
  exact ⟨c - 65, by omega, by omega⟩
theorem colL_let {c : Int} (h0 : 0 ≤ c) (h1 : c < 702) : ∀ d ∈ colL c, 65 ≤ d ∧ d < 91 := by
  intro d hd
  unfold colL at hd
  split at hd
  · have := List.mem_singleton.mp hd
    omega
  · simp at hd
    omega
theorem colL_len (c : Int) : 0 < (colL c).length ∧ (colL c).length ≤ 2 := by unfold colL; split <;> simp
theorem any_no {l : List Nat} {p : Nat → Bool} (h : ∀ c ∈ l, p c = true) : (l.any fun c => !p c) = false := by
  rw [List.any_eq_false]
  intro c hc
  rw [h c hc]
  decide
theorem colOk_colL {c : Int} (h0 : 0 ≤ c) (h1 : c < 702) : colOk (colL c) = true := by
  unfold colOk
  rw [any_no (p := fun c => decide (c ∈ LETz.cps.toList)) fun d hd => decide_eq_true (LETm (colL_let h0 h1 d hd).1 (colL_let h0 h1 d hd).2), decide_eq_true (colL_len c).1, decide_eq_true (colL_len c).2]
  rfl
theorem colNum_colL {c : Int} (h0 : 0 ≤ c) (h1 : c < 702) : colNum (colL c) = c := by
  unfold colL
  split
  · show (0 * 26 + ((65 + c.toNat - 65 : Nat) : Int) + 1) - 1 = c
    omega
  · show ((0 * 26 + ((65 + (c / 26 - 1).toNat - 65 : Nat) : Int) + 1) * 26 + ((65 + (c % 26).toNat - 65 : Nat) : Int) + 1) - 1 = c
    omega
theorem isLet_dig {d : Nat} (h : d < 58) : isLet d = false := by
  cases e : isLet d with
  | false => rfl
  | true => have := memLET (isLet_mem.mp e); omega
theorem lead_spotL {c w : Int} (h0 : 0 ≤ c) (h1 : c < 702) : lead (spotL c w) = (colL c).length := by
  unfold lead spotL
  rw [List.takeWhile_append_of_pos fun d hd => isLet_mem.mpr (LETm (colL_let h0 h1 d hd).1 (colL_let h0 h1 d hd).2)]
  have e : (natD (w + 1).toNat).takeWhile isLet = [] := by
    cases h : natD (w + 1).toNat with
    | nil => rfl
    | cons d r =>
      have := (natD_digits (w + 1).toNat) d (by rw [h]; exact List.mem_cons_self)
      rw [List.takeWhile_cons, isLet_dig (by omega)]
      rfl
  rw [e, List.append_nil]
theorem FIGm {c : Nat} (h : 48 ≤ c) (h2 : c < 58) : c ∈ FIGz.cps.toList := by
  rw [FIGl, List.mem_range']
  exact ⟨c - 48, by omega, by omega⟩
theorem spotOf_spotL {c w : Int} (h0 : 0 ≤ c) (h1 : c < 702) (h2 : 0 ≤ w) (h3 : w < 9999) : spotOf (spotL c w) = some (c, w) := by
  unfold spotOf
  rw [lead_spotL h0 h1]
  have e1 : (spotL c w).drop (colL c).length = natD (w + 1).toNat := by unfold spotL; rw [List.drop_left]
  have e2 : (spotL c w).take (colL c).length = colL c := by unfold spotL; rw [List.take_left]
  rw [e1, e2, colOk_colL h0 h1, colNum_colL h0 h1, natD_val]
  have ef : figOk (natD (w + 1).toNat) = true := by
    unfold figOk
    obtain ⟨d, r, e, h4, h5⟩ := natD_head (w + 1).toNat (by omega)
    have hl := natD_len 3 (w + 1).toNat (by omega)
    have hp : 0 < (natD (w + 1).toNat).length := by rw [e]; simp
    rw [any_no (p := fun c => decide (c ∈ FIGz.cps.toList)) fun d hd => decide_eq_true (FIGm ((natD_digits _) d hd).1 (by have := ((natD_digits _) d hd).2; omega)), decide_eq_true hp, decide_eq_true hl, e]
    have : ¬ (some d = some 48) := by intro z; cases z; omega
    rw [show (d :: r).head? = some d from rfl, decide_eq_false this]
    rfl
  rw [ef, if_pos (by rfl)]
  congr 2
  omega
theorem no58 {c w : Int} (h0 : 0 ≤ c) (h1 : c < 702) : 58 ∉ spotL c w := by
  intro h
  unfold spotL at h
  rcases List.mem_append.mp h with q | q
  · have := colL_let h0 h1 _ q
    omega
  · have := natD_digits _ _ q
    omega
theorem tw58 {l : List Nat} (h : 58 ∉ l) : l.takeWhile (· != 58) = l := NumText.takeWhile_all fun c hc => by
  have : c ≠ 58 := fun e => h (by rw [← e]; exact hc)
  simp [this]
theorem tw58a {l r : List Nat} (h : 58 ∉ l) : (l ++ [58] ++ r).takeWhile (· != 58) = l ∧ ((l ++ [58] ++ r).dropWhile (· != 58)).tail = r := by
  have hp : ∀ c ∈ l, (c != 58) = true := fun c hc => by
    have : c ≠ 58 := fun e => h (by rw [← e]; exact hc)
    simp [this]
  rw [List.append_assoc, List.takeWhile_append_of_pos hp, List.dropWhile_append_of_pos hp]
  simp
theorem areaOf_two {x y x' y' : Int} (a : 0 ≤ x ∧ x < 702 ∧ 0 ≤ y ∧ y < 9999) (b : 0 ≤ x' ∧ x' < 702 ∧ 0 ≤ y' ∧ y' < 9999) : areaOf (spotL x y ++ [58] ++ spotL x' y') = some (min x x', min y y', max x x', max y y') := by
  unfold areaOf
  obtain ⟨e1, e2⟩ := tw58a (l := spotL x y) (r := spotL x' y') (no58 a.1 a.2.1)
  rw [e1, e2, spotOf_spotL a.1 a.2.1 a.2.2.1 a.2.2.2]
  have hm : 58 ∈ spotL x y ++ [58] ++ spotL x' y' := by simp
  simp only [if_pos hm, spotOf_spotL b.1 b.2.1 b.2.2.1 b.2.2.2]
theorem areaOf_areaL {l t r b : Int} (h : areaOk l t r b) : areaOf (areaL l t r b) = some (l, t, r, b) := by
  obtain ⟨c1, c2, c3, c4, c5, c6⟩ := h
  unfold areaL
  split
  · rename_i e
    have e1 := spotOf_spotL (c := l) (w := t) (by omega) (by omega) (by omega) (by omega)
    have e2 := spotOf_spotL (c := r) (w := b) (by omega) (by omega) (by omega) (by omega)
    rw [e, e2] at e1
    cases e1
    unfold areaOf
    have hn := no58 (c := l) (w := t) (by omega) (by omega)
    rw [tw58 hn, spotOf_spotL (by omega) (by omega) (by omega) (by omega)]
    simp only [if_neg hn]
    congr 2
    · omega
    · congr 1
      · omega
      · congr 1 <;> omega
  · rw [areaOf_two ⟨by omega, by omega, by omega, by omega⟩ ⟨by omega, by omega, by omega, by omega⟩]
    congr 2
    · omega
    · congr 1
      · omega
      · congr 1 <;> omega
theorem areaOf_mixed {l t r b : Int} (h : areaOk l t r b) : areaOf (spotL r t ++ [58] ++ spotL l b) = some (l, t, r, b) := by
  obtain ⟨c1, c2, c3, c4, c5, c6⟩ := h
  rw [areaOf_two ⟨by omega, by omega, by omega, by omega⟩ ⟨by omega, by omega, by omega, by omega⟩]
  congr 2
  · omega
  · congr 1
    · omega
    · congr 1 <;> omega
/-! ### spots -/
theorem rng_mem {lo : Int} {n : Nat} {d : D} : d ∈ rngD lo n ↔ ∃ i : Int, d = .int i ∧ lo ≤ i ∧ i < lo + n := by
  unfold rngD
  rw [List.mem_map]
  constructor
  · rintro ⟨k, hk, rfl⟩
    have := List.mem_range.mp hk
    exact ⟨_, rfl, by omega, by omega⟩
  · rintro ⟨i, rfl, h1, h2⟩
    refine ⟨(i - lo).toNat, List.mem_range.mpr (by omega), ?_⟩
    congr 1
    omega
theorem spots_mem {l t r b : Int} {d : D} : d ∈ spotsD l t r b ↔ ∃ x y : Int, d = .tup [.int x, .int y] ∧ l ≤ x ∧ x ≤ r ∧ t ≤ y ∧ y ≤ b := by
  unfold spotsD
  rw [List.mem_flatMap]
  constructor
  · rintro ⟨y, hy, hd⟩
    obtain ⟨x, hx, rfl⟩ := List.mem_map.mp hd
    obtain ⟨i, rfl, h1, h2⟩ := rng_mem.mp hy
    obtain ⟨j, rfl, h3, h4⟩ := rng_mem.mp hx
    exact ⟨j, i, rfl, by omega, by omega, by omega, by omega⟩
  · rintro ⟨x, y, rfl, h1, h2, h3, h4⟩
    exact ⟨.int y, rng_mem.mpr ⟨y, rfl, by omega, by omega⟩, List.mem_map.mpr ⟨.int x, rng_mem.mpr ⟨x, rfl, by omega, by omega⟩, rfl⟩⟩
/-! ### where they go -/
def goesL (low high a m : Int) : List (Option Int) := (List.range (high + 1 - low).toNat).map fun i => mvO (low + (i : Nat)) a m
def leftL (low high a m : Int) : List Int := (goesL low high a m).filterMap id
theorem left_mem {low high a m v : Int} : v ∈ leftL low high a m ↔ ∃ p, low ≤ p ∧ p ≤ high ∧ mvO p a m = some v := by
  unfold leftL goesL
  rw [List.mem_filterMap]
  constructor
  · rintro ⟨o, ho, e⟩
    obtain ⟨i, hi, rfl⟩ := List.mem_map.mp ho
    have := List.mem_range.mp hi
    exact ⟨low + (i : Nat), by omega, by omega, e⟩
  · rintro ⟨p, h1, h2, e⟩
    exact ⟨some v, List.mem_map.mpr ⟨(p - low).toNat, List.mem_range.mpr (by omega), by rw [← e]; congr 1; omega⟩, rfl⟩
/-- the least and the greatest of those that are left -/
theorem span_left {low high a m : Int} (h : low ≤ high) (hm : m ≠ 0) : match spanO low high a m with
    | none => leftL low high a m = []
    | some (x, y) => x ∈ leftL low high a m ∧ y ∈ leftL low high a m ∧ ∀ v ∈ leftL low high a m, x ≤ v ∧ v ≤ y := by
  unfold spanO
  by_cases h0 : 0 ≤ m
  · rw [if_pos h0]
    have mv : ∀ p, mvO p a m = some (if a ≤ p then p + m else p) := fun p => by unfold mvO; rw [if_pos h0]
    rw [mv, mv]
    refine ⟨left_mem.mpr ⟨low, by omega, by omega, mv low⟩, left_mem.mpr ⟨high, by omega, by omega, mv high⟩, fun v hv => ?_⟩
    obtain ⟨p, h1, h2, e⟩ := left_mem.mp hv
    rw [mv] at e
    cases e
    constructor <;> (simp only [Option.getD_some]; split <;> split <;> omega)
  · rw [if_neg h0]
    have mv : ∀ p, mvO p a m = if p < a then some p else if p < a - m then none else some (p + m) := fun p => by unfold mvO; rw [if_neg h0]
    by_cases hg : a ≤ low ∧ high ≤ a - m - 1
    · rw [if_pos hg]
      show leftL low high a m = []
      rw [List.eq_nil_iff_forall_not_mem]
      intro v hv
      obtain ⟨p, h1, h2, e⟩ := left_mem.mp hv
      rw [mv, if_neg (by omega), if_pos (by omega)] at e
      cases e
    · rw [if_neg hg]
      show _ ∧ _ ∧ _
      have bd : ∀ v ∈ leftL low high a m, (mvO low a m).getD a ≤ v ∧ v ≤ (mvO high a m).getD (a - 1) := fun v hv => by
        obtain ⟨p, h1, h2, e⟩ := left_mem.mp hv
        rw [mv] at e
        rw [mv, mv]
        split at e
        · cases e
          constructor
          · rw [if_pos (by omega)]; exact h1
          · split
            · exact h2
            · split
              · simp; omega
              · simp; omega
        · split at e
          · cases e
          · cases e
            constructor
            · split
              · simp; omega
              · split
                · simp; omega
                · simp; omega
            · rw [if_neg (by omega), if_neg (by omega)]; simp; omega
      refine ⟨left_mem.mpr ?_, left_mem.mpr ?_, bd⟩
      · rw [mv low]
        split
        · exact ⟨low, by omega, by omega, by rw [mv, if_pos (by assumption)]; rfl⟩
        · split
          · exact ⟨a - m, by omega, by omega, by rw [mv, if_neg (by omega), if_neg (by omega)]; simp⟩
          · exact ⟨low, by omega, by omega, by rw [mv, if_neg (by assumption), if_neg (by assumption)]; rfl⟩
      · rw [mv high]
        split
        · exact ⟨high, by omega, by omega, by rw [mv, if_pos (by assumption)]; rfl⟩
        · split
          · exact ⟨a - 1, by omega, by omega, by rw [mv, if_pos (by omega)]; rfl⟩
          · exact ⟨high, by omega, by omega, by rw [mv, if_neg (by assumption), if_neg (by assumption)]; rfl⟩
end K02

set_option Elab.async false
set_option linter.all false
set_option maxRecDepth 100000
set_option maxHeartbeats 4000000
namespace K02
open PySem PySem.Spec PyProof.Rows L2 G
def t_law_4 (Z : Zt) : TDS := (dRet (dAndV (dOp opEq (dLc (iAny (dVar 3)) (gN 9) dYes (dIf (dTest (dOp opIsN (dVar 9) (dC .non))) (dC .non) (dMeth tx (M39 Z) 6 4 0 (dVar 9) dNil)) [9]) (dLst (dCons (dTup (dCons (dC (.int 0)) (dCons (dC (.int 0)) (dCons (dC (.int 0)) (dCons (dC (.int 9998)) dNil))))) (dCons (dC .non) (dCons (dTup (dCons (dC (.int 50)) (dCons (dC (.int 0)) (dCons (dC (.int 701)) (dCons (dC (.int 0)) dNil))))) dNil))))) (dOp opEq (dCall (M39 Z) 6 3 1 (dCons (dC (.str "ZZ9999")) dNil)) (dTup (dCons (dC (.int 701)) (dCons (dC (.int 9998)) dNil))))))
def t_law_3 (Z : Zt) : TDS := dSeq (dAsg (dLst (dCons (dCall (M39 Z) 6 15 4 (dCons (dMake tx (M39 Z) 5 0 4 (dCons (dC (.int 0)) (dCons (dC (.int 0)) (dCons (dC (.int 0)) (dCons (dC (.int 9998)) dNil))))) (dCons (dC (.int 1)) (dCons (dC (.int 5)) (dCons (dC (.int 3)) dNil))))) (dCons (dCall (M39 Z) 6 15 4 (dCons (dMake tx (M39 Z) 5 0 4 (dCons (dC (.int 0)) (dCons (dC (.int 9998)) (dCons (dC (.int 0)) (dCons (dC (.int 9998)) dNil))))) (dCons (dC (.int 1)) (dCons (dC (.int 5)) (dCons (dC (.int 3)) dNil))))) (dCons (dCall (M39 Z) 6 15 4 (dCons (dMake tx (M39 Z) 5 0 4 (dCons (dC (.int 0)) (dCons (dC (.int 0)) (dCons (dC (.int 701)) (dCons (dC (.int 0)) dNil))))) (dCons (dC (.int 0)) (dCons (dC (.int 0)) (dCons (dC (.int 50)) dNil))))) dNil)))) (gN 3)) (t_law_4 Z)
def t_law_2 (Z : Zt) : TDS := dSeq (dIfS (dOr (dTest (dOp opNe (dLc (iAny (dVar 2)) (gN 27) (dTest (dOp opNe (dCall (M39 Z) 6 35 1 (dCons (dVar 27) dNil)) (dC (.str "SpotError")))) (dC (.int 1)) [27]) (dLst dNil))) (dOr (dTest (dOp opNe (dTup (dCons (dC (.int 702)) (dCons (dC (.int 9999)) dNil))) (dTup (dCons (dC (.int 702)) (dCons (dC (.int 9999)) dNil))))) (dTru (dCall (M39 Z) 6 4 1 (dCons (dC (.str "a1")) dNil))))) (dRet (dC (.bl false))) dNext) (t_law_3 Z)
def t_law_1 (Z : Zt) : TDS := dSeq (dAsg (dLst (dCons (dLam Z 0) (dCons (dLam Z 1) (dCons (dLam Z 2) (dCons (dLam Z 3) (dCons (dLam Z 4) (dCons (dLam Z 5) (dCons (dLam Z 6) (dCons (dLam Z 7) (dCons (dLam Z 8) (dCons (dLam Z 9) (dCons (dLam Z 10) (dCons (dLam Z 11) (dCons (dLam Z 12) (dCons (dLam Z 13) (dCons (dLam Z 14) (dCons (dLam Z 15) dNil))))))))))))))))) (gN 2)) (t_law_2 Z)
def t_law_0_20 (Z : Zt) : TDS := (dIfS (dOr (dTest (dOp opNe (dOp opIsN (dVar 25) (dC .non)) (dOp opIsN (dVar 24) (dC .non)))) (dAnd (dTest (dOp opNotN (dVar 25) (dC .non))) (dTest (dOp opNe (dMeth tx (M39 Z) 6 4 0 (dVar 25) dNil) (dVar 24))))) (dRet (dC (.bl false))) dNext)
def t_law_0_19 (Z : Zt) : TDS := dSeq (dAsg (dCall (M39 Z) 6 15 4 (dCons (dVar 9) (dCons (dVar 17) (dCons (dVar 18) (dCons (dVar 19) dNil))))) (gN 25)) (t_law_0_20 Z)
def t_law_0_18 (Z : Zt) : TDS := dSeq (dAsg (dIf (dTest (dOp opEq (dVar 23) (dLst dNil))) (dC .non) (dIf (dTest (dOp opEq (dVar 17) (dC (.int 0)))) (dTup (dCons (dBi G.rMin (dCons (dVar 23) dNil)) (dCons (dOp opIx (dVar 7) (dC (.int 1))) (dCons (dBi G.rMax (dCons (dVar 23) dNil)) (dCons (dOp opIx (dVar 7) (dC (.int 3))) dNil))))) (dTup (dCons (dOp opIx (dVar 7) (dC (.int 0))) (dCons (dBi G.rMin (dCons (dVar 23) dNil)) (dCons (dOp opIx (dVar 7) (dC (.int 2))) (dCons (dBi G.rMax (dCons (dVar 23) dNil)) dNil))))))) (gN 24)) (t_law_0_19 Z)
def t_law_0_17 (Z : Zt) : TDS := dSeq (dIfS (dOr (dTest (dOp opNe (dLc (iRg2 (dCons (dVar 20) (dCons (dOp opAdd (dVar 21) (dC (.int 1))) dNil))) (gN 26) dYes (dCall (M39 Z) 6 13 3 (dCons (dVar 26) (dCons (dVar 18) (dCons (dVar 19) dNil)))) [26]) (dVar 22))) (dTest (dOp opNe (dCall (M39 Z) 6 14 4 (dCons (dVar 20) (dCons (dVar 21) (dCons (dVar 18) (dCons (dVar 19) dNil))))) (dIf (dTest (dOp opNe (dVar 23) (dLst dNil))) (dTup (dCons (dBi G.rMin (dCons (dVar 23) dNil)) (dCons (dBi G.rMax (dCons (dVar 23) dNil)) dNil))) (dC .non))))) (dRet (dC (.bl false))) dNext) (t_law_0_18 Z)
def t_law_0_16 (Z : Zt) : TDS := dSeq (dAsg (dLc (iAny (dVar 22)) (gN 26) (dTest (dOp opNotN (dVar 26) (dC .non))) (dVar 26) [26]) (gN 23)) (t_law_0_17 Z)
def t_law_0_15 (Z : Zt) : TDS := dSeq (dAsg (dLc (iRg2 (dCons (dVar 20) (dCons (dOp opAdd (dVar 21) (dC (.int 1))) dNil))) (gN 26) dYes (dCall (M39 Z) 6 38 3 (dCons (dVar 26) (dCons (dVar 18) (dCons (dVar 19) dNil)))) [26]) (gN 22)) (t_law_0_16 Z)
def t_law_0_14 (Z : Zt) : TDS := dSeq (dPar2 20 21 (dCons (dOp opIx (dVar 7) (dVar 17)) (dCons (dOp opIx (dVar 7) (dOp opAdd (dVar 17) (dC (.int 2)))) dNil))) (t_law_0_15 Z)
def t_law_0_13 (Z : Zt) : TDS := dSeq (dAsg (dTup (dCons (dCall (M39 Z) 6 17 2 (dCons (dVar 1) (dCons (dC (.int 2)) dNil))) (dCons (dCall (M39 Z) 6 17 2 (dCons (dVar 1) (dCons (dC (.int 14)) dNil))) (dCons (dOp opIx (dLst (dCons (dC (.int 1)) (dCons (dC (.int 2)) (dCons (dC (.int 5)) (dCons (dNeg (dC (.int 1))) (dCons (dNeg (dC (.int 2))) (dCons (dNeg (dC (.int 5))) (dCons (dNeg (dC (.int 9))) dNil)))))))) (dCall (M39 Z) 6 17 2 (dCons (dVar 1) (dCons (dC (.int 7)) dNil)))) dNil)))) (gT 3 (gCs (gN 17) (gCs (gN 18) (gCs (gN 19) gNl))))) (t_law_0_14 Z)
def t_law_0_12 (Z : Zt) : TDS := dSeq (dIfS (dOr (dTest (dOp opNe (dMeth tx (M39 Z) 6 9 0 (dVar 9) dNil) (dVar 15))) (dOr (dTest (dOp opNe (dMeth tx (M39 Z) 6 4 0 (dCall (M39 Z) 6 12 1 (dCons (dVar 15) dNil)) dNil) (dVar 7))) (dTest (dOp opNe (dMeth tx (M39 Z) 6 4 0 (dCall (M39 Z) 6 12 1 (dCons (dVar 16) dNil)) dNil) (dVar 7))))) (dRet (dC (.bl false))) dNext) (t_law_0_13 Z)
def t_law_0_11 (Z : Zt) : TDS := dSeq (dAsg (dOp opAdd (dOp opAdd (dOp opAdd (dOp opAdd (dCall (M39 Z) 6 36 1 (dCons (dOp opIx (dVar 7) (dC (.int 2))) dNil)) (dBi rStr (dCons (dOp opAdd (dOp opIx (dVar 7) (dC (.int 1))) (dC (.int 1))) dNil))) (dC (.str ":"))) (dCall (M39 Z) 6 36 1 (dCons (dOp opIx (dVar 7) (dC (.int 0))) dNil))) (dBi rStr (dCons (dOp opAdd (dOp opIx (dVar 7) (dC (.int 3))) (dC (.int 1))) dNil))) (gN 16)) (t_law_0_12 Z)
def t_law_0_10 (Z : Zt) : TDS := dSeq (dAsg (dIf (dTest (dOp opEq (dVar 13) (dVar 14))) (dVar 13) (dOp opAdd (dOp opAdd (dVar 13) (dC (.str ":"))) (dVar 14))) (gN 15)) (t_law_0_11 Z)
def t_law_0_9 (Z : Zt) : TDS := dSeq (dPar2 13 14 (dCons (dOp opAdd (dCall (M39 Z) 6 36 1 (dCons (dOp opIx (dVar 7) (dC (.int 0))) dNil)) (dBi rStr (dCons (dOp opAdd (dOp opIx (dVar 7) (dC (.int 1))) (dC (.int 1))) dNil))) (dCons (dOp opAdd (dCall (M39 Z) 6 36 1 (dCons (dOp opIx (dVar 7) (dC (.int 2))) dNil)) (dBi rStr (dCons (dOp opAdd (dOp opIx (dVar 7) (dC (.int 3))) (dC (.int 1))) dNil))) dNil))) (t_law_0_10 Z)
def t_law_0_8 (Z : Zt) : TDS := dSeq (dIfS (dTest (dOp opNe (dMeth tx (M39 Z) 6 8 1 (dVar 9) (dCons (dVar 10) dNil)) (dOp opNe (dLc (iAny (dVar 11)) (gN 29) (dTru (dMeth tx (M39 Z) 6 6 1 (dVar 10) (dCons (dVar 29) dNil))) (dVar 29) [29]) (dLst dNil)))) (dRet (dC (.bl false))) dNext) (t_law_0_9 Z)
def t_law_0_7 (Z : Zt) : TDS := dSeq (dIfS (dOr (dTest (dOp opNe (dMeth tx (M39 Z) 6 7 0 (dVar 9) dNil) (dVar 11))) (dOr (dTest (dOp opNe (dMeth tx (M39 Z) 6 5 0 (dVar 9) dNil) (dTup (dCons (dOp opAdd (dOp opSub (dOp opIx (dVar 7) (dC (.int 2))) (dOp opIx (dVar 7) (dC (.int 0)))) (dC (.int 1))) (dCons (dOp opAdd (dOp opSub (dOp opIx (dVar 7) (dC (.int 3))) (dOp opIx (dVar 7) (dC (.int 1)))) (dC (.int 1))) dNil))))) (dOr (dTest (dOp opNe (dLc (iAny (dVar 11)) (gN 29) (dNot (dTru (dMeth tx (M39 Z) 6 6 1 (dVar 9) (dCons (dVar 29) dNil)))) (dVar 29) [29]) (dLst dNil))) (dOr (dTru (dMeth tx (M39 Z) 6 6 1 (dVar 9) (dCons (dTup (dCons (dOp opAdd (dOp opIx (dVar 7) (dC (.int 2))) (dC (.int 1))) (dCons (dOp opIx (dVar 7) (dC (.int 1))) dNil))) dNil))) (dTest (dOp opNe (dMeth tx (M39 Z) 6 4 0 (dVar 9) dNil) (dVar 7))))))) (dRet (dC (.bl false))) dNext) (t_law_0_8 Z)
def t_law_0_6_0 (Z : Zt) : TDS := (dAsg (dOp opAdd (dVar 11) (dLc (iRg2 (dCons (dOp opIx (dVar 7) (dC (.int 0))) (dCons (dOp opAdd (dOp opIx (dVar 7) (dC (.int 2))) (dC (.int 1))) dNil))) (gN 28) dYes (dTup (dCons (dVar 28) (dCons (dVar 12) dNil))) [28])) (gN 11))
def t_law_0_6 (Z : Zt) : TDS := dSeq (dFor (iRg2 (dCons (dOp opIx (dVar 7) (dC (.int 1))) (dCons (dOp opAdd (dOp opIx (dVar 7) (dC (.int 3))) (dC (.int 1))) dNil))) (gN 12) (t_law_0_6_0 Z)) (t_law_0_7 Z)
def t_law_0_5 (Z : Zt) : TDS := dSeq (dAsg (dLst dNil) (gN 11)) (t_law_0_6 Z)
def t_law_0_4 (Z : Zt) : TDS := dSeq (dAsg (dTup (dCons (dMake tx (M39 Z) 5 0 4 (dCons (dOp opIx (dVar 7) (dC (.int 0))) (dCons (dOp opIx (dVar 7) (dC (.int 1))) (dCons (dOp opIx (dVar 7) (dC (.int 2))) (dCons (dOp opIx (dVar 7) (dC (.int 3))) dNil))))) (dCons (dMake tx (M39 Z) 5 0 4 (dCons (dOp opIx (dVar 8) (dC (.int 0))) (dCons (dOp opIx (dVar 8) (dC (.int 1))) (dCons (dOp opIx (dVar 8) (dC (.int 2))) (dCons (dOp opIx (dVar 8) (dC (.int 3))) dNil))))) dNil))) (gT 2 (gCs (gN 9) (gCs (gN 10) gNl)))) (t_law_0_5 Z)
def t_law_0_3 (Z : Zt) : TDS := dSeq (dPar2 7 8 (dCons (dCall (M39 Z) 6 37 2 (dCons (dVar 1) (dCons (dC (.int 6)) dNil))) (dCons (dCall (M39 Z) 6 37 2 (dCons (dVar 1) (dCons (dC (.int 6)) dNil))) dNil))) (t_law_0_4 Z)
def t_law_0_2 (Z : Zt) : TDS := dSeq (dIfS (dOr (dTest (dOp opNe (dCall (M39 Z) 6 0 1 (dCons (dVar 4) dNil)) (dCall (M39 Z) 6 36 1 (dCons (dVar 4) dNil)))) (dOr (dTest (dOp opNe (dCall (M39 Z) 6 1 1 (dCons (dCall (M39 Z) 6 36 1 (dCons (dVar 4) dNil)) dNil)) (dVar 4))) (dOr (dTest (dOp opNe (dCall (M39 Z) 6 2 1 (dCons (dTup (dCons (dVar 4) (dCons (dVar 5) dNil))) dNil)) (dVar 6))) (dOr (dTest (dOp opNe (dCall (M39 Z) 6 3 1 (dCons (dVar 6) dNil)) (dTup (dCons (dVar 4) (dCons (dVar 5) dNil))))) (dNot (dTru (dCall (M39 Z) 6 4 1 (dCons (dVar 6) dNil)))))))) (dRet (dC (.bl false))) dNext) (t_law_0_3 Z)
def t_law_0_1 (Z : Zt) : TDS := dSeq (dAsg (dOp opAdd (dCall (M39 Z) 6 36 1 (dCons (dVar 4) dNil)) (dBi rStr (dCons (dOp opAdd (dVar 5) (dC (.int 1))) dNil))) (gN 6)) (t_law_0_2 Z)
def t_law_0_0 (Z : Zt) : TDS := dSeq (dPar2 4 5 (dCons (dCall (M39 Z) 6 17 2 (dCons (dVar 1) (dCons (dC (.int 702)) dNil))) (dCons (dCall (M39 Z) 6 17 2 (dCons (dVar 1) (dCons (dC (.int 9999)) dNil))) dNil))) (t_law_0_1 Z)
def t_law_0 (Z : Zt) : TDS := dSeq (dFor (iAny (dCall (M39 Z) 6 18 2 (dCons (dVar 0) (dCons (dC (.int 1)) dNil)))) (gN 1) (t_law_0_0 Z)) (t_law_1 Z)


theorem okInts (n : Nat) : ∀ ns : List Int, okDs n (ns.map D.int) = true
  | [] => rfl
  | i :: r => by rw [List.map_cons]; unfold okDs; rw [okInts n r]; cases n <;> rfl
theorem okOpts (n : Nat) : ∀ ns : List (Option Int), okDs n (ns.map oD) = true
  | [] => rfl
  | none :: r => by rw [List.map_cons]; unfold okDs; rw [okOpts n r]; cases n <;> rfl
  | some i :: r => by rw [List.map_cons]; unfold okDs; rw [okOpts n r]; cases n <;> rfl
theorem eqOpts : ∀ ns : List (Option Int), deqs (ns.map oD) (ns.map oD) = true
  | [] => rfl
  | none :: r => by
    rw [List.map_cons]
    show (deq (oD none) (oD none) && deqs (r.map oD) (r.map oD)) = true
    rw [eqOpts r]; rfl
  | some i :: r => by
    rw [List.map_cons]
    show ((i == i) && deqs (r.map oD) (r.map oD)) = true
    rw [eqOpts r]; simp
/-- r has all its slots -/
def End (D : EndsD) (kq pk : Addr) : Prop := ∀ r S, r.length = 30 → S kq = some (.lst [.ref pk]) → D.nx r S

theorem L18 {Z : Zt} {D0 : EndsD} {S : DS} {kq pk : Addr} (hD : End D0 kq pk) (hK : S kq = some (.lst [.ref pk])) {u0 u1 u2 u3 u4 u5 u6 u8 u10 u11 u12 u13 u14 u15 u16 u20 u21 u22 u24 u25 u26 u27 u28 u29 : Option D} {l t r b axis a m : Int} {pa gl : Addr} {ns : List Int} (hm : m ≠ 0) (ha : 0 ≤ a) (hb : 0 ≤ l ∧ l ≤ r ∧ r ≤ 10 ∧ 0 ≤ t ∧ t ≤ b ∧ b ≤ 10) (ha2 : a < 14) (hm2 : m ≤ 5)
    (hp : S pa = some (.ins 0 (aF l t r b))) (hl : S gl = some (.lst (ns.map D.int))) {low high : Int} (hlh : (axis = 0 ∧ low = l ∧ high = r) ∨ (axis = 1 ∧ low = t ∧ high = b)) (hns : ns = leftL low high a m) :
    t_law_0_18 Z D0 [u0, u1, u2, u3, u4, u5, u6, some (.tup [.int l, .int t, .int r, .int b]), u8, some (.ref pa), u10, u11, u12, u13, u14, u15, u16, some (.int axis), some (.int a), some (.int m), u20, u21, u22, some (.ref gl), u24, u25, u26, u27, u28, u29] S := by
  have z4 : 4 ≤ sizeLine := by decide
  have hz : low ≤ high := by omega
  have sp := span_left (low := low) (high := high) (a := a) (m := m) hz hm
  rw [← hns] at sp
  have pos : ∀ v ∈ ns, 0 ≤ v ∧ v < 100 := fun v hv => by
    rw [hns] at hv
    obtain ⟨p, h1, h2, e⟩ := left_mem.mp hv
    unfold mvO at e
    split at e
    · cases e; split <;> omega
    · split at e
      · cases e; omega
      · split at e
        · cases e
        · cases e; omega
  refine ⟨_, rfl, by show 0 ≤ sizeLine; decide, fun g hg => ?_⟩
  have hp1 := keep_put (u := .lst []) hp hg
  have hl1 := keep_put (u := .lst []) hl hg
  refine ⟨_, _, hl1, put_same, okInts 60 ns, rfl, ?_⟩
  cases hs : spanO low high a m with
  | none =>
    rw [hs] at sp
    have sp : ns = [] := sp
    rw [sp]
    refine ⟨_, rfl, ⟨by decide, by decide, by decide, rfl⟩, _, rfl, _, rfl, _, rfl, _, rfl, pa, l, t, r, b, axis, a, m, rfl, hp1, fun _ => ?_, fun l' t' r' b' e => ?_⟩
    · exact ⟨_, rfl, _, rfl, _, rfl, hD _ _ rfl (keep_put hK hg)⟩
    · exfalso
      unfold mvAreaO at e
      rcases hlh with ⟨rfl, rfl, rfl⟩ | ⟨rfl, rfl, rfl⟩
      · rw [if_pos rfl, if_pos rfl, hs] at e; cases e
      · rw [if_neg (by decide), if_neg (by decide), hs] at e; cases e
  | some xy =>
    obtain ⟨x, y⟩ := xy
    rw [hs] at sp
    obtain ⟨hx, hy, hbd⟩ := sp
    have hne : ns ≠ [] := fun e => by rw [e] at hx; cases hx
    obtain ⟨n0, nr, en⟩ : ∃ n0 nr, ns = n0 :: nr := by
      cases ns with
      | nil => exact absurd rfl hne
      | cons n0 nr => exact ⟨n0, nr, rfl⟩
    have px := pos x hx
    have py := pos y hy
    have pxy := (hbd y hy).1
    have ed : deqs (ns.map D.int) [] = false := by rw [en]; rfl
    rw [ed]
    have mn : ∀ v, v ∈ ns → (∀ z, z ∈ ns → v ≤ z) → v = x := fun v hv h => by have := h x hx; have := (hbd v hv).1; omega
    have mx : ∀ v, v ∈ ns → (∀ z, z ∈ ns → z ≤ v) → v = y := fun v hv h => by have := h y hy; have := (hbd v hv).2; omega
    rcases hlh with ⟨rfl, rfl, rfl⟩ | ⟨rfl, rfl, rfl⟩
    · have e : mvAreaO low t high b 0 a m = some (x, t, y, b) := by
        unfold mvAreaO
        rw [if_pos rfl, if_pos rfl, hs]
        show (if 702 ≤ x ∨ 9999 ≤ t then none else some (x, t, min y 701, min b 9998)) = _
        rw [if_neg (by omega), show min y 701 = y by omega, show min b 9998 = b by omega]
      refine ⟨_, rfl, _, rfl, ns, hl1, hne, fun v hv hv2 => ?_⟩
      rw [mn v hv hv2]
      refine ⟨_, rfl, _, rfl, _, rfl, ns, hl1, hne, fun v hv hv2 => ?_⟩
      rw [mx v hv hv2]
      refine ⟨_, rfl, _, rfl, z4, ?_⟩
      refine ⟨_, rfl, ⟨by decide, by decide, by decide, rfl⟩, _, rfl, _, rfl, _, rfl, _, rfl, pa, low, t, high, b, 0, a, m, rfl, hp1, fun q => absurd (q.symm.trans e) (fun z => nomatch z), fun l' t' r' b' e' => ?_⟩
      rw [e] at e'
      cases e'
      refine ⟨fun _ q hq => ?_, fun q => absurd ⟨by omega, by omega, by omega, by omega, by omega, by omega⟩ q⟩
      refine ⟨_, rfl, _, rfl, _, rfl, _, rfl, _, _, _, _, _, rfl, put_same, rfl, rfl, ⟨by decide, by decide, by decide, rfl⟩, rfl, q, x, t, y, b, rfl, put_same, _, rfl, rfl, rfl, ?_⟩
      have e2 : deq (D.tup [.int x, .int t, .int y, .int b]) (D.tup [.int x, .int t, .int y, .int b]) = true := by simp [deq, deqs]
      rw [e2]
      exact hD _ _ rfl (keep_put (keep_put hK hg) hq)
    · have e : mvAreaO l low r high 1 a m = some (l, x, r, y) := by
        unfold mvAreaO
        rw [if_neg (by decide), if_neg (by decide), hs]
        show (if 702 ≤ l ∨ 9999 ≤ x then none else some (l, x, min r 701, min y 9998)) = _
        rw [if_neg (by omega), show min r 701 = r by omega, show min y 9998 = y by omega]
      refine ⟨_, rfl, _, rfl, _, rfl, _, rfl, ns, hl1, hne, fun v hv hv2 => ?_⟩
      rw [mn v hv hv2]
      refine ⟨_, rfl, _, rfl, _, rfl, ns, hl1, hne, fun v hv hv2 => ?_⟩
      rw [mx v hv hv2]
      refine ⟨z4, ?_⟩
      refine ⟨_, rfl, ⟨by decide, by decide, by decide, rfl⟩, _, rfl, _, rfl, _, rfl, _, rfl, pa, l, low, r, high, 1, a, m, rfl, hp1, fun q => absurd (q.symm.trans e) (fun z => nomatch z), fun l' t' r' b' e' => ?_⟩
      rw [e] at e'
      cases e'
      refine ⟨fun _ q hq => ?_, fun q => absurd ⟨by omega, by omega, by omega, by omega, by omega, by omega⟩ q⟩
      refine ⟨_, rfl, _, rfl, _, rfl, _, rfl, _, _, _, _, _, rfl, put_same, rfl, rfl, ⟨by decide, by decide, by decide, rfl⟩, rfl, q, l, x, r, y, rfl, put_same, _, rfl, rfl, rfl, ?_⟩
      have e2 : deq (D.tup [.int l, .int x, .int r, .int y]) (D.tup [.int l, .int x, .int r, .int y]) = true := by simp [deq, deqs]
      rw [e2]
      exact hD _ _ rfl (keep_put (keep_put hK hg) hq)

theorem goes_at {low high a m : Int} {i : Nat} {d : D} (h : (rngD low (high + 1 - low).toNat)[i]? = some d) : ∃ p : Int, d = .int p ∧ (goesL low high a m)[i]? = some (mvO p a m) := by
  obtain ⟨h1, rfl⟩ := rngD_get h
  refine ⟨_, rfl, ?_⟩
  unfold goesL
  rw [List.getElem?_map, List.getElem?_range h1]
  rfl
theorem goes_len (low high a m : Int) : (goesL low high a m).length = (high + 1 - low).toNat := by unfold goesL; rw [List.length_map, List.length_range]
theorem take_oD {os : List (Option Int)} {i : Nat} {o : Option Int} (h : os[i]? = some o) : ((os.take i).map oD) ++ [oD o] = (os.take (i + 1)).map oD := by
  rw [List.take_add_one, h, List.map_append]
  rfl
theorem deq_xy (x y : Int) : deq (D.tup [.int x, .int y]) (D.tup [.int x, .int y]) = true := by simp [deq, deqs]
theorem L17 {Z : Zt} {D0 : EndsD} {S : DS} {kq pk : Addr} (hD : End D0 kq pk) (hK : S kq = some (.lst [.ref pk])) {u0 u1 u2 u3 u4 u5 u6 u8 u10 u11 u12 u13 u14 u15 u16 u24 u25 u26 u27 u28 u29 : Option D} {l t r b axis a m low high : Int} {pa gl gg : Addr} (hm : m ≠ 0) (ha : 0 ≤ a) (hb : 0 ≤ l ∧ l ≤ r ∧ r ≤ 10 ∧ 0 ≤ t ∧ t ≤ b ∧ b ≤ 10) (ha2 : a < 14) (hm2 : m ≤ 5)
    (hp : S pa = some (.ins 0 (aF l t r b))) (hl : S gl = some (.lst ((leftL low high a m).map D.int))) (hg : S gg = some (.lst ((goesL low high a m).map oD))) (hlh : (axis = 0 ∧ low = l ∧ high = r) ∨ (axis = 1 ∧ low = t ∧ high = b)) :
    t_law_0_17 Z D0 [u0, u1, u2, u3, u4, u5, u6, some (.tup [.int l, .int t, .int r, .int b]), u8, some (.ref pa), u10, u11, u12, u13, u14, u15, u16, some (.int axis), some (.int a), some (.int m), some (.int low), some (.int high), some (.ref gg), some (.ref gl), u24, u25, u26, u27, u28, u29] S := by
  have hz : low ≤ high := by omega
  have hz2 : 0 ≤ low ∧ high ≤ 10 := by omega
  have sp := span_left (low := low) (high := high) (a := a) (m := m) hz hm
  refine ⟨_, rfl, _, rfl, ⟨by omega, by omega⟩, ⟨by omega, by omega⟩, by rw [rngD_len, sizeLine_eq]; omega, fun i acc S' => acc = ((goesL low high a m).take i).map oD ∧ S' = S, ⟨rfl, rfl⟩, fun _ _ _ _ => trivial, ?_, ?_⟩
  · rintro i d acc S' hd ⟨rfl, rfl⟩
    obtain ⟨p, rfl, hgo⟩ := goes_at (a := a) (m := m) hd
    refine ⟨_, rfl, ⟨by decide, by decide, by decide, rfl⟩, _, rfl, _, rfl, _, rfl, p, a, m, rfl, _, Sub.refl _, take_oD hgo, rfl⟩
  · rintro acc S' g3 ⟨rfl, rfl⟩ hg3
    rw [rngD_len, ← goes_len low high a m, List.take_length]
    refine ⟨_, rfl, _, _, put_same, keep_put hg hg3, okOpts 60 _, okOpts 60 _, ?_⟩
    rw [eqOpts]
    refine ⟨_, rfl, ⟨by decide, by decide, by decide, rfl⟩, _, rfl, _, rfl, _, rfl, _, rfl, low, high, a, m, rfl, ?_⟩
    refine ⟨_, rfl, by show 0 ≤ sizeLine; decide, fun g4 hg4 => ?_⟩
    have hl4 := keep_put (u := .lst []) (keep_put (u := .lst ((goesL low high a m).map oD)) hl hg3) hg4
    have hp4 := keep_put (u := .lst []) (keep_put (u := .lst ((goesL low high a m).map oD)) hp hg3) hg4
    refine ⟨_, _, hl4, put_same, okInts 60 _, rfl, ?_⟩
    have nxt : ∀ S', S' kq = some (.lst [.ref pk]) → S' pa = some (.ins 0 (aF l t r b)) → S' gl = some (.lst ((leftL low high a m).map D.int)) → t_law_0_18 Z D0 [u0, u1, u2, u3, u4, u5, u6, some (.tup [.int l, .int t, .int r, .int b]), u8, some (.ref pa), u10, u11, u12, u13, u14, u15, u16, some (.int axis), some (.int a), some (.int m), some (.int low), some (.int high), some (.ref gg), some (.ref gl), u24, u25, u26, u27, u28, u29] S' := fun S' h0 h1 h2 => L18 hD h0 hm ha hb ha2 hm2 h1 h2 hlh rfl
    cases hs : spanO low high a m with
    | none =>
      rw [hs] at sp
      have sp : leftL low high a m = [] := sp
      have ed : deqs ((leftL low high a m).map D.int) [] = true := by rw [sp]; rfl
      rw [ed]
      exact ⟨rfl, rfl, nxt _ (keep_put (keep_put hK hg3) hg4) hp4 hl4⟩
    | some xy =>
      obtain ⟨x, y⟩ := xy
      rw [hs] at sp
      obtain ⟨hx, hy, hbd⟩ := sp
      have hne : leftL low high a m ≠ [] := fun e => by rw [e] at hx; cases hx
      have ed : deqs ((leftL low high a m).map D.int) [] = false := by
        cases e : leftL low high a m with
        | nil => exact absurd e hne
        | cons n0 nr => rfl
      rw [ed]
      have mn : ∀ v, v ∈ leftL low high a m → (∀ z, z ∈ leftL low high a m → v ≤ z) → v = x := fun v hv h => by have := h x hx; have := (hbd v hv).1; omega
      have mx : ∀ v, v ∈ leftL low high a m → (∀ z, z ∈ leftL low high a m → z ≤ v) → v = y := fun v hv h => by have := h y hy; have := (hbd v hv).2; omega
      refine ⟨_, rfl, _, hl4, hne, fun v hv hv2 => ?_⟩
      rw [mn v hv hv2]
      refine ⟨_, rfl, _, hl4, hne, fun v hv hv2 => ?_⟩
      rw [mx v hv hv2]
      refine ⟨by show 2 ≤ sizeLine; decide, rfl, rfl, ?_⟩
      show (if (!(deq (D.tup [.int x, .int y]) (D.tup [.int x, .int y]))) = true then _ else _)
      rw [deq_xy]
      exact nxt _ (keep_put (keep_put hK hg3) hg4) hp4 hl4

theorem L15 {Z : Zt} {D0 : EndsD} {S : DS} {kq pk : Addr} (hD : End D0 kq pk) (hK : S kq = some (.lst [.ref pk])) {u0 u1 u2 u3 u4 u5 u6 u8 u10 u11 u12 u13 u14 u15 u16 u22 u23 u24 u25 u26 u27 u28 u29 : Option D} {l t r b axis a m low high : Int} {pa : Addr} (hm : m ≠ 0) (ha : 0 ≤ a) (hb : 0 ≤ l ∧ l ≤ r ∧ r ≤ 10 ∧ 0 ≤ t ∧ t ≤ b ∧ b ≤ 10) (ha2 : a < 14) (hm2 : m ≤ 5)
    (hp : S pa = some (.ins 0 (aF l t r b))) (hlh : (axis = 0 ∧ low = l ∧ high = r) ∨ (axis = 1 ∧ low = t ∧ high = b)) :
    t_law_0_15 Z D0 [u0, u1, u2, u3, u4, u5, u6, some (.tup [.int l, .int t, .int r, .int b]), u8, some (.ref pa), u10, u11, u12, u13, u14, u15, u16, some (.int axis), some (.int a), some (.int m), some (.int low), some (.int high), u22, u23, u24, u25, u26, u27, u28, u29] S := by
  have hz2 : 0 ≤ low ∧ high ≤ 10 ∧ low ≤ high := by omega
  refine ⟨_, rfl, _, rfl, ⟨by omega, by omega⟩, ⟨by omega, by omega⟩, by rw [rngD_len, sizeLine_eq]; omega, fun i acc S' => acc = ((goesL low high a m).take i).map oD ∧ S' = S, ⟨rfl, rfl⟩, fun _ _ _ _ => trivial, ?_, ?_⟩
  · rintro i d acc S' hd ⟨rfl, rfl⟩
    obtain ⟨p, rfl, hgo⟩ := goes_at (a := a) (m := m) hd
    refine ⟨_, rfl, ⟨by decide, by decide, by decide, rfl⟩, _, rfl, _, rfl, _, rfl, p, a, m, rfl, hm, _, Sub.refl _, take_oD hgo, rfl⟩
  · rintro acc S' gg ⟨rfl, rfl⟩ hgg
    rw [rngD_len, ← goes_len low high a m, List.take_length]
    have hp2 := keep_put (u := .lst ((goesL low high a m).map oD)) hp hgg
    refine ⟨_, rfl, _, put_same, ?_⟩
    have hlen : ((goesL low high a m).map oD).length ≤ 11 := by rw [List.length_map, goes_len]; omega
    refine ⟨by rw [sizeLine_eq]; omega, fun i acc S2 => acc = (((goesL low high a m).take i).filterMap id).map D.int ∧ S2 = put S' gg (.lst ((goesL low high a m).map oD)), ⟨rfl, rfl⟩, ?_, ?_, ?_⟩
    · rintro i acc S2 ⟨rfl, rfl⟩
      exact put_same
    · rintro i d acc S2 hd ⟨rfl, rfl⟩
      rw [List.getElem?_map] at hd
      cases ho : (goesL low high a m)[i]? with
      | none => rw [ho] at hd; cases hd
      | some o =>
        rw [ho] at hd
        have et : (goesL low high a m).take (i + 1) = (goesL low high a m).take i ++ [o] := by rw [List.take_add_one, ho]; rfl
        cases o with
        | none =>
          cases hd
          refine ⟨_, rfl, _, Sub.refl _, ?_, rfl⟩
          rw [et, List.filterMap_append]
          simp
        | some v =>
          cases hd
          refine ⟨_, rfl, _, rfl, _, Sub.refl _, ?_, rfl⟩
          rw [et, List.filterMap_append, List.map_append]
          rfl
    · rintro acc S2 gl ⟨rfl, rfl⟩ hgl
      rw [List.length_map, List.take_length]
      exact L17 hD (keep_put (keep_put hK hgg) hgl) hm ha hb ha2 hm2 (keep_put hp2 hgl) put_same (keep_put put_same hgl) hlh

theorem L13 {Z : Zt} {D0 : EndsD} {S : DS} {kq pk : Addr} (hD : End D0 kq pk) (hK : S kq = some (.lst [.ref pk])) {u0 u2 u3 u4 u5 u6 u8 u10 u11 u12 u13 u14 u15 u16 u17 u18 u19 u20 u21 u22 u23 u24 u25 u26 u27 u28 u29 : Option D} {l t r b d1 d2 d3 : Int} {pa p : Addr} (hb : 0 ≤ l ∧ l ≤ r ∧ r ≤ 10 ∧ 0 ≤ t ∧ t ≤ b ∧ b ≤ 10)
    (hp : S pa = some (.ins 0 (aF l t r b))) (hS : S p = some (.lst [.int d1, .int d2, .int d3])) :
    t_law_0_13 Z D0 [u0, some (.ref p), u2, u3, u4, u5, u6, some (.tup [.int l, .int t, .int r, .int b]), u8, some (.ref pa), u10, u11, u12, u13, u14, u15, u16, u17, u18, u19, u20, u21, u22, u23, u24, u25, u26, u27, u28, u29] S := by
  have npa : pa ≠ p := fun e => by rw [e, hS] at hp; cases hp
  have nkp : kq ≠ p := fun e => by rw [e, hS] at hK; cases hK
  refine ⟨_, rfl, ⟨by decide, by decide, by decide, rfl⟩, _, rfl, p, 2, _, _, _, rfl, by decide, by decide, hS, fun axis a' b' d' x0 x1 => ?_⟩
  refine ⟨_, rfl, ⟨by decide, by decide, by decide, rfl⟩, _, rfl, p, 14, _, _, _, rfl, by decide, by decide, put_same, fun a a' b' d' a0 a1 => ?_⟩
  refine ⟨by show 7 ≤ sizeLine; decide, fun g hg => ?_⟩
  have hgp : g ≠ p := put_none_ne hg
  refine ⟨_, rfl, ⟨by decide, by decide, by decide, rfl⟩, _, rfl, p, 7, _, _, _, rfl, by decide, by decide, keep_put put_same hg, fun v a' b' d' v0 v1 => ?_⟩
  obtain ⟨m, hm, hm0, hm1⟩ : ∃ m : Int, atI [D.int 1, D.int 2, D.int 5, D.int (-1), D.int (-2), D.int (-5), D.int (-9)] v = some (.int m) ∧ m ≠ 0 ∧ m ≤ 5 := by
    obtain rfl | rfl | rfl | rfl | rfl | rfl | rfl : v = 0 ∨ v = 1 ∨ v = 2 ∨ v = 3 ∨ v = 4 ∨ v = 5 ∨ v = 6 := by omega
    all_goals exact ⟨_, rfl, by decide, by decide⟩
  refine ⟨_, _, (put_ne hgp).trans put_same, hm, by show 3 ≤ sizeLine; decide, rfl, rfl, ?_⟩
  have hp2 : put (put (put (put S p (.lst [.int _, .int _, .int _])) p (.lst [.int _, .int _, .int _])) g (.lst [.int 1, .int 2, .int 5, .int (-1), .int (-2), .int (-5), .int (-9)])) p (.lst [.int a', .int b', .int d']) pa = some (.ins 0 (aF l t r b)) :=
    (put_ne npa).trans (keep_put ((put_ne npa).trans ((put_ne npa).trans hp)) hg)
  have hK2 := (put_ne (o := .lst [.int a', .int b', .int d']) nkp).trans (keep_put (u := .lst [.int 1, .int 2, .int 5, .int (-1), .int (-2), .int (-5), .int (-9)]) ((put_ne nkp).trans ((put_ne nkp).trans hK)) hg)
  obtain rfl | rfl : axis = 0 ∨ axis = 1 := by omega
  · exact ⟨_, rfl, _, rfl, _, rfl, _, rfl, _, rfl, _, rfl, L15 hD hK2 hm0 a0 hb a1 hm1 hp2 (.inl ⟨rfl, rfl, rfl⟩)⟩
  · exact ⟨_, rfl, _, rfl, _, rfl, _, rfl, _, rfl, _, rfl, L15 hD hK2 hm0 a0 hb a1 hm1 hp2 (.inr ⟨rfl, rfl, rfl⟩)⟩

theorem name_add {x y : Int} (h : 0 ≤ x ∧ x < 702 ∧ 0 ≤ y ∧ y < 9999) : (colName x).length + (Str.ofString (toString (y + 1))).length ≤ sizeLine ∧ colName x ++ Str.ofString (toString (y + 1)) = spotName x y ∧ (y + 1).natAbs.log2 < 1920 := by
  have e : Str.ofString (toString (y + 1)) = ⟨(natD (y + 1).toNat).toArray⟩ := toString_int (by omega)
  have hl : (natD (y + 1).toNat).length ≤ 4 := natD_len 3 _ (by omega)
  have hc := (colL_len x).2
  rw [e]
  refine ⟨?_, ?_, Nat.lt_trans (log2_of_lt (by omega : (y + 1).natAbs < 2 ^ 64) (by decide)) (by decide)⟩
  · show (colL x).length + (natD (y + 1).toNat).length ≤ sizeLine
    rw [sizeLine_eq]; omega
  · exact cat_mk _ _
theorem spotL_len {x y : Int} (h : 0 ≤ y ∧ y < 9999) : (spotL x y).length ≤ 6 := by
  unfold spotL
  have h2 := (colL_len x).2
  have h3 := natD_len 3 (y + 1).toNat (by omega)
  rw [List.length_append]
  omega
theorem deq_one (l t r b : Int) : deq (D.tup [.int l, .int t, .int r, .int b]) (D.tup [.int l, .int t, .int r, .int b]) = true := by simp [deq, deqs]
theorem ite_no {c : Bool} {A B : Prop} (h : c = true) (k : B) : if (!c) = true then A else B := by rw [h]; exact (if_neg (by decide)).mpr k
theorem L12 {Z : Zt} {D0 : EndsD} {S : DS} {kq pk : Addr} (hD : End D0 kq pk) (hK : S kq = some (.lst [.ref pk])) {u0 u2 u3 u4 u5 u6 u8 u10 u11 u12 u13 u14 u17 u18 u19 u20 u21 u22 u23 u24 u25 u26 u27 u28 u29 : Option D} {l t r b d1 d2 d3 : Int} {pa p : Addr} (hb : 0 ≤ l ∧ l ≤ r ∧ r ≤ 10 ∧ 0 ≤ t ∧ t ≤ b ∧ b ≤ 10) (hp : S pa = some (.ins 0 (aF l t r b))) (hS : S p = some (.lst [.int d1, .int d2, .int d3])) :
    t_law_0_12 Z D0 [u0, some (.ref p), u2, u3, u4, u5, u6, some (.tup [.int l, .int t, .int r, .int b]), u8, some (.ref pa), u10, u11, u12, u13, u14, some (.str ⟨(areaL l t r b).toArray⟩), some (.str ⟨(spotL r t ++ [58] ++ spotL l b).toArray⟩), u17, u18, u19, u20, u21, u22, u23, u24, u25, u26, u27, u28, u29] S := by
  have ok : areaOk l t r b := ⟨by omega, by omega, by omega, by omega, by omega, by omega⟩
  refine ⟨_, rfl, _, _, _, _, _, rfl, hp, rfl, rfl, ⟨by decide, by decide, by decide, rfl⟩, rfl,  pa, l, t, r, b, rfl, hp, ok, ?_⟩
  refine ⟨_, rfl, ?_⟩
  refine itn (fun h => absurd rfl h) (fun _ => ?_)
  have e1 := areaOf_areaL ok
  have e2 := areaOf_mixed ok
  have l1 : (areaL l t r b).length ≤ 13 := by
    unfold areaL
    have h1 := spotL_len (x := l) (y := t) (by omega)
    have h2 := spotL_len (x := r) (y := b) (by omega)
    split
    · omega
    · rw [List.length_append, List.length_append, List.length_singleton]; omega
  have l2 : (spotL r t ++ [58] ++ spotL l b).length ≤ 13 := by
    have h1 := spotL_len (x := r) (y := t) (by omega)
    have h2 := spotL_len (x := l) (y := b) (by omega)
    rw [List.length_append, List.length_append, List.length_singleton]; omega
  refine ⟨_, rfl, ⟨by decide, by decide, by decide, rfl⟩, _, rfl, _, rfl, by rw [len_mk]; omega, fun l' t' r' b' e g hg => ?_, fun e => absurd (e.symm.trans e1) (fun z => nomatch z)⟩
  have e : areaOf (areaL l t r b) = some (l', t', r', b') := e
  rw [e1] at e
  cases e
  refine ⟨_, _, _, _, _, rfl, put_same, rfl, rfl, ⟨by decide, by decide, by decide, rfl⟩, rfl, g, l, t, r, b, rfl, put_same, _, rfl, rfl, rfl, ?_⟩
  refine ite_no (deq_one l t r b) ?_
  refine ⟨_, rfl, ⟨by decide, by decide, by decide, rfl⟩, _, rfl, _, rfl, by rw [len_mk]; omega, fun l' t' r' b' e g2 hg2 => ?_, fun e => absurd (e.symm.trans e2) (fun z => nomatch z)⟩
  have e : areaOf (spotL r t ++ [58] ++ spotL l b) = some (l', t', r', b') := e
  rw [e2] at e
  cases e
  refine ⟨_, _, _, _, _, rfl, put_same, rfl, rfl, ⟨by decide, by decide, by decide, rfl⟩, rfl, g2, l, t, r, b, rfl, put_same, _, rfl, rfl, rfl, ?_⟩
  refine ite_no (deq_one l t r b) ?_
  exact L13 hD (keep_put (keep_put hK hg) hg2) hb (keep_put (keep_put hp hg) hg2) (keep_put (keep_put hS hg) hg2)

theorem L9 {Z : Zt} {D0 : EndsD} {S : DS} {kq pk : Addr} (hD : End D0 kq pk) (hK : S kq = some (.lst [.ref pk])) {u0 u2 u3 u4 u5 u6 u8 u10 u11 u12 u13 u14 u15 u16 u17 u18 u19 u20 u21 u22 u23 u24 u25 u26 u27 u28 u29 : Option D} {l t r b d1 d2 d3 : Int} {pa p : Addr} (hb : 0 ≤ l ∧ l ≤ r ∧ r ≤ 10 ∧ 0 ≤ t ∧ t ≤ b ∧ b ≤ 10) (hp : S pa = some (.ins 0 (aF l t r b))) (hS : S p = some (.lst [.int d1, .int d2, .int d3])) :
    t_law_0_9 Z D0 [u0, some (.ref p), u2, u3, u4, u5, u6, some (.tup [.int l, .int t, .int r, .int b]), u8, some (.ref pa), u10, u11, u12, u13, u14, u15, u16, u17, u18, u19, u20, u21, u22, u23, u24, u25, u26, u27, u28, u29] S := by
  have n1 := name_add (x := l) (y := t) ⟨by omega, by omega, by omega, by omega⟩
  have n2 := name_add (x := r) (y := b) ⟨by omega, by omega, by omega, by omega⟩
  have n3 := name_add (x := r) (y := t) ⟨by omega, by omega, by omega, by omega⟩
  have n4 := name_add (x := l) (y := b) ⟨by omega, by omega, by omega, by omega⟩
  refine ⟨_, rfl, ⟨by decide, by decide, by decide, rfl⟩, _, rfl, _, rfl, l, rfl, by omega, by omega, _, rfl, _, rfl, n1.2.2, n1.1, ?_⟩
  rw [n1.2.1]
  refine ⟨_, rfl, ⟨by decide, by decide, by decide, rfl⟩, _, rfl, _, rfl, r, rfl, by omega, by omega, _, rfl, _, rfl, n2.2.2, n2.1, ?_⟩
  rw [n2.2.1]
  have l10 : ∀ lb : Str, lb = ⟨(areaL l t r b).toArray⟩ → t_law_0_11 Z D0 [u0, some (.ref p), u2, u3, u4, u5, u6, some (.tup [.int l, .int t, .int r, .int b]), u8, some (.ref pa), u10, u11, u12, some (.str (spotName l t)), some (.str (spotName r b)), some (.str lb), u16, u17, u18, u19, u20, u21, u22, u23, u24, u25, u26, u27, u28, u29] S := fun lb e => by
    subst e
    refine ⟨_, rfl, ⟨by decide, by decide, by decide, rfl⟩, _, rfl, _, rfl, r, rfl, by omega, by omega, _, rfl, _, rfl, n3.2.2, n3.1, ?_⟩
    rw [n3.2.1]
    have s1 : spotName r t ++ ((":" : Str)) = ⟨(spotL r t ++ [58]).toArray⟩ := cat_mk (spotL r t) [58]
    have k1 := spotL_len (x := r) (y := t) (by omega)
    have k2 := (colL_len l).2
    have hl : (natD (b + 1).toNat).length ≤ 4 := natD_len 3 _ (by omega)
    have e : Str.ofString (toString (b + 1)) = ⟨(natD (b + 1).toNat).toArray⟩ := toString_int (by omega)
    refine ⟨by show (spotL r t).length + 1 ≤ sizeLine; rw [sizeLine_eq]; omega, ?_⟩
    rw [s1]
    refine ⟨_, rfl, ⟨by decide, by decide, by decide, rfl⟩, _, rfl, _, rfl, l, rfl, by omega, by omega, ?_⟩
    refine ⟨by show (spotL r t ++ [58]).length + (colL l).length ≤ sizeLine; rw [sizeLine_eq, List.length_append, List.length_singleton]; omega, ?_⟩
    unfold colName
    rw [cat_mk]
    refine ⟨_, rfl, _, rfl, n4.2.2, ?_⟩
    rw [e]
    refine ⟨by show (spotL r t ++ [58] ++ colL l).length + (natD (b + 1).toNat).length ≤ sizeLine; rw [sizeLine_eq, List.length_append, List.length_append, List.length_singleton]; omega, ?_⟩
    rw [cat_mk, List.append_assoc]
    exact L12 hD hK hb hp hS
  refine ⟨_, rfl, _, rfl, ?_⟩
  refine itd (fun c => ?_) (fun c => ?_)
  · exact ⟨_, rfl, l10 _ (by unfold areaL; rw [if_pos (SX.S_inj c)]; rfl)⟩
  · have e1 : spotName l t ++ ((":" : Str)) = ⟨(spotL l t ++ [58]).toArray⟩ := cat_mk (spotL l t) [58]
    have k1 := spotL_len (x := l) (y := t) (by omega)
    have k2 := spotL_len (x := r) (y := b) (by omega)
    refine ⟨_, rfl, by show (spotL l t).length + 1 ≤ sizeLine; rw [sizeLine_eq]; omega, ?_⟩
    rw [e1]
    refine ⟨_, rfl, by show (spotL l t ++ [58]).length + (spotL r b).length ≤ sizeLine; rw [sizeLine_eq, List.length_append, List.length_singleton]; omega, ?_⟩
    refine l10 _ ?_
    unfold areaL
    rw [if_neg (fun e => c (by unfold spotName; rw [e]))]
    exact cat_mk _ _

mutual
theorem deq_refl : ∀ (n : Nat) (x : D), okD n x = true → deq x x = true
  | n, .non, _ => by cases n <;> rfl
  | n, .bl b, _ => by cases n <;> simp [deq]
  | n, .int i, _ => by cases n <;> simp [deq]
  | n, .str i, _ => by cases n <;> simp [deq]
  | n, .rol xs, h => by cases n <;> simp [okD] at h
  | n, .ref a, h => by cases n <;> simp [okD] at h
  | n, .tup xs, h => by
    cases n with
    | zero => simp [okD] at h
    | succ n =>
      simp only [okD] at h
      simp only [deq]
      exact deqs_refl n xs h
theorem deqs_refl : ∀ (n : Nat) (xs : List D), okDs n xs = true → deqs xs xs = true
  | n, [], _ => rfl
  | n, x :: xs, h => by
    simp only [okDs, Bool.and_eq_true] at h
    simp only [deqs, deq_refl n x h.1, deqs_refl n xs h.2, Bool.and_self]
end
theorem okDs_of {n : Nat} : ∀ {xs : List D}, (∀ x ∈ xs, okD n x = true) → okDs n xs = true
  | [], _ => rfl
  | x :: xs, h => by
    simp only [okDs, h x List.mem_cons_self, okDs_of fun y hy => h y (List.mem_cons_of_mem _ hy), Bool.and_self]
theorem ok_spots (l t r b : Int) : okDs 60 (spotsD l t r b) = true := okDs_of fun x hx => by
  obtain ⟨i, j, rfl, _⟩ := spots_mem.mp hx
  rfl
theorem spots_len {l t r b : Int} : (spotsD l t r b).length = (b + 1 - t).toNat * (r + 1 - l).toNat := by
  unfold spotsD
  rw [List.length_flatMap]
  have e : (rngD t (b + 1 - t).toNat).map (fun y => ((rngD l (r + 1 - l).toNat).map fun x => D.tup [x, y]).length) = List.replicate (b + 1 - t).toNat (r + 1 - l).toNat := by
    rw [List.eq_replicate_iff]
    refine ⟨by rw [List.length_map, rngD_len], fun n hn => ?_⟩
    obtain ⟨y, _, rfl⟩ := List.mem_map.mp hn
    rw [List.length_map, rngD_len]
  rw [e, List.sum_replicate_nat]
def inA (l t r b : Int) : D → Bool
  | .tup [.int x, .int y] => decide (l ≤ x ∧ x ≤ r ∧ t ≤ y ∧ y ≤ b)
  | _ => false
theorem meets_iff {l t r b l2 t2 r2 b2 : Int} (h : l ≤ r ∧ t ≤ b) (h2 : l2 ≤ r2 ∧ t2 ≤ b2) : decide (l ≤ r2 ∧ l2 ≤ r ∧ t ≤ b2 ∧ t2 ≤ b) = !deqs ((spotsD l t r b).filter (inA l2 t2 r2 b2)) [] := by
  by_cases c : l ≤ r2 ∧ l2 ≤ r ∧ t ≤ b2 ∧ t2 ≤ b
  · rw [decide_eq_true c]
    have hm : D.tup [.int (max l l2), .int (max t t2)] ∈ (spotsD l t r b).filter (inA l2 t2 r2 b2) := by
      rw [List.mem_filter]
      exact ⟨spots_mem.mpr ⟨_, _, rfl, by omega, by omega, by omega, by omega⟩, decide_eq_true ⟨by omega, by omega, by omega, by omega⟩⟩
    cases e : (spotsD l t r b).filter (inA l2 t2 r2 b2) with
    | nil => rw [e] at hm; cases hm
    | cons x xs => rfl
  · rw [decide_eq_false c]
    have e : (spotsD l t r b).filter (inA l2 t2 r2 b2) = [] := by
      rw [List.filter_eq_nil_iff]
      intro d hd
      obtain ⟨x, y, rfl, h3⟩ := spots_mem.mp hd
      show ¬ (decide (l2 ≤ x ∧ x ≤ r2 ∧ t2 ≤ y ∧ y ≤ b2) = true)
      rw [decide_eq_true_iff]
      omega
    rw [e]
    rfl
theorem L8 {Z : Zt} {D0 : EndsD} {S : DS} {kq pk : Addr} (hD : End D0 kq pk) (hK : S kq = some (.lst [.ref pk])) {u0 u2 u3 u4 u5 u6 u8 u12 u13 u14 u15 u16 u17 u18 u19 u20 u21 u22 u23 u24 u25 u26 u27 u28 u29 : Option D} {l t r b d1 d2 d3 l2 t2 r2 b2 : Int} {pa p pb gs : Addr} (hb : 0 ≤ l ∧ l ≤ r ∧ r ≤ 10 ∧ 0 ≤ t ∧ t ≤ b ∧ b ≤ 10) (hb2 : l2 ≤ r2 ∧ t2 ≤ b2) (hp : S pa = some (.ins 0 (aF l t r b))) (hp2 : S pb = some (.ins 0 (aF l2 t2 r2 b2))) (hS : S p = some (.lst [.int d1, .int d2, .int d3])) (hg : S gs = some (.lst (spotsD l t r b))) :
    t_law_0_8 Z D0 [u0, some (.ref p), u2, u3, u4, u5, u6, some (.tup [.int l, .int t, .int r, .int b]), u8, some (.ref pa), some (.ref pb), some (.ref gs), u12, u13, u14, u15, u16, u17, u18, u19, u20, u21, u22, u23, u24, u25, u26, u27, u28, u29] S := by
  refine ⟨_, rfl, _, _, _, _, _, rfl, hp, rfl, rfl, ⟨by decide, by decide, by decide, rfl⟩, rfl, _, rfl, pa, pb, l, t, r, b, l2, t2, r2, b2, rfl, hp, hp2, ?_⟩
  have sz : (spotsD l t r b).length ≤ 121 := by
    rw [spots_len]
    exact Nat.le_trans (Nat.mul_le_mul (by omega : (b + 1 - t).toNat ≤ 11) (by omega : (r + 1 - l).toNat ≤ 11)) (by decide)
  refine ⟨_, rfl, _, hg, by rw [sizeLine_eq]; omega, fun i acc S' => acc = ((spotsD l t r b).take i).filter (inA l2 t2 r2 b2) ∧ S' = S, ⟨rfl, rfl⟩, ?_, ?_, ?_⟩
  · rintro i acc S' ⟨rfl, rfl⟩
    exact hg
  · rintro i d acc S' hd ⟨rfl, rfl⟩
    obtain ⟨x, y, rfl, _⟩ := spots_mem.mp (List.mem_of_getElem? hd)
    refine ⟨_, rfl, _, _, _, _, _, rfl, hp2, rfl, rfl, ⟨by decide, by decide, by decide, rfl⟩, rfl, _, rfl, pb, l2, t2, r2, b2, x, y, rfl, hp2, ?_⟩
    have et : ((spotsD l t r b).take (i + 1)) = (spotsD l t r b).take i ++ [.tup [.int x, .int y]] := by rw [List.take_add_one, hd]; rfl
    refine itd (fun c => ?_) (fun c => ?_)
    · refine ⟨_, rfl, _, Sub.refl _, ?_, rfl⟩
      rw [et, List.filter_append]
      have : inA l2 t2 r2 b2 (.tup [.int x, .int y]) = true := decide_eq_true c
      simp [List.filter, this]
    · refine ⟨_, Sub.refl _, ?_, rfl⟩
      rw [et, List.filter_append]
      have : inA l2 t2 r2 b2 (.tup [.int x, .int y]) = false := decide_eq_false c
      simp [List.filter, this]
  · rintro acc S' g ⟨rfl, rfl⟩ hg1
    rw [List.take_length]
    refine ⟨by show 0 ≤ sizeLine; decide, fun g2 hg2 => ?_⟩
    refine ⟨_, _, keep_put put_same hg2, put_same, okDs_of fun x hx => ?_, rfl, ?_⟩
    · obtain ⟨i, j, rfl, _⟩ := spots_mem.mp (List.mem_filter.mp hx).1
      rfl
    · rw [meets_iff ⟨by omega, by omega⟩ hb2]
      refine itn (fun h => absurd rfl h) (fun _ => ?_)
      exact L9 hD (keep_put (keep_put hK hg1) hg2) hb (keep_put (keep_put hp hg1) hg2) (keep_put (keep_put hS hg1) hg2)

theorem L7 {Z : Zt} {D0 : EndsD} {S : DS} {kq pk : Addr} (hD : End D0 kq pk) (hK : S kq = some (.lst [.ref pk])) {u0 u2 u3 u4 u5 u6 u8 u12 u13 u14 u15 u16 u17 u18 u19 u20 u21 u22 u23 u24 u25 u26 u27 u28 u29 : Option D} {l t r b d1 d2 d3 l2 t2 r2 b2 : Int} {pa p pb gs : Addr} (hb : 0 ≤ l ∧ l ≤ r ∧ r ≤ 10 ∧ 0 ≤ t ∧ t ≤ b ∧ b ≤ 10) (hb2 : l2 ≤ r2 ∧ t2 ≤ b2) (hp : S pa = some (.ins 0 (aF l t r b))) (hp2 : S pb = some (.ins 0 (aF l2 t2 r2 b2))) (hS : S p = some (.lst [.int d1, .int d2, .int d3])) (hg : S gs = some (.lst (spotsD l t r b))) :
    t_law_0_7 Z D0 [u0, some (.ref p), u2, u3, u4, u5, u6, some (.tup [.int l, .int t, .int r, .int b]), u8, some (.ref pa), some (.ref pb), some (.ref gs), u12, u13, u14, u15, u16, u17, u18, u19, u20, u21, u22, u23, u24, u25, u26, u27, u28, u29] S := by
  have ok : areaOk l t r b := ⟨by omega, by omega, by omega, by omega, by omega, by omega⟩
  have sz : (spotsD l t r b).length ≤ 121 := by
    rw [spots_len]
    exact Nat.le_trans (Nat.mul_le_mul (by omega : (b + 1 - t).toNat ≤ 11) (by omega : (r + 1 - l).toNat ≤ 11)) (by decide)
  have z2 : 2 ≤ sizeLine := by decide
  refine ⟨_, rfl, _, _, _, _, _, rfl, hp, rfl, rfl, ⟨by decide, by decide, by decide, rfl⟩, rfl,  pa, l, t, r, b, rfl, hp, ok, by omega, by omega, fun q hq => ?_⟩
  refine ⟨_, rfl, _, _, put_same, keep_put hg hq, ok_spots _ _ _ _, ok_spots _ _ _ _, ?_⟩
  refine ite_no (deqs_refl 60 _ (ok_spots _ _ _ _)) ?_
  have hp' := keep_put (u := .lst (spotsD l t r b)) hp hq
  have hg' := keep_put (u := .lst (spotsD l t r b)) hg hq
  refine ⟨_, rfl, _, _, _, _, _, rfl, hp', rfl, rfl, ⟨by decide, by decide, by decide, rfl⟩, rfl,  pa, l, t, r, b, rfl, hp', ?_⟩
  refine ⟨_, rfl, _, rfl, _, rfl, _, rfl, _, rfl, _, rfl, _, rfl, _, rfl, z2, rfl, rfl, ?_⟩
  refine ite_no (deq_xy _ _) ?_
  refine ⟨_, rfl, _, hg', by rw [sizeLine_eq]; omega, fun i acc S' => acc = [] ∧ S' = put S q (.lst (spotsD l t r b)), ⟨rfl, rfl⟩, ?_, ?_, ?_⟩
  · rintro i acc S' ⟨rfl, rfl⟩
    exact hg'
  · rintro i d acc S' hd ⟨rfl, rfl⟩
    obtain ⟨x, y, rfl, hxy⟩ := spots_mem.mp (List.mem_of_getElem? hd)
    refine ⟨_, rfl, _, _, _, _, _, rfl, hp', rfl, rfl, ⟨by decide, by decide, by decide, rfl⟩, rfl, _, rfl, pa, l, t, r, b, x, y, rfl, hp', ?_⟩
    refine itn (fun c => absurd hxy c) (fun _ => ?_)
    exact ⟨_, Sub.refl _, rfl, rfl⟩
  · rintro acc S' g ⟨rfl, rfl⟩ hg1
    refine ⟨by show 0 ≤ sizeLine; decide, fun g2 hg2 => ?_⟩
    refine ⟨_, _, keep_put put_same hg2, put_same, rfl, rfl, ?_⟩
    have hp3 := keep_put (u := .lst []) (keep_put (u := .lst []) hp' hg1) hg2
    refine ⟨_, rfl, _, _, _, _, _, rfl, hp3, rfl, rfl, ⟨by decide, by decide, by decide, rfl⟩, rfl, _, rfl, _, rfl, _, rfl, _, rfl, z2, pa, l, t, r, b, r + 1, t, rfl, hp3, ?_⟩
    refine itd (fun c => absurd c (by omega)) (fun _ => ?_)
    refine ⟨_, rfl, _, _, _, _, _, rfl, hp3, rfl, rfl, ⟨by decide, by decide, by decide, rfl⟩, rfl,  pa, l, t, r, b, rfl, hp3, _, rfl, rfl, rfl, ?_⟩
    refine ite_no (deq_one _ _ _ _) ?_
    exact L8 hD (keep_put (keep_put (keep_put hK hq) hg1) hg2) hb hb2 hp3 (keep_put (keep_put (keep_put hp2 hq) hg1) hg2) (keep_put (keep_put (keep_put hS hq) hg1) hg2) (keep_put (keep_put hg' hg1) hg2)

theorem L5 {Z : Zt} {D0 : EndsD} {S : DS} {kq pk : Addr} (hD : End D0 kq pk) (hK : S kq = some (.lst [.ref pk])) {u0 u2 u3 u4 u5 u6 u8 u11 u12 u13 u14 u15 u16 u17 u18 u19 u20 u21 u22 u23 u24 u25 u26 u27 u28 u29 : Option D} {l t r b d1 d2 d3 l2 t2 r2 b2 : Int} {pa p pb : Addr} (hb : 0 ≤ l ∧ l ≤ r ∧ r ≤ 10 ∧ 0 ≤ t ∧ t ≤ b ∧ b ≤ 10) (hb2 : l2 ≤ r2 ∧ t2 ≤ b2) (hp : S pa = some (.ins 0 (aF l t r b))) (hp2 : S pb = some (.ins 0 (aF l2 t2 r2 b2))) (hS : S p = some (.lst [.int d1, .int d2, .int d3])) :
    t_law_0_5 Z D0 [u0, some (.ref p), u2, u3, u4, u5, u6, some (.tup [.int l, .int t, .int r, .int b]), u8, some (.ref pa), some (.ref pb), u11, u12, u13, u14, u15, u16, u17, u18, u19, u20, u21, u22, u23, u24, u25, u26, u27, u28, u29] S := by
  refine ⟨by show 0 ≤ sizeLine; decide, fun g0 hg0 => ?_⟩
  have z2 : 2 ≤ sizeLine := by decide
  refine ⟨_, rfl, _, rfl, _, rfl, _, rfl, ⟨by omega, by omega⟩, ⟨by omega, by omega⟩, fun i rr S' => ∃ (gs : Addr) (uy : Option D), rr = [u0, some (.ref p), u2, u3, u4, u5, u6, some (.tup [.int l, .int t, .int r, .int b]), u8, some (.ref pa), some (.ref pb), some (.ref gs), uy, u13, u14, u15, u16, u17, u18, u19, u20, u21, u22, u23, u24, u25, u26, u27, u28, u29] ∧ S' gs = some (.lst (((rngD t (b + 1 - t).toNat).take i).flatMap fun y => (rngD l (r + 1 - l).toNat).map fun x => .tup [x, y])) ∧ S' pa = some (.ins 0 (aF l t r b)) ∧ S' pb = some (.ins 0 (aF l2 t2 r2 b2)) ∧ S' p = some (.lst [.int d1, .int d2, .int d3]) ∧ S' kq = some (.lst [.ref pk]),
    ⟨g0, _, rfl, put_same, keep_put hp hg0, keep_put hp2 hg0, keep_put hS hg0, keep_put hK hg0⟩, fun _ _ _ _ => trivial, ?_, ?_⟩
  · rintro i d rr S' hd ⟨gs, uy, rfl, h1, h2, h3, h4, h5⟩
    obtain ⟨hi, rfl⟩ := rngD_get hd
    refine ⟨_, rfl, _, rfl, _, rfl, _, rfl, _, rfl, ⟨by omega, by omega⟩, ⟨by omega, by omega⟩, by rw [rngD_len, sizeLine_eq]; omega, fun j acc S2 => acc = ((rngD l (r + 1 - l).toNat).take j).map (fun x => .tup [x, .int (t + (i : Nat))]) ∧ S2 = S', ⟨rfl, rfl⟩, fun _ _ _ _ => trivial, ?_, ?_⟩
    · rintro j d2 acc S2 hd2 ⟨rfl, rfl⟩
      refine ⟨_, rfl, _, rfl, z2, _, Sub.refl _, ?_, rfl⟩
      rw [List.take_add_one, hd2, List.map_append]
      rfl
    · rintro acc S2 g ⟨rfl, rfl⟩ hg
      rw [rngD_len, List.take_of_length_le (by rw [rngD_len]; exact Nat.le_refl _)]
      have hacc : (((rngD t (b + 1 - t).toNat).take i).flatMap (fun y => (rngD l (r + 1 - l).toNat).map fun x => D.tup [x, y])).length = i * (r + 1 - l).toNat := by
        rw [List.length_flatMap]
        have e : ((rngD t (b + 1 - t).toNat).take i).map (fun y => ((rngD l (r + 1 - l).toNat).map fun x => D.tup [x, y]).length) = List.replicate i (r + 1 - l).toNat := by
          rw [List.eq_replicate_iff]
          refine ⟨by rw [List.length_map, List.length_take, rngD_len]; omega, fun n hn => ?_⟩
          obtain ⟨y, _, rfl⟩ := List.mem_map.mp hn
          rw [List.length_map, rngD_len]
        rw [e, List.sum_replicate_nat]
      have hbd : i * (r + 1 - l).toNat ≤ 11 * 11 := Nat.mul_le_mul (by omega) (by omega)
      refine ⟨_, _, keep_put h1 hg, put_same, by rw [hacc, List.length_map, rngD_len, sizeLine_eq]; omega, fun g2 hg2 => ?_⟩
      refine ⟨_, Sub.refl _, g2, _, rfl, ?_, keep_put (keep_put h2 hg) hg2, keep_put (keep_put h3 hg) hg2, keep_put (keep_put h4 hg) hg2, keep_put (keep_put h5 hg) hg2⟩
      rw [put_same, List.take_add_one, hd, List.flatMap_append]
      simp
  · rintro rr S' ⟨gs, uy, rfl, h1, h2, h3, h4, h5⟩
    rw [rngD_len, List.take_of_length_le (by rw [rngD_len]; exact Nat.le_refl _)] at h1
    exact L7 hD h5 hb hb2 h2 h3 h4 h1

theorem L3 {Z : Zt} {D0 : EndsD} {S : DS} {kq pk : Addr} (hD : End D0 kq pk) (hK : S kq = some (.lst [.ref pk])) {u0 u2 u3 u4 u5 u6 u7 u8 u9 u10 u11 u12 u13 u14 u15 u16 u17 u18 u19 u20 u21 u22 u23 u24 u25 u26 u27 u28 u29 : Option D} {d1 d2 d3 : Int} {p : Addr} (hS : S p = some (.lst [.int d1, .int d2, .int d3])) :
    t_law_0_3 Z D0 [u0, some (.ref p), u2, u3, u4, u5, u6, u7, u8, u9, u10, u11, u12, u13, u14, u15, u16, u17, u18, u19, u20, u21, u22, u23, u24, u25, u26, u27, u28, u29] S := by
  have z4 : 4 ≤ sizeLine := by decide
  have nkp : kq ≠ p := fun e => by rw [e, hS] at hK; cases hK
  refine ⟨_, rfl, ⟨by decide, by decide, by decide, rfl⟩, _, rfl, p, _, _, _, rfl, hS, fun l t x y a b d l0 l1 t0 t1 x0 x1 y0 y1 => ?_⟩
  refine ⟨_, rfl, ⟨by decide, by decide, by decide, rfl⟩, _, rfl, p, _, _, _, rfl, put_same, fun l2 t2 x2 y2 a b d l20 l21 t20 t21 x20 x21 y20 y21 => ?_⟩
  refine ⟨5, _, rfl, rfl, ⟨by decide, by decide, by decide, rfl⟩, _, rfl, _, rfl, _, rfl, _, rfl, _, rfl, _, rfl, _, rfl, _, rfl, fun pa hpa => ⟨pa, l, t, l + x, t + y, rfl, put_same, fun _ => ⟨rfl, ?_⟩, fun q => absurd ⟨by omega, by omega, by omega, by omega, by omega, by omega⟩ q⟩⟩
  refine ⟨5, _, rfl, rfl, ⟨by decide, by decide, by decide, rfl⟩, _, rfl, _, rfl, _, rfl, _, rfl, _, rfl, _, rfl, _, rfl, _, rfl, fun pb hpb => ⟨pb, l2, t2, l2 + x2, t2 + y2, rfl, put_same, fun _ => ⟨rfl, ?_⟩, fun q => absurd ⟨by omega, by omega, by omega, by omega, by omega, by omega⟩ q⟩⟩
  rw [put_put] at hpa
  rw [put_put, put_put] at hpb ⊢
  rw [put_put]
  refine ⟨by show 2 ≤ sizeLine; decide, rfl, rfl, ?_⟩
  exact L5 hD (keep_put (keep_put ((put_ne nkp).trans hK) hpa) hpb) ⟨l0, by omega, by omega, t0, by omega, by omega⟩ ⟨by omega, by omega⟩ (keep_put put_same hpb) put_same (keep_put (keep_put put_same hpa) hpb)

theorem L0 {Z : Zt} {D0 : EndsD} {S : DS} {kq pk : Addr} (hD : End D0 kq pk) (hK : S kq = some (.lst [.ref pk])) {u0 u2 u3 u4 u5 u6 u7 u8 u9 u10 u11 u12 u13 u14 u15 u16 u17 u18 u19 u20 u21 u22 u23 u24 u25 u26 u27 u28 u29 : Option D} {d1 d2 d3 : Int} {p : Addr} (hS : S p = some (.lst [.int d1, .int d2, .int d3])) :
    t_law_0_0 Z D0 [u0, some (.ref p), u2, u3, u4, u5, u6, u7, u8, u9, u10, u11, u12, u13, u14, u15, u16, u17, u18, u19, u20, u21, u22, u23, u24, u25, u26, u27, u28, u29] S := by
  refine ⟨_, rfl, ⟨by decide, by decide, by decide, rfl⟩, _, rfl, p, 702, _, _, _, rfl, by decide, by decide, hS, fun c a b d c0 c1 => ?_⟩
  refine ⟨_, rfl, ⟨by decide, by decide, by decide, rfl⟩, _, rfl, p, 9999, _, _, _, rfl, by decide, by decide, put_same, fun v a b d v0 v1 => ?_⟩
  rw [put_put]
  have na := name_add (x := c) (y := v) ⟨c0, c1, v0, v1⟩
  have hsp := spotOf_spotL c0 c1 v0 v1
  have hln := spotL_len (x := c) (y := v) ⟨v0, v1⟩
  refine ⟨_, rfl, ⟨by decide, by decide, by decide, rfl⟩, _, rfl, c, rfl, c0, c1, _, rfl, na.2.2, na.1, ?_⟩
  rw [na.2.1]
  have hcl := (colL_len c).2
  refine ⟨_, rfl, ⟨by decide, by decide, by decide, rfl⟩, _, rfl, c, rfl, fun _ => ?_, fun q => absurd ⟨c0, c1⟩ q⟩
  refine ⟨_, rfl, ⟨by decide, by decide, by decide, rfl⟩, _, rfl, c, rfl, c0, c1, ?_⟩
  refine itn (fun h => absurd rfl h) (fun _ => ?_)
  refine ⟨_, rfl, ⟨by decide, by decide, by decide, rfl⟩, _, rfl, ⟨by decide, by decide, by decide, rfl⟩, _, rfl, c, rfl, c0, c1, colName c, rfl, by show (colL c).length ≤ 1000; omega, fun _ => ?_, fun q => absurd (q.symm.trans (colOk_colL c0 c1)) (by decide)⟩
  refine ⟨_, rfl, ?_⟩
  refine itn (fun h => absurd (colNum_colL c0 c1) h) (fun _ => ?_)
  refine ⟨_, rfl, ⟨by decide, by decide, by decide, rfl⟩, _, rfl, _, rfl, by show 2 ≤ sizeLine; decide, c, v, rfl, fun _ => ?_, fun q => absurd ⟨c0, c1, v0, v1⟩ q⟩
  refine ⟨_, rfl, ?_⟩
  refine itn (fun h => absurd rfl h) (fun _ => ?_)
  refine ⟨_, rfl, ⟨by decide, by decide, by decide, rfl⟩, _, rfl, spotName c v, rfl, by show (spotL c v).length ≤ 1000; omega, fun x y e => ?_, fun e => absurd (e.symm.trans hsp) (fun z => nomatch z)⟩
  have e : spotOf (spotL c v) = some (x, y) := e
  rw [hsp] at e
  cases e
  refine ⟨_, rfl, _, rfl, by show 2 ≤ sizeLine; decide, rfl, rfl, ?_⟩
  refine ite_no (deq_xy _ _) ?_
  refine ⟨_, rfl, ⟨by decide, by decide, by decide, rfl⟩, _, rfl, spotName c v, rfl, by show (spotL c v).length ≤ 1000; omega, ?_⟩
  have es : (spotOf (spotName c v).cps.toList).isSome = true := by
    show (spotOf (spotL c v)).isSome = true
    rw [hsp]; rfl
  rw [es]
  have nkp : kq ≠ p := fun e => by rw [e, hS] at hK; cases hK
  exact L3 hD ((put_ne nkp).trans hK) put_same

theorem keep2 {S : DS} {a l : Addr} {o u v : O} (h : S a = some o) (h' : S l = none) : put (put S l u) l v a = some o := by rw [put_put]; exact keep_put h h'
theorem T4 {Z : Zt} {Q : QD} {E : XD} {S : DS} (hQ : ∀ S, Q (.bl true) S) {u0 u1 u2 u4 u5 u6 u7 u8 u9 u10 u11 u12 u13 u14 u15 u16 u17 u18 u19 u20 u21 u22 u23 u24 u25 u26 u27 u28 u29 : Option D} {ge q1 q3 : Addr} (he : S ge = some (.lst [.ref q1, .non, .ref q3])) (h1 : S q1 = some (.ins 0 (aF 0 0 0 9998))) (h3 : S q3 = some (.ins 0 (aF 50 0 701 0))) :
    t_law_4 Z (fin Q E) [u0, u1, u2, some (.ref ge), u4, u5, u6, u7, u8, u9, u10, u11, u12, u13, u14, u15, u16, u17, u18, u19, u20, u21, u22, u23, u24, u25, u26, u27, u28, u29] S := by
  have z4 : 4 ≤ sizeLine := by decide
  refine ⟨_, rfl, _, he, by show 3 ≤ sizeLine; decide, fun i acc S' => acc = [D.tup [.int 0, .int 0, .int 0, .int 9998], .non, .tup [.int 50, .int 0, .int 701, .int 0]].take i ∧ S' = S, ⟨rfl, rfl⟩, ?_, ?_, ?_⟩
  · rintro i acc S' ⟨rfl, rfl⟩
    exact he
  · rintro i d acc S' hd ⟨rfl, rfl⟩
    match i, hd with
    | 0, hd =>
      cases hd
      exact ⟨_, rfl, _, rfl, _, _, _, _, _, rfl, h1, rfl, rfl, ⟨by decide, by decide, by decide, rfl⟩, rfl, q1, 0, 0, 0, 9998, rfl, h1, _, Sub.refl _, rfl, rfl⟩
    | 1, hd =>
      cases hd
      exact ⟨_, rfl, _, Sub.refl _, rfl, rfl⟩
    | 2, hd =>
      cases hd
      exact ⟨_, rfl, _, rfl, _, _, _, _, _, rfl, h3, rfl, rfl, ⟨by decide, by decide, by decide, rfl⟩, rfl, q3, 50, 0, 701, 0, rfl, h3, _, Sub.refl _, rfl, rfl⟩
    | n + 3, hd => cases hd
  · rintro acc S' g ⟨rfl, rfl⟩ hg
    refine ⟨z4, z4, by show 3 ≤ sizeLine; decide, fun g2 hg2 => ?_⟩
    refine ⟨_, _, keep_put put_same hg2, put_same, rfl, rfl, ?_⟩
    have e : spotOf (("ZZ9999" : Str)).cps.toList = some (701, 9998) := by decide +kernel
    refine ⟨_, rfl, ⟨by decide, by decide, by decide, rfl⟩, _, rfl, by decide +kernel, fun x y e' => ?_, fun e' => absurd (e'.symm.trans e) (fun z => nomatch z)⟩
    rw [e] at e'
    cases e'
    refine ⟨by show 2 ≤ sizeLine; decide, rfl, rfl, _, Sub.refl _, ?_⟩
    rw [deq_xy]
    exact hQ _

theorem T3 {Z : Zt} {Q : QD} {E : XD} {S : DS} (hQ : ∀ S, Q (.bl true) S) {u0 u1 u2 u3 u4 u5 u6 u7 u8 u9 u10 u11 u12 u13 u14 u15 u16 u17 u18 u19 u20 u21 u22 u23 u24 u25 u26 u27 u28 u29 : Option D} :
    t_law_3 Z (fin Q E) [u0, u1, u2, u3, u4, u5, u6, u7, u8, u9, u10, u11, u12, u13, u14, u15, u16, u17, u18, u19, u20, u21, u22, u23, u24, u25, u26, u27, u28, u29] S := by
  have e1 : mvAreaO 0 0 0 9998 1 5 3 = some (0, 0, 0, 9998) := by decide
  have e2 : mvAreaO 0 9998 0 9998 1 5 3 = none := by decide
  have e3 : mvAreaO 0 0 701 0 0 0 50 = some (50, 0, 701, 0) := by decide
  refine ⟨_, rfl, ⟨by decide, by decide, by decide, rfl⟩, 5, _, rfl, rfl, ⟨by decide, by decide, by decide, rfl⟩, fun pa hpa => ⟨pa, 0, 0, 0, 9998, rfl, put_same, fun _ => ⟨rfl, pa, 0, 0, 0, 9998, 1, 5, 3, rfl, put_same, fun q => absurd (q.symm.trans e1) (fun z => nomatch z), fun l' t' r' b' e => ⟨fun _ q1 hq1 => ?_, fun q => ?_⟩⟩, fun q => absurd (by decide) q⟩⟩
  rotate_left
  · rw [e1] at e
    cases e
    exact absurd (by decide) q
  rw [e1] at e
  cases e
  refine ⟨_, rfl, ⟨by decide, by decide, by decide, rfl⟩, 5, _, rfl, rfl, ⟨by decide, by decide, by decide, rfl⟩, fun pb hpb => ⟨pb, 0, 9998, 0, 9998, rfl, put_same, fun _ => ⟨rfl, pb, 0, 9998, 0, 9998, 1, 5, 3, rfl, put_same, fun _ => ?_, fun l' t' r' b' e => absurd (e.symm.trans e2) (fun z => nomatch z)⟩, fun q => absurd (by decide) q⟩⟩
  refine ⟨_, rfl, ⟨by decide, by decide, by decide, rfl⟩, 5, _, rfl, rfl, ⟨by decide, by decide, by decide, rfl⟩, fun pc hpc => ⟨pc, 0, 0, 701, 0, rfl, put_same, fun _ => ⟨rfl, pc, 0, 0, 701, 0, 0, 0, 50, rfl, put_same, fun q => absurd (q.symm.trans e3) (fun z => nomatch z), fun l' t' r' b' e => ⟨fun _ q3 hq3 => ?_, fun q => ?_⟩⟩, fun q => absurd (by decide) q⟩⟩
  rotate_left
  · rw [e3] at e
    cases e
    exact absurd (by decide) q
  rw [e3] at e
  cases e
  refine ⟨by show 3 ≤ sizeLine; decide, fun ge hge => ?_⟩
  exact T4 hQ put_same (keep_put (keep_put (keep2 (keep2 put_same hpb) hpc) hq3) hge) (keep_put put_same hge)

theorem T2 {Z : Zt} {Q : QD} {E : XD} {S : DS} (hQ : ∀ S, Q (.bl true) S) {u0 u1 u3 u4 u5 u6 u7 u8 u9 u10 u11 u12 u13 u14 u15 u16 u17 u18 u19 u20 u21 u22 u23 u24 u25 u26 u27 u28 u29 : Option D} {g : Addr} {ds : List D} (hg : S g = some (.lst ds)) (hl : ds.length ≤ 16) (hd : ∀ (i : Nat) (d : D), ds[i]? = some d → ∃ (f : Addr) (j : Nat), d = .ref f ∧ S f = some (.oth (isLam Z j)) ∧ j < 16) :
    t_law_2 Z (fin Q E) [u0, u1, some (.ref g), u3, u4, u5, u6, u7, u8, u9, u10, u11, u12, u13, u14, u15, u16, u17, u18, u19, u20, u21, u22, u23, u24, u25, u26, u27, u28, u29] S := by
  have z2 : 2 ≤ sizeLine := by decide
  refine ⟨_, rfl, _, hg, by rw [sizeLine_eq]; omega, fun i acc S' => acc = [] ∧ S' = S, ⟨rfl, rfl⟩, ?_, ?_, ?_⟩
  · rintro i acc S' ⟨rfl, rfl⟩
    exact hg
  · rintro i d acc S' h ⟨rfl, rfl⟩
    obtain ⟨f, j, rfl, hf, hj⟩ := hd i d h
    refine ⟨_, rfl, ⟨by show 5 ≤ 6; decide, by show 1 ≤ 1; decide, by show 1 ≤ 1 + 0; decide, rfl⟩, _, rfl, f, j, rfl, hf, hj, ?_⟩
    exact ⟨_, Sub.refl _, rfl, rfl⟩
  · rintro acc S' q ⟨rfl, rfl⟩ hq
    refine ⟨by show 0 ≤ sizeLine; decide, fun g2 hg2 => ?_⟩
    refine ⟨_, _, keep_put put_same hg2, put_same, rfl, rfl, ?_⟩
    refine ⟨z2, z2, rfl, rfl, ?_⟩
    refine ite_no (deq_xy 702 9999) ?_
    refine ⟨_, rfl, ⟨by decide, by decide, by decide, rfl⟩, _, rfl, by decide +kernel, ?_⟩
    have e : (spotOf (("a1" : Str)).cps.toList).isSome = false := by decide +kernel
    rw [e]
    exact T3 hQ

theorem T1 {Z : Zt} {Q : QD} {E : XD} {S : DS} (hQ : ∀ S, Q (.bl true) S) {u0 u1 u2 u3 u4 u5 u6 u7 u8 u9 u10 u11 u12 u13 u14 u15 u16 u17 u18 u19 u20 u21 u22 u23 u24 u25 u26 u27 u28 u29 : Option D} :
    t_law_1 Z (fin Q E) [u0, u1, u2, u3, u4, u5, u6, u7, u8, u9, u10, u11, u12, u13, u14, u15, u16, u17, u18, u19, u20, u21, u22, u23, u24, u25, u26, u27, u28, u29] S := by
  refine fun f0 h0 f1 h1 f2 h2 f3 h3 f4 h4 f5 h5 f6 h6 f7 h7 f8 h8 f9 h9 f10 h10 f11 h11 f12 h12 f13 h13 f14 h14 f15 h15 => ?_
  refine ⟨by show 16 ≤ sizeLine; decide, fun g hg => ?_⟩
  refine T2 hQ put_same (Nat.le_refl _) fun i d hd => ?_
  match i, hd with
  | 0, hd => cases hd; exact ⟨f0, 0, rfl, (keep_put (keep_put (keep_put (keep_put (keep_put (keep_put (keep_put (keep_put (keep_put (keep_put (keep_put (keep_put (keep_put (keep_put (keep_put (keep_put put_same h1) h2) h3) h4) h5) h6) h7) h8) h9) h10) h11) h12) h13) h14) h15) hg), by decide⟩
  | 1, hd => cases hd; exact ⟨f1, 1, rfl, (keep_put (keep_put (keep_put (keep_put (keep_put (keep_put (keep_put (keep_put (keep_put (keep_put (keep_put (keep_put (keep_put (keep_put (keep_put put_same h2) h3) h4) h5) h6) h7) h8) h9) h10) h11) h12) h13) h14) h15) hg), by decide⟩
  | 2, hd => cases hd; exact ⟨f2, 2, rfl, (keep_put (keep_put (keep_put (keep_put (keep_put (keep_put (keep_put (keep_put (keep_put (keep_put (keep_put (keep_put (keep_put (keep_put put_same h3) h4) h5) h6) h7) h8) h9) h10) h11) h12) h13) h14) h15) hg), by decide⟩
  | 3, hd => cases hd; exact ⟨f3, 3, rfl, (keep_put (keep_put (keep_put (keep_put (keep_put (keep_put (keep_put (keep_put (keep_put (keep_put (keep_put (keep_put (keep_put put_same h4) h5) h6) h7) h8) h9) h10) h11) h12) h13) h14) h15) hg), by decide⟩
  | 4, hd => cases hd; exact ⟨f4, 4, rfl, (keep_put (keep_put (keep_put (keep_put (keep_put (keep_put (keep_put (keep_put (keep_put (keep_put (keep_put (keep_put put_same h5) h6) h7) h8) h9) h10) h11) h12) h13) h14) h15) hg), by decide⟩
  | 5, hd => cases hd; exact ⟨f5, 5, rfl, (keep_put (keep_put (keep_put (keep_put (keep_put (keep_put (keep_put (keep_put (keep_put (keep_put (keep_put put_same h6) h7) h8) h9) h10) h11) h12) h13) h14) h15) hg), by decide⟩
  | 6, hd => cases hd; exact ⟨f6, 6, rfl, (keep_put (keep_put (keep_put (keep_put (keep_put (keep_put (keep_put (keep_put (keep_put (keep_put put_same h7) h8) h9) h10) h11) h12) h13) h14) h15) hg), by decide⟩
  | 7, hd => cases hd; exact ⟨f7, 7, rfl, (keep_put (keep_put (keep_put (keep_put (keep_put (keep_put (keep_put (keep_put (keep_put put_same h8) h9) h10) h11) h12) h13) h14) h15) hg), by decide⟩
  | 8, hd => cases hd; exact ⟨f8, 8, rfl, (keep_put (keep_put (keep_put (keep_put (keep_put (keep_put (keep_put (keep_put put_same h9) h10) h11) h12) h13) h14) h15) hg), by decide⟩
  | 9, hd => cases hd; exact ⟨f9, 9, rfl, (keep_put (keep_put (keep_put (keep_put (keep_put (keep_put (keep_put put_same h10) h11) h12) h13) h14) h15) hg), by decide⟩
  | 10, hd => cases hd; exact ⟨f10, 10, rfl, (keep_put (keep_put (keep_put (keep_put (keep_put (keep_put put_same h11) h12) h13) h14) h15) hg), by decide⟩
  | 11, hd => cases hd; exact ⟨f11, 11, rfl, (keep_put (keep_put (keep_put (keep_put (keep_put put_same h12) h13) h14) h15) hg), by decide⟩
  | 12, hd => cases hd; exact ⟨f12, 12, rfl, (keep_put (keep_put (keep_put (keep_put put_same h13) h14) h15) hg), by decide⟩
  | 13, hd => cases hd; exact ⟨f13, 13, rfl, (keep_put (keep_put (keep_put put_same h14) h15) hg), by decide⟩
  | 14, hd => cases hd; exact ⟨f14, 14, rfl, (keep_put (keep_put put_same h15) hg), by decide⟩
  | 15, hd => cases hd; exact ⟨f15, 15, rfl, (keep_put put_same hg), by decide⟩
  | n + 16, hd => cases hd

theorem law_read {Z : Zt} : ∀ ds S Q0 E0, sp_law ds S Q0 E0 → t_law_0 Z (fin Q0 E0) (startD ["script", "dice", "bad", "ends", "column", "row", "name", "one", "other", "area", "second", "spots", "y", "first", "last", "label", "mixed", "axis", "at", "many", "low", "high", "goes", "left", "due", "found", "place", "f", "x", "spot"] ds) S := by
  rintro ds S Q E ⟨ns, x, rfl, hx, hQ⟩
  refine ⟨_, rfl, ⟨by decide, by decide, by decide, rfl⟩, _, rfl, ns, x, rfl, hx, fun a b d p q hp hq hpq => ?_⟩
  have hp2 : put (put S p (.lst [.int a, .int b, .int d])) q (.lst [.ref p]) p = some (.lst [.int a, .int b, .int d]) := (put_ne hpq).trans put_same
  refine ⟨[.ref p], put_same, fun i r S' => (i = 0 ∧ r = startD ["script", "dice", "bad", "ends", "column", "row", "name", "one", "other", "area", "second", "spots", "y", "first", "last", "label", "mixed", "axis", "at", "many", "low", "high", "goes", "left", "due", "found", "place", "f", "x", "spot"] [x] ∧ S' = put (put S p (.lst [.int a, .int b, .int d])) q (.lst [.ref p])) ∨ (i = 1 ∧ r.length = 30 ∧ S' q = some (.lst [.ref p])), .inl ⟨rfl, rfl, rfl⟩, ?_, ?_, ?_⟩
  · rintro i r S' (⟨_, _, rfl⟩ | ⟨_, _, h⟩)
    · exact put_same
    · exact h
  · rintro i d' r S' hd (⟨rfl, rfl, rfl⟩ | ⟨rfl, _, h⟩)
    · cases hd
      refine L0 (kq := q) (pk := p) ?_ put_same hp2
      exact fun r S hr hk => ⟨S, Sub.refl _, .inr ⟨rfl, hr, hk⟩⟩
    · cases hd
  · rintro r S' (⟨h, _⟩ | ⟨_, hr, _⟩)
    · cases h
    · match r, hr with
      | [u0, u1, u2, u3, u4, u5, u6, u7, u8, u9, u10, u11, u12, u13, u14, u15, u16, u17, u18, u19, u20, u21, u22, u23, u24, u25, u26, u27, u28, u29], _ => exact T1 hQ

end K02

set_option Elab.async false
set_option linter.all false
set_option maxRecDepth 100000
set_option maxHeartbeats 4000000
namespace K02
open PySem PySem.Spec PyProof.Rows L2 G
theorem ok_column_name {P : Program} {w : World} {K : PySem.W.Frag} {mg : Str → Option Value} {base : Heap} {Z : Zt} {f : Addr} {fd : FuncData} {cdv : Value} (hfn : ∀ i, Z.fn i = fnOf' fnT i) (hlm : ∀ j, Z.lm j = lmT j) (hM : TxOk P w K mg base Z tx (M0 Z)) (F : FunC K "column_name" "column_name" s_column_name f fd cdv .none) : FnD P w K mg base Z 1 f (e_column_name) := by
  have nd := sc_column_name.nd
  refine FnD.mk0 (ps := ["column"]) (fn_bodyC F sc_column_name (fun ds S Q E h => ?len) _ (fun A outer s H E hr => (pdss_cons (pds_if (pdt_not (pdt_chain pd_int (pdcht_c od_le (pd_var 0) (pdcht_1 od_lt (pd_glob hM 2 (by rfl) (by rfl)))))) (pdss_one (pds_raise hM 0 (by rfl) (by rfl) (by rfl))) pdss_nil)
    (pdss_cons (pds_if (pdt_cmp od_lt (pd_var 0) pd_int) (pdss_one (pds_ret (pd_ix (pd_glob hM 0 (by rfl) (by rfl)) (pd_var 0)))) pdss_nil)
    (pdss_one (pds_ret (pd_op od_add (pd_ix (pd_glob hM 0 (by rfl) (by rfl)) (pd_op od_sub (pd_op od_div (pd_var 0) pd_int) pd_int)) (pd_ix (pd_glob hM 0 (by rfl) (by rfl)) (pd_op od_sub (pd_var 0) (pd_op od_mul (pd_op od_div (pd_var 0) pd_int) pd_int))))))))) (fun ds S Q E h => ?hb)) rfl rfl (F.binds fun _ _ _ _ _ _ us hl => match us, hl with | [_], _ => rfl)
  case len => obtain ⟨_, rfl, _⟩ := h; rfl
  case hb =>
    obtain ⟨c, rfl, h1, h2⟩ := h
    refine ⟨_, rfl, ?_⟩
    refine itd (fun h0 => ?_) (fun h0 => ⟨_, Sub.refl _, h2 (by omega)⟩)
    refine itn (fun h3 => ⟨_, Sub.refl _, h2 (by omega)⟩) (fun h3 => ?_)
    refine ⟨_, rfl, ?_⟩
    refine itd (fun h4 => ?_) (fun h4 => ?_)
    · refine ⟨_, rfl, (by decide), _, atLETi h0 h4, _, Sub.refl _, ?_⟩
      have q := h1 ⟨h0, h3⟩
      unfold colName colL at q
      rw [if_pos h4] at q
      exact q
    · refine ⟨_, rfl, div26, ?_⟩
      rw [fdiv26]
      refine ⟨by decide, _, atLETi (by omega) (by omega), _, rfl, _, rfl, div26, mulR (by decide), ?_⟩
      rw [fdiv26]
      refine ⟨by decide, _, atLETi (by omega) (by omega), ?_⟩
      refine ⟨by show 1 + 1 ≤ sizeLine; decide, _, Sub.refl _, ?_⟩
      have q := h1 ⟨h0, h3⟩
      unfold colName colL at q
      rw [if_neg h4, show c % 26 = c - c / 26 * 26 by omega] at q
      exact q

theorem ok_column_number {P : Program} {w : World} {K : PySem.W.Frag} {mg : Str → Option Value} {base : Heap} {Z : Zt} {f : Addr} {fd : FuncData} {cdv : Value} (hfn : ∀ i, Z.fn i = fnOf' fnT i) (hlm : ∀ j, Z.lm j = lmT j) (hM : TxOk P w K mg base Z tx (M1 Z)) (F : FunC K "column_number" "column_number" s_column_number f fd cdv .none) {cA PA : Addr} (hcd : cdv = .ref cA) (hTB : GxR.TabB base mg cA PA) (hTm : PA ∈ Z.T) (hTn : ∀ p ∈ Z.TL, p.1 ≠ PA) {tz : Tok} (hLET : mg "LETTERS" = some (.str "ABCDEFGHIJKLMNOPQRSTUVWXYZ" tz)) : FnD P w K mg base Z 1 f (e_column_number) := by
  have nd := sc_column_number.nd
  have T : ∀ (A : Around) (outer : List Env) (s : Shared) (H : Hp) (E : XK), TabD (cxOf (L2.CX P w) P w K mg base ["name", "found", "sign"] "column_number" (defScope s_column_number) f cdv A outer s H E) Z cA PA := fun A outer s H E => ⟨hTB, hcd, hTm, hTn⟩
  refine FnD.mk0 (ps := ["name"]) (fn_bodyC F sc_column_number (fun ds S Q E h => ?len) _ (fun A outer s H E hr => (pdss_cons (pds_if (PDW.pt (pdw_or (pdt_not (pdt_chain pd_int (pdcht_c od_lt (pd_bi hM cd_len 0 (by rfl) (by rfl) bt_len (pda_cons (pd_var 0) pda_nil)) (pdcht_1 od_le pd_int)))) (pdw_or1 (pdt_tru (pd_anyG hM 1 (by rfl) hr (by rfl) (T A outer s H E) (genS_by (by decide +kernel)) (pd_var 0) (elt_notIn_glob hLET rfl rfl rfl)))))) (pdss_one (pds_raise hM 0 (by rfl) (by rfl) (by rfl))) pdss_nil)
    (pdss_cons (pds_set nd (i := 1) pd_int)
    (pdss_cons (pds_for (passes_of rfl) (by rfl) (pdi_any (pd_var 0)) (pdg_name nd (i := 2)) (pdss_one (pds_set nd (i := 1) (pd_op od_add (pd_op od_add (pd_op od_mul (pd_var 1) pd_int) (pd_sm PySem.F.slot_str_index PySem.F.type_str_index md_sindex (pd_glob hM 0 (by rfl) (by rfl)) (pda_cons (pd_var 2) pda_nil))) pd_int))))
    (pdss_one (pds_ret (pd_op od_sub (pd_var 1) pd_int))))))) (fun ds S Q E h => ?hb)) rfl rfl (F.binds fun _ _ _ _ _ _ us hl => match us, hl with | [_], _ => rfl)
  case len => obtain ⟨_, rfl, _⟩ := h; rfl
  case hb =>
    obtain ⟨z, rfl, hz, h1, h2⟩ := h
    have hl := slen z
    have bad : ∀ {A : Prop}, colOk z.cps.toList = false → (E 0 S → A) → A := fun h k => k (h2 h)
    have hs : z.length ≤ sizeLine := by rw [sizeLine_eq]; omega
    refine ⟨_, rfl, hs, ?_⟩
    refine itd (fun h0 => ?_) (fun h0 => ⟨_, Sub.refl _, h2 ?_⟩)
    rotate_left
    · unfold colOk
      rw [decide_eq_false (by omega)]
      rfl
    refine itn (fun h3 => ⟨_, Sub.refl _, h2 ?_⟩) (fun h3 => ?_)
    · unfold colOk
      rw [decide_eq_false (by omega : ¬ z.cps.toList.length ≤ 2)]
      simp
    refine ⟨_, rfl, ?_⟩
    refine itb (fun h4 => ⟨_, Sub.refl _, h2 ?_⟩) (fun h4 => ?_)
    · unfold colOk
      rw [show (z.cps.toList.any fun c => !decide (c ∈ LETz.cps.toList)) = true from h4]
      simp
    have hok : colOk z.cps.toList = true := by
      unfold colOk
      rw [show (z.cps.toList.any fun c => !decide (c ∈ LETz.cps.toList)) = false from h4, decide_eq_true (by omega : 0 < z.cps.toList.length), decide_eq_true (by omega : z.cps.toList.length ≤ 2)]
      rfl
    have hm : ∀ c, c ∈ z.cps.toList → c ∈ LETz.cps.toList := fun c hc => by
      have q : ¬ ((!decide (c ∈ LETz.cps.toList)) = true) := List.any_eq_false.mp h4 c hc
      by_cases hx : c ∈ LETz.cps.toList
      · exact hx
      · rw [decide_eq_false hx] at q
        exact absurd rfl q
    refine ⟨_, rfl, fun i r S' => (∃ o, r = [some (.str z), some (.int (colFold (z.cps.toList.take i))), o]) ∧ S' = S, ⟨⟨_, rfl⟩, rfl⟩, fun _ _ _ _ => trivial, ?_, ?_⟩
    · rintro i d r S' hd ⟨⟨o, rfl⟩, rfl⟩
      obtain ⟨c, hc, rfl⟩ := sign_at hd
      have hcL := hm c (List.mem_of_getElem? hc)
      refine ⟨_, rfl, mulR (by decide), ⟨_, rfl⟩, _, rfl, _, _, occLET hcL, ?_⟩
      refine ⟨_, Sub.refl _, ⟨some (.str ⟨#[c]⟩), ?_⟩, rfl⟩
      rw [colFold_step hc]
      rfl
    · rintro r S' ⟨⟨o, rfl⟩, rfl⟩
      refine ⟨_, rfl, _, Sub.refl _, ?_⟩
      have q := h1 hok
      unfold colNum at q
      rw [signs_len, List.take_length]
      exact q

theorem ok_spot_name {P : Program} {w : World} {K : PySem.W.Frag} {mg : Str → Option Value} {base : Heap} {Z : Zt} {f : Addr} {fd : FuncData} {cdv : Value} (hfn : ∀ i, Z.fn i = fnOf' fnT i) (hlm : ∀ j, Z.lm j = lmT j) (hM : TxOk P w K mg base Z tx (M2 Z)) (F : FunC K "spot_name" "spot_name" s_spot_name f fd cdv .none) : FnD P w K mg base Z 2 f (e_spot_name) := by
  have nd := sc_spot_name.nd
  refine FnD.mk0 (ps := ["spot"]) (fn_bodyC F sc_spot_name (fun ds S Q E h => ?len) _ (fun A outer s H E hr => (pdss_cons (pds_if (pdt_not (pdt_chain pd_int (pdcht_c od_le (pd_ix (pd_var 0) pd_int) (pdcht_1 od_lt (pd_glob hM 3 (by rfl) (by rfl)))))) (pdss_one (pds_raise hM 0 (by rfl) (by rfl) (by rfl))) pdss_nil)
    (pdss_one (pds_ret (pd_op od_add (pd_call hM hr 0 1 (by rfl) (by rfl) (pda_cons (pd_ix (pd_var 0) pd_int) pda_nil)) (pd_ty hM cd_str 2 (by rfl) (by rfl) bt_str (pda_cons (pd_op od_add (pd_ix (pd_var 0) pd_int) pd_int) pda_nil))))))) (fun ds S Q E h => ?hb)) rfl rfl (F.binds fun _ _ _ _ _ _ us hl => match us, hl with | [_], _ => rfl)
  case len => obtain ⟨_, _, rfl, _⟩ := h; rfl
  case hb =>
    obtain ⟨x, y, rfl, h1, h2⟩ := h
    refine ⟨_, rfl, _, rfl, ?_⟩
    refine itd (fun h0 => ?_) (fun h0 => ⟨_, Sub.refl _, h2 (by omega)⟩)
    refine itn (fun h3 => ⟨_, Sub.refl _, h2 (by omega)⟩) (fun h3 => ?_)
    refine ⟨_, rfl, ⟨by decide, by decide, by decide, rfl⟩, _, rfl, _, rfl, x, rfl, fun hx => ?_, fun hx => ⟨_, Sub.refl _, h2 (by omega)⟩⟩
    refine ⟨_, rfl, _, rfl, log2_of_lt (by omega : (y + 1).natAbs < 2 ^ 64) (by decide) |> fun q => Nat.lt_trans q (by decide), ?_⟩
    have q := h1 ⟨hx.1, hx.2, h0, h3⟩
    have e : Str.ofString (toString (y + 1)) = ⟨(natD (y + 1).toNat).toArray⟩ := toString_int (by omega)
    have hl : (natD (y + 1).toNat).length ≤ 4 := natD_len 3 _ (by omega)
    have hc : (colL x).length ≤ 2 := by unfold colL; split <;> simp
    refine ⟨?_, _, Sub.refl _, ?_⟩
    · rw [e]
      show (colL x).length + (natD (y + 1).toNat).length ≤ sizeLine
      rw [sizeLine_eq]
      omega
    · rw [e]
      unfold colName
      rw [cat_mk]
      exact q

theorem ok_spot_of {P : Program} {w : World} {K : PySem.W.Frag} {mg : Str → Option Value} {base : Heap} {Z : Zt} {f : Addr} {fd : FuncData} {cdv : Value} (hfn : ∀ i, Z.fn i = fnOf' fnT i) (hlm : ∀ j, Z.lm j = lmT j) (hM : TxOk P w K mg base Z tx (M3 Z)) (F : FunC K "spot_of" "spot_of" s_spot_of f fd cdv .none) {cA PA : Addr} (hcd : cdv = .ref cA) (hTB : GxR.TabB base mg cA PA) (hTm : PA ∈ Z.T) (hTn : ∀ p ∈ Z.TL, p.1 ≠ PA) {tz : Tok} (hFIG : mg "FIGURES" = some (.str "0123456789" tz)) : FnD P w K mg base Z 2 f (e_spot_of) := by
  have nd := sc_spot_of.nd
  have T : ∀ (A : Around) (outer : List Env) (s : Shared) (H : Hp) (E : XK), TabD (cxOf (L2.CX P w) P w K mg base ["name", "many", "figures"] "spot_of" (defScope s_spot_of) f cdv A outer s H E) Z cA PA := fun A outer s H E => ⟨hTB, hcd, hTm, hTn⟩
  refine FnD.mk0 (ps := ["name"]) (fn_bodyC F sc_spot_of (fun ds S Q E h => ?len) _ (fun A outer s H E hr => (pdss_cons (pds_set nd (i := 1) pd_int)
    (pdss_cons (pds_while (sts := []) (passes_of rfl) (PDW.pt (pdw_and (pdt_cmp od_lt (pd_var 1) (pd_bi hM cd_len 0 (by rfl) (by rfl) bt_len (pda_cons (pd_var 0) pda_nil))) (pdw_and1 (pdt_cmp od_in (pd_ix (pd_var 0) (pd_var 1)) (pd_glob hM 0 (by rfl) (by rfl)))))) (pdss_one (pds_aug nd (i := 1) pd_int id_add)))
    (pdss_cons (pds_set nd (i := 2) (pd_slice (pd_var 0) (pdo_some (pd_var 1)) pdo_none))
    (pdss_cons (pds_if (PDW.pt (pdw_or (pdt_not (pdt_chain pd_int (pdcht_c od_lt (pd_bi hM cd_len 0 (by rfl) (by rfl) bt_len (pda_cons (pd_var 2) pda_nil)) (pdcht_1 od_le pd_int)))) (pdw_or (pdt_cmp (od_eq (hu64 hr)) (pd_ix (pd_var 2) pd_int) pd_str) (pdw_or1 (pdt_tru (pd_anyG hM 1 (by rfl) hr (by rfl) (T A outer s H E) (genS_by (by decide +kernel)) (pd_var 2) (elt_notIn_glob hFIG rfl rfl rfl))))))) (pdss_one (pds_raise hM 0 (by rfl) (by rfl) (by rfl))) pdss_nil)
    (pdss_one (pds_ret (pd_tup (pda_cons (pd_call hM hr 1 1 (by rfl) (by rfl) (pda_cons (pd_slice (pd_var 0) pdo_none (pdo_some (pd_var 1))) pda_nil)) (pda_cons (pd_op od_sub (pd_ty hM cd_int 3 (by rfl) (by rfl) bt_int (pda_cons (pd_var 2) pda_nil)) pd_int) pda_nil)))))))))) (fun ds S Q E h => ?hb)) rfl rfl (F.binds fun _ _ _ _ _ _ us hl => match us, hl with | [_], _ => rfl)
  case len => obtain ⟨_, rfl, _⟩ := h; rfl
  case hb =>
    obtain ⟨z, rfl, hz, h1, h2⟩ := h
    have hl := slen z
    have hs : z.length ≤ sizeLine := by rw [sizeLine_eq]; omega
    have hle := lead_le z.cps.toList
    refine ⟨fun m r S' => ∃ k : Nat, m + k = z.length ∧ k ≤ lead z.cps.toList ∧ r = [some (.str z), some (.int (k : Int)), none] ∧ S' = S, ⟨z.length, 0, rfl, Nat.zero_le _, rfl, rfl⟩, ?_⟩
    rintro m r S' ⟨k, hm, hk, rfl, rfl⟩
    have stop : k = lead z.cps.toList → dSeq (dAsg (dSl (dVar 0) (dPart (dVar 1)) dNoPart) (gN 2)) (dSeq (dIfS (dOr (dNot (dTest (dChain (dC (.int 0)) (dChC opLt (dBi rLen (dCons (dVar 2) dNil)) (dCh1 opLe (dC (.int 4))))))) (dOr (dTest (dOp opEq (dOp opIx (dVar 2) (dC (.int 0))) (dC (.str "0")))) (dTru (dAnyS (fun c => !decide (c ∈ FIGz.cps.toList)) (dVar 2))))) (dRaise 0) dNext) (dRet (dTup (dCons (dCall (M3 Z) 1 1 1 (dCons (dSl (dVar 0) dNoPart (dPart (dVar 1))) dNil)) (dCons (dOp opSub (dBi rInt (dCons (dVar 2) dNil)) (dC (.int 1))) dNil))))) (fin Q E) [some (.str z), some (.int (k : Int)), none] S' := fun e => ?stop
    case stop =>
      subst e
      refine ⟨_, rfl, _, rfl, hs, ?_⟩
      rw [cutS_from (by omega)]
      have hfl : ((⟨(z.cps.toList.drop (lead z.cps.toList)).toArray⟩ : Str)).length = (z.cps.toList.drop (lead z.cps.toList)).length := len_mk _
      have hf2 := List.length_drop (l := z.cps.toList) (i := lead z.cps.toList)
      generalize hF : z.cps.toList.drop (lead z.cps.toList) = F at *
      have no : figOk F = false → E 0 S' := fun q => h2 (by unfold spotOf; rw [hF, q]; rfl)
      refine ⟨_, rfl, by rw [hfl, sizeLine_eq]; omega, ?_⟩
      refine itd (fun h3 => ?_) (fun h3 => ⟨_, Sub.refl _, no ?_⟩)
      rotate_left
      · unfold figOk
        rw [decide_eq_false (by omega)]
        rfl
      refine itn (fun h4 => ⟨_, Sub.refl _, no ?_⟩) (fun h4 => ?_)
      · unfold figOk
        rw [decide_eq_false (by omega : ¬ F.length ≤ 4)]
        simp
      cases F with
      | nil => simp at hfl; omega
      | cons f0 fr =>
        refine ⟨_, rfl, by rw [hfl, sizeLine_eq]; omega, f0, L2.atI_nat (j := 0) (by simp), ?_⟩
        refine itd (fun h5 => ⟨_, Sub.refl _, no ?_⟩) (fun h5 => ?_)
        · have e : f0 = 48 := by
            have := SX.S_inj (a := [f0]) (b := [48]) h5
            simpa using this
          subst e
          unfold figOk
          simp
        refine ⟨_, rfl, ?_⟩
        refine itb (fun h6 => ⟨_, Sub.refl _, no ?_⟩) (fun h6 => ?_)
        · unfold figOk
          rw [show ((f0 :: fr).any fun c => !decide (c ∈ FIGz.cps.toList)) = true from h6]
          simp
        have hok : figOk (f0 :: fr) = true := by
          unfold figOk
          have h7 : ¬ f0 = 48 := fun e => h5 (by rw [e]; rfl)
          rw [show ((f0 :: fr).any fun c => !decide (c ∈ FIGz.cps.toList)) = false from h6, decide_eq_true (by omega : 0 < (f0 :: fr).length), decide_eq_true (by omega : (f0 :: fr).length ≤ 4), decide_eq_false (by simp [h7])]
          rfl
        obtain ⟨_, _, _, hdg⟩ := figOk_of hok
        refine ⟨_, rfl, ⟨by decide, by decide, by decide, rfl⟩, _, rfl, _, rfl, hs, ?_⟩
        rw [cutS_to (by omega)]
        refine ⟨_, rfl, by rw [len_mk, List.length_take]; omega, fun hc => ?_, fun hc => ⟨_, Sub.refl _, h2 ?_⟩⟩
        · refine ⟨_, rfl, _, NumText.intText_digits' hdg (by omega), by rw [hfl]; omega, by show 2 ≤ sizeLine; decide, _, Sub.refl _, ?_⟩
          exact h1 _ _ (by unfold spotOf; rw [hF, hok, hc]; rfl)
        · unfold spotOf
          rw [hF, hok, show colOk (z.cps.toList.take (lead z.cps.toList)) = false from hc]
          rfl
    refine ⟨_, rfl, _, rfl, hs, ?_⟩
    refine itd (fun h3 => ?_) (fun h3 => stop (by omega))
    have hc : z.cps.toList[k]? = some z.cps.toList[k] := List.getElem?_eq_getElem (by omega)
    have st := lead_step _ k _ hk hc
    refine ⟨_, rfl, _, rfl, hs, _, L2.atI_nat hc, _, rfl, ?_⟩
    refine itd (fun h4 => ?_) (fun h4 => stop ?_)
    · rw [if_pos (isLet_mem.mpr h4)] at st
      exact ⟨_, rfl, _, m - 1, Sub.refl _, by omega, k + 1, by omega, st, rfl, rfl⟩
    · rw [if_neg (fun q => h4 (isLet_mem.mp q))] at st
      exact st

theorem ok_is_spot_name {P : Program} {w : World} {K : PySem.W.Frag} {mg : Str → Option Value} {base : Heap} {Z : Zt} {f : Addr} {fd : FuncData} {cdv : Value} (hfn : ∀ i, Z.fn i = fnOf' fnT i) (hlm : ∀ j, Z.lm j = lmT j) (hM : TxOk P w K mg base Z tx (M4 Z)) (F : FunC K "is_spot_name" "is_spot_name" s_is_spot_name f fd cdv .none) : FnD P w K mg base Z 3 f (e_is_spot_name) := by
  have nd := sc_is_spot_name.nd
  refine FnD.mk0 (ps := ["text"]) (fn_bodyC F sc_is_spot_name (fun ds S Q E h => ?len) _ (fun A outer s H E hr => (pdss_cons (pds_try hM 0 (by rfl) (by rfl) (fun pn xe hp => (pdss_one (pds_expr (pd_call hM hr 3 1 (by rfl) (by rfl) (pda_cons (pd_var 0) pda_nil))))) (fun a oe pn => (pdss_one (pds_ret pd_bl))))
    (pdss_one (pds_ret pd_bl)))) (fun ds S Q E h => ?hb)) rfl rfl (F.binds fun _ _ _ _ _ _ us hl => match us, hl with | [_], _ => rfl)
  case len => obtain ⟨_, rfl, _⟩ := h; rfl
  case hb =>
    obtain ⟨z, rfl, hz, h1⟩ := h
    refine ⟨_, rfl, ⟨by decide, by decide, by decide, rfl⟩, _, rfl, z, rfl, hz, fun x y h => ?_, fun h => ⟨true, rfl, fun _ => ⟨_, Sub.refl _, ?_⟩, fun h => nomatch h⟩⟩
    · rw [h] at h1
      exact ⟨_, Sub.refl _, h1⟩
    · rw [h] at h1
      exact h1

theorem ok_Area___init__ {P : Program} {w : World} {K : PySem.W.Frag} {mg : Str → Option Value} {base : Heap} {Z : Zt} {f : Addr} {fd : FuncData} {cdv : Value} (hfn : ∀ i, Z.fn i = fnOf' fnT i) (hlm : ∀ j, Z.lm j = lmT j) (hM : TxOk P w K mg base Z tx (M5 Z)) (F : FunC K "__init__" "Area.__init__" s_Area___init__ f fd cdv .none) : FnD P w K mg base Z 1 f (e_Area___init__) := by
  have nd := sc_Area___init__.nd
  refine FnD.mk0 (ps := ["self", "left", "top", "right", "bottom"]) (fn_bodyC F sc_Area___init__ (fun ds S Q E h => ?len) _ (fun A outer s H E hr => (pdss_cons (pds_if (PDW.pt (pdw_or (pdt_not (pdt_chain pd_int (pdcht_c od_le (pd_var 1) (pdcht_c od_le (pd_var 3) (pdcht_1 od_lt (pd_glob hM 2 (by rfl) (by rfl))))))) (pdw_or1 (pdt_not (pdt_chain pd_int (pdcht_c od_le (pd_var 2) (pdcht_c od_le (pd_var 4) (pdcht_1 od_lt (pd_glob hM 3 (by rfl) (by rfl)))))))))) (pdss_one (pds_raise hM 0 (by rfl) (by rfl) (by rfl))) pdss_nil)
    (pdss_cons (pds_fld hM 0 ((hfn 0).trans rfl) (pd_var 0) (pd_var 1))
    (pdss_cons (pds_fld hM 1 ((hfn 1).trans rfl) (pd_var 0) (pd_var 2))
    (pdss_cons (pds_fld hM 2 ((hfn 2).trans rfl) (pd_var 0) (pd_var 3))
    (pdss_one (pds_fld hM 3 ((hfn 3).trans rfl) (pd_var 0) (pd_var 4)))))))) (fun ds S Q E h => ?hb)) rfl rfl (F.binds fun _ _ _ _ _ _ us hl => match us, hl with | [_, _, _, _, _], _ => rfl)
  case len => obtain ⟨_, _, _, _, _, rfl, _⟩ := h; rfl
  case hb =>
    obtain ⟨p, l, t, r, b, rfl, hp, h1, h2⟩ := h
    have no : ¬ areaOk l t r b → E 0 S := h2
    refine ⟨_, rfl, ?_⟩
    refine itd (fun c1 => ?_) (fun c1 => ⟨_, Sub.refl _, no fun q => c1 q.1⟩)
    refine ⟨_, rfl, ?_⟩
    refine itd (fun c2 => ?_) (fun c2 => ⟨_, Sub.refl _, no fun q => c2 q.2.1⟩)
    refine itn (fun c3 => ⟨_, Sub.refl _, no fun q => c3 q.2.2.1⟩) (fun c3 => ?_)
    refine ⟨_, rfl, ?_⟩
    refine itd (fun c4 => ?_) (fun c4 => ⟨_, Sub.refl _, no fun q => c4 q.2.2.2.1⟩)
    refine ⟨_, rfl, ?_⟩
    refine itd (fun c5 => ?_) (fun c5 => ⟨_, Sub.refl _, no fun q => c5 q.2.2.2.2.1⟩)
    refine itn (fun c6 => ⟨_, Sub.refl _, no fun q => c6 q.2.2.2.2.2⟩) (fun c6 => ?_)
    refine ⟨_, rfl, _, rfl, _, _, _, rfl, hp, rfl, by decide, ?_⟩
    refine ⟨_, rfl, _, rfl, _, _, _, rfl, put_same, rfl, by show 1 < 900; decide, ?_⟩
    refine ⟨_, rfl, _, rfl, _, _, _, rfl, put_same, rfl, by show 2 < 900; decide, ?_⟩
    refine ⟨_, rfl, _, rfl, _, _, _, rfl, put_same, rfl, by show 3 < 900; decide, ?_⟩
    refine ⟨_, Sub.refl _, ?_⟩
    rw [put_put, put_put, put_put]
    exact h1 ⟨c1, c2, c3, c4, c5, c6⟩

theorem ok_Area_shown {P : Program} {w : World} {K : PySem.W.Frag} {mg : Str → Option Value} {base : Heap} {Z : Zt} {f : Addr} {fd : FuncData} {cdv : Value} (hfn : ∀ i, Z.fn i = fnOf' fnT i) (hlm : ∀ j, Z.lm j = lmT j) (hM : TxOk P w K mg base Z tx (M6 Z)) (F : FunC K "shown" "Area.shown" s_Area_shown f fd cdv .none) : FnD P w K mg base Z 1 f (e_Area_shown) := by
  have nd := sc_Area_shown.nd
  refine FnD.mk0 (ps := ["self"]) (fn_bodyC F sc_Area_shown (fun ds S Q E h => ?len) _ (fun A outer s H E hr => (pdss_one (pds_ret (pd_tup (pda_cons (pd_fld hM 0 ((hfn 0).trans rfl) (pd_var 0)) (pda_cons (pd_fld hM 1 ((hfn 1).trans rfl) (pd_var 0)) (pda_cons (pd_fld hM 2 ((hfn 2).trans rfl) (pd_var 0)) (pda_cons (pd_fld hM 3 ((hfn 3).trans rfl) (pd_var 0)) pda_nil)))))))) (fun ds S Q E h => ?hb)) rfl rfl (F.binds fun _ _ _ _ _ _ us hl => match us, hl with | [_], _ => rfl)
  case len => obtain ⟨_, _, _, _, _, rfl, _⟩ := h; rfl
  case hb =>
    obtain ⟨p, l, t, r, b, rfl, hp, h1⟩ := h
    exact ⟨_, rfl, _, _, _, _, rfl, hp, rfl, rfl, _, rfl, _, _, _, _, rfl, hp, rfl, rfl, _, rfl, _, _, _, _, rfl, hp, rfl, rfl, _, rfl, _, _, _, _, rfl, hp, rfl, rfl, by show 4 ≤ sizeLine; decide, _, Sub.refl _, h1⟩

theorem ok_Area_size {P : Program} {w : World} {K : PySem.W.Frag} {mg : Str → Option Value} {base : Heap} {Z : Zt} {f : Addr} {fd : FuncData} {cdv : Value} (hfn : ∀ i, Z.fn i = fnOf' fnT i) (hlm : ∀ j, Z.lm j = lmT j) (hM : TxOk P w K mg base Z tx (M7 Z)) (F : FunC K "size" "Area.size" s_Area_size f fd cdv .none) : FnD P w K mg base Z 1 f (e_Area_size) := by
  have nd := sc_Area_size.nd
  refine FnD.mk0 (ps := ["self"]) (fn_bodyC F sc_Area_size (fun ds S Q E h => ?len) _ (fun A outer s H E hr => (pdss_one (pds_ret (pd_tup (pda_cons (pd_op od_add (pd_op od_sub (pd_fld hM 2 ((hfn 2).trans rfl) (pd_var 0)) (pd_fld hM 0 ((hfn 0).trans rfl) (pd_var 0))) pd_int) (pda_cons (pd_op od_add (pd_op od_sub (pd_fld hM 3 ((hfn 3).trans rfl) (pd_var 0)) (pd_fld hM 1 ((hfn 1).trans rfl) (pd_var 0))) pd_int) pda_nil)))))) (fun ds S Q E h => ?hb)) rfl rfl (F.binds fun _ _ _ _ _ _ us hl => match us, hl with | [_], _ => rfl)
  case len => obtain ⟨_, _, _, _, _, rfl, _⟩ := h; rfl
  case hb =>
    obtain ⟨p, l, t, r, b, rfl, hp, h1⟩ := h
    exact ⟨_, rfl, _, _, _, _, rfl, hp, rfl, rfl, _, rfl, _, _, _, _, rfl, hp, rfl, rfl, _, rfl, _, _, _, _, rfl, hp, rfl, rfl, _, rfl, _, _, _, _, rfl, hp, rfl, rfl, by show 2 ≤ sizeLine; decide, _, Sub.refl _, h1⟩

theorem ok_Area_holds {P : Program} {w : World} {K : PySem.W.Frag} {mg : Str → Option Value} {base : Heap} {Z : Zt} {f : Addr} {fd : FuncData} {cdv : Value} (hfn : ∀ i, Z.fn i = fnOf' fnT i) (hlm : ∀ j, Z.lm j = lmT j) (hM : TxOk P w K mg base Z tx (M8 Z)) (F : FunC K "holds" "Area.holds" s_Area_holds f fd cdv .none) : FnD P w K mg base Z 1 f (e_Area_holds) := by
  have nd := sc_Area_holds.nd
  refine FnD.mk0 (ps := ["self", "spot"]) (fn_bodyC F sc_Area_holds (fun ds S Q E h => ?len) _ (fun A outer s H E hr => (pdss_one (pds_ret (pd_and (pd_chain (pd_fld hM 0 ((hfn 0).trans rfl) (pd_var 0)) (pdch_c od_le (pd_ix (pd_var 1) pd_int) (pdch_1 od_le (pd_fld hM 2 ((hfn 2).trans rfl) (pd_var 0))))) (pd_one (pd_chain (pd_fld hM 1 ((hfn 1).trans rfl) (pd_var 0)) (pdch_c od_le (pd_ix (pd_var 1) pd_int) (pdch_1 od_le (pd_fld hM 3 ((hfn 3).trans rfl) (pd_var 0)))))))))) (fun ds S Q E h => ?hb)) rfl rfl (F.binds fun _ _ _ _ _ _ us hl => match us, hl with | [_, _], _ => rfl)
  case len => obtain ⟨_, _, _, _, _, _, _, rfl, _⟩ := h; rfl
  case hb =>
    obtain ⟨p, l, t, r, b, x, y, rfl, hp, h1⟩ := h
    have no : ¬ (l ≤ x ∧ x ≤ r ∧ t ≤ y ∧ y ≤ b) → Q (.bl false) S := fun q => by rw [decide_eq_false q] at h1; exact h1
    have yes : (l ≤ x ∧ x ≤ r ∧ t ≤ y ∧ y ≤ b) → Q (.bl true) S := fun q => by rw [decide_eq_true q] at h1; exact h1
    refine ⟨_, rfl, _, _, _, _, rfl, hp, rfl, rfl, _, rfl, _, rfl, ?_⟩
    refine itd (fun c1 => ?_) (fun c1 => ⟨_, Sub.refl _, no fun q => c1 q.1⟩)
    refine ⟨_, rfl, _, _, _, _, rfl, hp, rfl, rfl, ?_⟩
    refine itd (fun c2 => ?_) (fun c2 => ⟨_, Sub.refl _, by rw [decide_eq_false c2]; exact no fun q => c2 q.2.1⟩)
    refine ⟨_, rfl, _, _, _, _, rfl, hp, rfl, rfl, _, rfl, _, rfl, ?_⟩
    refine itd (fun c3 => ?_) (fun c3 => ⟨_, Sub.refl _, no fun q => c3 q.2.2.1⟩)
    refine ⟨_, rfl, _, _, _, _, rfl, hp, rfl, rfl, ?_⟩
    refine ⟨_, Sub.refl _, ?_⟩
    by_cases c4 : y ≤ b
    · rw [decide_eq_true c4]; exact yes ⟨c1, c2, c3, c4⟩
    · rw [decide_eq_false c4]; exact no fun q => c4 q.2.2.2

theorem ok_Area_spots {P : Program} {w : World} {K : PySem.W.Frag} {mg : Str → Option Value} {base : Heap} {Z : Zt} {f : Addr} {fd : FuncData} {cdv : Value} (hfn : ∀ i, Z.fn i = fnOf' fnT i) (hlm : ∀ j, Z.lm j = lmT j) (hM : TxOk P w K mg base Z tx (M9 Z)) (F : FunC K "spots" "Area.spots" s_Area_spots f fd cdv .none) : FnD P w K mg base Z 1 f (e_Area_spots) := by
  have nd := sc_Area_spots.nd
  refine FnD.mk0 (ps := ["self"]) (fn_bodyC F sc_Area_spots (fun ds S Q E h => ?len) _ (fun A outer s H E hr => (pdss_cons (pds_set nd (i := 1) (pd_listRg2 hM (by rfl) 5 4 (by rfl) (by rfl) (by rfl) (by rfl) (pd_fld hM 0 ((hfn 0).trans rfl) (pd_var 0)) (pd_op od_add (pd_fld hM 2 ((hfn 2).trans rfl) (pd_var 0)) pd_int)))
    (pdss_one (pds_ret (pd_lc2 (vs1 := [3]) (by rfl) nd (pdi_range2 hM 4 (by rfl) (pda_cons (pd_fld hM 1 ((hfn 1).trans rfl) (pd_var 0)) (pda_cons (pd_op od_add (pd_fld hM 3 ((hfn 3).trans rfl) (pd_var 0)) pd_int) pda_nil))) [("row", 2), ("column", 3)] (blkOk_by (by with_unfolding_all rfl)) (by decide) (by decide) (by decide) (fun _ _ _ _ _ => (pdg_name nd (i := 2))) (fun _ _ _ _ _ => pdts_nil) (fun _ _ _ _ _ => (pdi_any (pd_var 1))) (fun _ _ _ _ _ => (pdg_name nd (i := 3))) (fun _ _ _ _ _ => pdts_nil) (fun _ _ _ _ _ => (pd_tup (pda_cons (pd_var 3) (pda_cons (pd_var 2) pda_nil))))))))) (fun ds S Q E h => ?hb)) rfl rfl (F.binds fun _ _ _ _ _ _ us hl => match us, hl with | [_], _ => rfl)
  case len => obtain ⟨_, _, _, _, _, rfl, _⟩ := h; rfl
  case hb =>
    obtain ⟨p, l, t, r, b, rfl, hp, hok, hw, hh, h1⟩ := h
    obtain ⟨c1, c2, c3, c4, c5, c6⟩ := hok
    refine ⟨_, rfl, _, _, _, _, rfl, hp, rfl, rfl, _, rfl, _, _, _, _, rfl, hp, rfl, rfl, ?_⟩
    refine ⟨⟨by omega, by omega⟩, ⟨by omega, by omega⟩, by omega, fun q hq => ?_⟩
    have hp' := keep_put (u := .lst (rngD l (r + 1 - l).toNat)) hp hq
    refine ⟨_, rfl, _, _, _, _, rfl, hp', rfl, rfl, _, rfl, _, _, _, _, rfl, hp', rfl, rfl, ?_⟩
    refine ⟨⟨by omega, by omega⟩, ⟨by omega, by omega⟩, by rw [rngD_len, sizeLine_eq]; omega, ?_⟩
    refine ⟨fun i acc S' => acc = ((rngD t (b + 1 - t).toNat).take i).flatMap (fun y => (rngD l (r + 1 - l).toNat).map fun x => .tup [x, y]) ∧ S' = put S q (.lst (rngD l (r + 1 - l).toNat)), ⟨rfl, rfl⟩, fun _ _ _ _ => trivial, ?_, ?_⟩
    · rintro i d acc S' hd ⟨rfl, rfl⟩
      refine ⟨_, rfl, _, put_same, ?_⟩
      have hi : i < (b + 1 - t).toNat := by
        have := (List.getElem?_eq_some_iff.mp hd).1
        rwa [rngD_len] at this
      have hacc : (((rngD t (b + 1 - t).toNat).take i).flatMap (fun y => (rngD l (r + 1 - l).toNat).map fun x => D.tup [x, y])).length = i * (r + 1 - l).toNat := by
        rw [List.length_flatMap]
        have e : ((rngD t (b + 1 - t).toNat).take i).map (fun y => ((rngD l (r + 1 - l).toNat).map fun x => D.tup [x, y]).length) = List.replicate i (r + 1 - l).toNat := by
          rw [List.eq_replicate_iff]
          refine ⟨by rw [List.length_map, List.length_take, rngD_len]; omega, fun n hn => ?_⟩
          obtain ⟨y, _, rfl⟩ := List.mem_map.mp hn
          rw [List.length_map, rngD_len]
        rw [e, List.sum_replicate_nat]
      have hbd : i * (r + 1 - l).toNat ≤ 101 * 101 := Nat.mul_le_mul (by omega) (by omega)
      refine ⟨fun j acc S' => (∃ rest, acc = ((rngD t (b + 1 - t).toNat).take i).flatMap (fun y => (rngD l (r + 1 - l).toNat).map fun x => .tup [x, y]) ++ rest ∧ rest = ((rngD l (r + 1 - l).toNat).take j).map fun x => .tup [x, d]) ∧ S' = put S q (.lst (rngD l (r + 1 - l).toNat)), ⟨⟨_, (List.append_nil _).symm, rfl⟩, rfl⟩, ?_, ?_, ?_⟩
      · rintro j acc S' ⟨⟨rest, rfl, rfl⟩, rfl⟩
        refine ⟨put_same, ?_⟩
        rw [List.length_append, hacc, List.length_map, List.length_take, rngD_len, sizeLine_eq]
        omega
      · rintro j d1 acc S' hd1 ⟨⟨rest, rfl, rfl⟩, rfl⟩
        refine ⟨_, rfl, _, rfl, by show 2 ≤ sizeLine; decide, _, Sub.refl _, ⟨_, List.append_assoc _ _ _, ?_⟩, rfl⟩
        rw [List.take_add_one, hd1, List.map_append]
        rfl
      · rintro acc S' ⟨⟨rest, rfl, rfl⟩, rfl⟩
        refine ⟨_, Sub.refl _, ?_, rfl⟩
        rw [List.take_add_one, hd, List.flatMap_append, List.take_length]
        simp
    · rintro acc S' g ⟨rfl, rfl⟩ hg
      refine ⟨put S g (.lst (spotsD l t r b)), ?_, h1 g (put_none hg)⟩
      rw [rngD_len, List.take_of_length_le (by rw [rngD_len]; exact Nat.le_refl _)]
      exact Sub.put (Sub.new hq) _ _

theorem ok_Area_meets {P : Program} {w : World} {K : PySem.W.Frag} {mg : Str → Option Value} {base : Heap} {Z : Zt} {f : Addr} {fd : FuncData} {cdv : Value} (hfn : ∀ i, Z.fn i = fnOf' fnT i) (hlm : ∀ j, Z.lm j = lmT j) (hM : TxOk P w K mg base Z tx (M10 Z)) (F : FunC K "meets" "Area.meets" s_Area_meets f fd cdv .none) : FnD P w K mg base Z 1 f (e_Area_meets) := by
  have nd := sc_Area_meets.nd
  refine FnD.mk0 (ps := ["self", "other"]) (fn_bodyC F sc_Area_meets (fun ds S Q E h => ?len) _ (fun A outer s H E hr => (pdss_one (pds_ret (pd_and (pd_cmp od_le (pd_fld hM 0 ((hfn 0).trans rfl) (pd_var 0)) (pd_fld hM 2 ((hfn 2).trans rfl) (pd_var 1))) (pd_and (pd_cmp od_le (pd_fld hM 0 ((hfn 0).trans rfl) (pd_var 1)) (pd_fld hM 2 ((hfn 2).trans rfl) (pd_var 0))) (pd_and (pd_cmp od_le (pd_fld hM 1 ((hfn 1).trans rfl) (pd_var 0)) (pd_fld hM 3 ((hfn 3).trans rfl) (pd_var 1))) (pd_one (pd_cmp od_le (pd_fld hM 1 ((hfn 1).trans rfl) (pd_var 1)) (pd_fld hM 3 ((hfn 3).trans rfl) (pd_var 0)))))))))) (fun ds S Q E h => ?hb)) rfl rfl (F.binds fun _ _ _ _ _ _ us hl => match us, hl with | [_, _], _ => rfl)
  case len => obtain ⟨_, _, _, _, _, _, _, _, _, _, rfl, _⟩ := h; rfl
  case hb =>
    obtain ⟨p, p', l, t, r, b, l', t', r', b', rfl, hp, hp', h1⟩ := h
    have no : ¬ (l ≤ r' ∧ l' ≤ r ∧ t ≤ b' ∧ t' ≤ b) → Q (.bl false) S := fun q => by rw [decide_eq_false q] at h1; exact h1
    have yes : (l ≤ r' ∧ l' ≤ r ∧ t ≤ b' ∧ t' ≤ b) → Q (.bl true) S := fun q => by rw [decide_eq_true q] at h1; exact h1
    refine ⟨_, rfl, _, _, _, _, rfl, hp, rfl, rfl, _, rfl, _, _, _, _, rfl, hp', rfl, rfl, ?_⟩
    refine itd (fun c1 => ?_) (fun c1 => ⟨_, Sub.refl _, by rw [decide_eq_false c1]; exact no fun q => c1 q.1⟩)
    refine ⟨_, rfl, _, _, _, _, rfl, hp', rfl, rfl, _, rfl, _, _, _, _, rfl, hp, rfl, rfl, ?_⟩
    refine itd (fun c2 => ?_) (fun c2 => ⟨_, Sub.refl _, by rw [decide_eq_false c2]; exact no fun q => c2 q.2.1⟩)
    refine ⟨_, rfl, _, _, _, _, rfl, hp, rfl, rfl, _, rfl, _, _, _, _, rfl, hp', rfl, rfl, ?_⟩
    refine itd (fun c3 => ?_) (fun c3 => ⟨_, Sub.refl _, by rw [decide_eq_false c3]; exact no fun q => c3 q.2.2.1⟩)
    refine ⟨_, rfl, _, _, _, _, rfl, hp', rfl, rfl, _, rfl, _, _, _, _, rfl, hp, rfl, rfl, ?_⟩
    refine ⟨_, Sub.refl _, ?_⟩
    by_cases c4 : t' ≤ b
    · rw [decide_eq_true c4]; exact yes ⟨c1, c2, c3, c4⟩
    · rw [decide_eq_false c4]; exact no fun q => c4 q.2.2.2

theorem ok_Area_label {P : Program} {w : World} {K : PySem.W.Frag} {mg : Str → Option Value} {base : Heap} {Z : Zt} {f : Addr} {fd : FuncData} {cdv : Value} (hfn : ∀ i, Z.fn i = fnOf' fnT i) (hlm : ∀ j, Z.lm j = lmT j) (hM : TxOk P w K mg base Z tx (M11 Z)) (F : FunC K "label" "Area.label" s_Area_label f fd cdv .none) : FnD P w K mg base Z 3 f (e_Area_label) := by
  have nd := sc_Area_label.nd
  refine FnD.mk0 (ps := ["self"]) (fn_bodyC F sc_Area_label (fun ds S Q E h => ?len) _ (fun A outer s H E hr => (pdss_cons (pds_par2 (i := 1) (j := 2) (by rfl) nd (pda_cons (pd_call hM hr 2 1 (by rfl) (by rfl) (pda_cons (pd_tup (pda_cons (pd_fld hM 0 ((hfn 0).trans rfl) (pd_var 0)) (pda_cons (pd_fld hM 1 ((hfn 1).trans rfl) (pd_var 0)) pda_nil))) pda_nil)) (pda_cons (pd_call hM hr 2 1 (by rfl) (by rfl) (pda_cons (pd_tup (pda_cons (pd_fld hM 2 ((hfn 2).trans rfl) (pd_var 0)) (pda_cons (pd_fld hM 3 ((hfn 3).trans rfl) (pd_var 0)) pda_nil))) pda_nil)) pda_nil)) (by rfl))
    (pdss_one (pds_ret (pd_if (pdt_cmp (od_eq (hu64 hr)) (pd_var 1) (pd_var 2)) (pd_var 1) (pd_op od_add (pd_op od_add (pd_var 1) pd_str) (pd_var 2))))))) (fun ds S Q E h => ?hb)) rfl rfl (F.binds fun _ _ _ _ _ _ us hl => match us, hl with | [_], _ => rfl)
  case len => obtain ⟨_, _, _, _, _, rfl, _⟩ := h; rfl
  case hb =>
    obtain ⟨p, l, t, r, b, rfl, hp, hok, h1⟩ := h
    obtain ⟨c1, c2, c3, c4, c5, c6⟩ := hok
    refine ⟨_, rfl, ⟨by decide, by decide, by decide, rfl⟩, _, rfl, _, _, _, _, rfl, hp, rfl, rfl, _, rfl, _, _, _, _, rfl, hp, rfl, rfl, by show 2 ≤ sizeLine; decide, l, t, rfl, fun _ => ?_, fun q => absurd ⟨by omega, by omega, by omega, by omega⟩ q⟩
    refine ⟨_, rfl, ⟨by decide, by decide, by decide, rfl⟩, _, rfl, _, _, _, _, rfl, hp, rfl, rfl, _, rfl, _, _, _, _, rfl, hp, rfl, rfl, by show 2 ≤ sizeLine; decide, r, b, rfl, fun _ => ?_, fun q => absurd ⟨by omega, by omega, by omega, by omega⟩ q⟩
    have hl : ∀ x y : Int, 0 ≤ y → y < 9999 → (spotL x y).length ≤ 6 := fun x y h0 h9 => by
      unfold spotL
      have h2 : (colL x).length ≤ 2 := by unfold colL; split <;> simp
      have h3 := natD_len 3 (y + 1).toNat (by omega)
      rw [List.length_append]
      omega
    have l1 := hl l t (by omega) (by omega)
    have l2 := hl r b (by omega) (by omega)
    refine ⟨_, rfl, _, rfl, ?_⟩
    unfold areaL at h1
    refine itd (fun c7 => ?_) (fun c7 => ?_)
    · rw [if_pos (SX.S_inj c7)] at h1
      exact ⟨_, rfl, _, Sub.refl _, h1⟩
    · rw [if_neg (fun e => c7 (by unfold spotName; rw [e]))] at h1
      refine ⟨_, rfl, ?_, _, rfl, ?_, _, Sub.refl _, ?_⟩
      · show (spotL l t).length + 1 ≤ sizeLine
        rw [sizeLine_eq]; omega
      · have : (spotName l t ++ ((":" : Str))) = ⟨(spotL l t ++ [58]).toArray⟩ := cat_mk (spotL l t) [58]
        rw [this]
        show (spotL l t ++ [58]).length + (spotL r b).length ≤ sizeLine
        rw [sizeLine_eq, List.length_append, List.length_singleton]; omega
      · have e1 : (spotName l t ++ ((":" : Str))) = ⟨(spotL l t ++ [58]).toArray⟩ := cat_mk (spotL l t) [58]
        rw [e1]
        unfold spotName
        rw [cat_mk]
        exact h1

theorem ok_area_of {P : Program} {w : World} {K : PySem.W.Frag} {mg : Str → Option Value} {base : Heap} {Z : Zt} {f : Addr} {fd : FuncData} {cdv : Value} (hfn : ∀ i, Z.fn i = fnOf' fnT i) (hlm : ∀ j, Z.lm j = lmT j) (hM : TxOk P w K mg base Z tx (M12 Z)) (F : FunC K "area_of" "area_of" s_area_of f fd cdv .none) : FnD P w K mg base Z 3 f (e_area_of) := by
  have nd := sc_area_of.nd
  refine FnD.mk0 (ps := ["text"]) (fn_bodyC F sc_area_of (fun ds S Q E h => ?len) _ (fun A outer s H E hr => (pdss_cons (pds_asg (pd_sm PySem.F.slot_str_partition PySem.F.type_str_partition md_partition (pd_var 0) (pda_cons pd_str pda_nil)) (pdg_tup (n := 3) (by rfl) (pdgs_cons (pdg_name nd (i := 1)) (pdgs_cons (pdg_name nd (i := 2)) (pdgs_cons (pdg_name nd (i := 3)) pdgs_nil)))))
    (pdss_cons (pds_set nd (i := 4) (pd_call hM hr 3 1 (by rfl) (by rfl) (pda_cons (pd_var 1) pda_nil)))
    (pdss_cons (pds_set nd (i := 5) (pd_if (pdt_cmp (od_ne (hu64 hr)) (pd_var 2) pd_str) (pd_call hM hr 3 1 (by rfl) (by rfl) (pda_cons (pd_var 3) pda_nil)) (pd_var 4)))
    (pdss_one (pds_ret (pd_make hM hr 0 4 (by rfl) (by rfl) (pda_cons (pd_bi hM (cd_min (by rfl)) 6 (by rfl) (by rfl) bt_min (pda_cons (pd_ix (pd_var 4) pd_int) (pda_cons (pd_ix (pd_var 5) pd_int) pda_nil))) (pda_cons (pd_bi hM (cd_min (by rfl)) 6 (by rfl) (by rfl) bt_min (pda_cons (pd_ix (pd_var 4) pd_int) (pda_cons (pd_ix (pd_var 5) pd_int) pda_nil))) (pda_cons (pd_bi hM (cd_max (by rfl)) 7 (by rfl) (by rfl) bt_max (pda_cons (pd_ix (pd_var 4) pd_int) (pda_cons (pd_ix (pd_var 5) pd_int) pda_nil))) (pda_cons (pd_bi hM (cd_max (by rfl)) 7 (by rfl) (by rfl) bt_max (pda_cons (pd_ix (pd_var 4) pd_int) (pda_cons (pd_ix (pd_var 5) pd_int) pda_nil))) pda_nil))))))))))) (fun ds S Q E h => ?hb)) rfl rfl (F.binds fun _ _ _ _ _ _ us hl => match us, hl with | [_], _ => rfl)
  case len => obtain ⟨_, rfl, _⟩ := h; rfl
  case hb =>
    obtain ⟨z, rfl, hz, h1, h2⟩ := h
    have hs : z.length ≤ sizeLine := by rw [sizeLine_eq]; omega
    have hl := slen z
    refine ⟨_, rfl, ⟨_, rfl⟩, by decide, hs, rfl, rfl, ?_⟩
    have pe := partition_one z 58
    rw [show ((⟨#[58]⟩ : Str)) = ((":" : Str)) by decide +kernel] at pe
    rw [pe]
    -- the call of the class
    have make : ∀ (x y x' y' : Int) (u : Env_), (spotOf (z.cps.toList.takeWhile (· != 58)) = some (x, y)) → ((if 58 ∈ z.cps.toList then spotOf (z.cps.toList.dropWhile (· != 58)).tail else some (x, y)) = some (x', y')) → u[4]? = some (some (.tup [.int x, .int y])) → u[5]? = some (some (.tup [.int x', .int y'])) →
        dRet (dMake tx (M12 Z) 1 0 4 (dCons (dBi rMin (dCons (dOp opIx (dVar 4) (dC (.int 0))) (dCons (dOp opIx (dVar 5) (dC (.int 0))) dNil))) (dCons (dBi rMin (dCons (dOp opIx (dVar 4) (dC (.int 1))) (dCons (dOp opIx (dVar 5) (dC (.int 1))) dNil))) (dCons (dBi rMax (dCons (dOp opIx (dVar 4) (dC (.int 0))) (dCons (dOp opIx (dVar 5) (dC (.int 0))) dNil))) (dCons (dBi rMax (dCons (dOp opIx (dVar 4) (dC (.int 1))) (dCons (dOp opIx (dVar 5) (dC (.int 1))) dNil))) dNil))))) (fin Q E) u S := fun x y x' y' u e1 e2 u4 u5 => by
      have ea : areaOf z.cps.toList = some (min x x', min y y', max x x', max y y') := by
        unfold areaOf
        rw [e1]
        simp only [e2]
      have m1 : ∀ a b : Int, (if b < a then b else a) = min a b := fun a b => by omega
      have m2 : ∀ a b : Int, (if b > a then b else a) = max a b := fun a b => by omega
      refine ⟨5, _, rfl, rfl, ⟨by decide, by decide, by decide, rfl⟩, _, u4, _, rfl, _, u5, _, rfl, _, u4, _, rfl, _, u5, _, rfl, _, u4, _, rfl, _, u5, _, rfl, _, u4, _, rfl, _, u5, _, rfl, fun a ha => ?_⟩
      rw [m1, m1, m2, m2]
      refine ⟨a, _, _, _, _, rfl, put_same, fun _ => ⟨rfl, _, Sub.refl _, ?_⟩, fun q => absurd (areaOf_ok ea) q⟩
      rw [put_put]
      exact h1 _ _ _ _ ea a ha
    by_cases hm : 58 ∈ z.cps.toList
    · rw [if_pos hm]
      have t1 := (List.takeWhile_sublist (l := z.cps.toList) (· != 58)).length_le
      have t2 := (List.dropWhile_sublist (l := z.cps.toList) (· != 58)).length_le
      refine ⟨_, rfl, ⟨by decide, by decide, by decide, rfl⟩, _, rfl, _, rfl, by rw [len_mk]; omega, fun x y e1 => ?_, fun e1 => ⟨_, Sub.refl _, h2 ?_⟩⟩
      · have e1 : spotOf (z.cps.toList.takeWhile (· != 58)) = some (x, y) := e1
        refine ⟨_, rfl, ?_⟩
        refine ⟨_, rfl, ⟨by decide, by decide, by decide, rfl⟩, _, rfl, _, rfl, by rw [len_mk, List.length_tail]; omega, fun x' y' e2 => ?_, fun e2 => ⟨_, Sub.refl _, h2 ?_⟩⟩
        · exact make x y x' y' _ e1 (by rw [if_pos hm]; exact e2) rfl rfl
        · have e2 : spotOf (z.cps.toList.dropWhile (· != 58)).tail = none := e2
          unfold areaOf
          rw [e1]
          simp only [if_pos hm, e2]
      · have e1 : spotOf (z.cps.toList.takeWhile (· != 58)) = none := e1
        unfold areaOf
        rw [e1]
    · rw [if_neg hm]
      have et : z.cps.toList.takeWhile (· != 58) = z.cps.toList := by
        refine NumText.takeWhile_all fun c hc => ?_
        have : c ≠ 58 := fun e => hm (by rw [← e]; exact hc)
        simp [this]
      refine ⟨_, rfl, ⟨by decide, by decide, by decide, rfl⟩, _, rfl, _, rfl, hz, fun x y e1 => ?_, fun e1 => ⟨_, Sub.refl _, h2 ?_⟩⟩
      · refine ⟨_, rfl, ?_⟩
        exact ⟨_, rfl, make x y x y _ (by rw [et]; exact e1) (by rw [if_neg hm]) rfl rfl⟩
      · have e1 : spotOf z.cps.toList = none := e1
        unfold areaOf
        rw [et, e1]

theorem ok_moved_place {P : Program} {w : World} {K : PySem.W.Frag} {mg : Str → Option Value} {base : Heap} {Z : Zt} {f : Addr} {fd : FuncData} {cdv : Value} (hfn : ∀ i, Z.fn i = fnOf' fnT i) (hlm : ∀ j, Z.lm j = lmT j) (hM : TxOk P w K mg base Z tx (M13 Z)) (F : FunC K "moved_place" "moved_place" s_moved_place f fd cdv .none) : FnD P w K mg base Z 1 f (e_moved_place) := by
  have nd := sc_moved_place.nd
  refine FnD.mk0 (ps := ["place", "at", "many"]) (fn_bodyC F sc_moved_place (fun ds S Q E h => ?len) _ (fun A outer s H E hr => (pdss_cons (pds_if (pdt_cmp od_ge (pd_var 2) pd_int) (pdss_one (pds_ret (pd_if (pdt_cmp od_ge (pd_var 0) (pd_var 1)) (pd_op od_add (pd_var 0) (pd_var 2)) (pd_var 0)))) pdss_nil)
    (pdss_cons (pds_if (pdt_cmp od_lt (pd_var 0) (pd_var 1)) (pdss_one (pds_ret (pd_var 0))) pdss_nil)
    (pdss_one (pds_ret (pd_if (pdt_cmp od_lt (pd_var 0) (pd_op od_sub (pd_var 1) (pd_var 2))) pd_non (pd_op od_add (pd_var 0) (pd_var 2)))))))) (fun ds S Q E h => ?hb)) rfl rfl (F.binds fun _ _ _ _ _ _ us hl => match us, hl with | [_, _, _], _ => rfl)
  case len => obtain ⟨_, _, _, rfl, _⟩ := h; rfl
  case hb =>
    obtain ⟨p, a, m, rfl, h1⟩ := h
    refine ⟨_, rfl, ?_⟩
    unfold mvO at h1
    refine itd (fun c1 => ?_) (fun c1 => ?_)
    · rw [if_pos c1] at h1
      refine ⟨_, rfl, _, rfl, ?_⟩
      refine itd (fun c2 => ?_) (fun c2 => ?_)
      · rw [if_pos c2] at h1
        exact ⟨_, rfl, _, rfl, _, Sub.refl _, h1⟩
      · rw [if_neg c2] at h1
        exact ⟨_, rfl, _, Sub.refl _, h1⟩
    · rw [if_neg c1] at h1
      refine ⟨_, rfl, _, rfl, ?_⟩
      refine itd (fun c2 => ?_) (fun c2 => ?_)
      · rw [if_pos c2] at h1
        exact ⟨_, rfl, _, Sub.refl _, h1⟩
      · rw [if_neg c2] at h1
        refine ⟨_, rfl, _, rfl, _, rfl, ?_⟩
        refine itd (fun c3 => ?_) (fun c3 => ?_)
        · rw [if_pos c3] at h1
          exact ⟨_, Sub.refl _, h1⟩
        · rw [if_neg c3] at h1
          exact ⟨_, rfl, _, rfl, _, Sub.refl _, h1⟩

theorem ok_moved_span {P : Program} {w : World} {K : PySem.W.Frag} {mg : Str → Option Value} {base : Heap} {Z : Zt} {f : Addr} {fd : FuncData} {cdv : Value} (hfn : ∀ i, Z.fn i = fnOf' fnT i) (hlm : ∀ j, Z.lm j = lmT j) (hM : TxOk P w K mg base Z tx (M14 Z)) (F : FunC K "moved_span" "moved_span" s_moved_span f fd cdv .none) : FnD P w K mg base Z 2 f (e_moved_span) := by
  have nd := sc_moved_span.nd
  refine FnD.mk0 (ps := ["first", "last", "at", "many"]) (fn_bodyC F sc_moved_span (fun ds S Q E h => ?len) _ (fun A outer s H E hr => (pdss_cons (pds_if (pdt_cmp od_ge (pd_var 3) pd_int) (pdss_one (pds_ret (pd_tup (pda_cons (pd_call hM hr 13 3 (by rfl) (by rfl) (pda_cons (pd_var 0) (pda_cons (pd_var 2) (pda_cons (pd_var 3) pda_nil)))) (pda_cons (pd_call hM hr 13 3 (by rfl) (by rfl) (pda_cons (pd_var 1) (pda_cons (pd_var 2) (pda_cons (pd_var 3) pda_nil)))) pda_nil))))) pdss_nil)
    (pdss_cons (pds_set nd (i := 4) (pd_op od_sub (pd_op od_sub (pd_var 2) (pd_var 3)) pd_int))
    (pdss_cons (pds_if (PDW.pt (pdw_and (pdt_cmp od_le (pd_var 2) (pd_var 0)) (pdw_and1 (pdt_cmp od_le (pd_var 1) (pd_var 4))))) (pdss_one (pds_ret pd_non)) pdss_nil)
    (pdss_cons (pds_set nd (i := 5) (pd_call hM hr 13 3 (by rfl) (by rfl) (pda_cons (pd_var 0) (pda_cons (pd_var 2) (pda_cons (pd_var 3) pda_nil)))))
    (pdss_cons (pds_set nd (i := 6) (pd_call hM hr 13 3 (by rfl) (by rfl) (pda_cons (pd_var 1) (pda_cons (pd_var 2) (pda_cons (pd_var 3) pda_nil)))))
    (pdss_one (pds_ret (pd_tup (pda_cons (pd_if (pdt_cmp od_isN (pd_var 5) pd_non) (pd_var 2) (pd_var 5)) (pda_cons (pd_if (pdt_cmp od_isN (pd_var 6) pd_non) (pd_op od_sub (pd_var 2) pd_int) (pd_var 6)) pda_nil))))))))))) (fun ds S Q E h => ?hb)) rfl rfl (F.binds fun _ _ _ _ _ _ us hl => match us, hl with | [_, _, _, _], _ => rfl)
  case len => obtain ⟨_, _, _, _, rfl, _⟩ := h; rfl
  case hb =>
    obtain ⟨f, l, a, m, rfl, h1⟩ := h
    have z2 : 2 ≤ sizeLine := by decide
    unfold spanO at h1
    refine ⟨_, rfl, ?_⟩
    refine itd (fun c1 => ?_) (fun c1 => ?_)
    · rw [if_pos c1] at h1
      refine ⟨_, rfl, ⟨by decide, by decide, by decide, rfl⟩, _, rfl, _, rfl, _, rfl, f, a, m, rfl, ?_⟩
      refine ⟨_, rfl, ⟨by decide, by decide, by decide, rfl⟩, _, rfl, _, rfl, _, rfl, l, a, m, rfl, ?_⟩
      refine ⟨z2, _, Sub.refl _, ?_⟩
      unfold mvO at h1 ⊢
      rw [if_pos c1, if_pos c1] at h1 ⊢
      exact h1
    · rw [if_neg c1] at h1
      refine ⟨_, rfl, _, rfl, _, rfl, _, rfl, ?_⟩
      have go : ¬ (a ≤ f ∧ l ≤ a - m - 1) → (dSeq (dAsg (dCall (M14 Z) 1 13 3 (dCons (dVar 0) (dCons (dVar 2) (dCons (dVar 3) dNil)))) (gN 5)) (dSeq (dAsg (dCall (M14 Z) 1 13 3 (dCons (dVar 1) (dCons (dVar 2) (dCons (dVar 3) dNil)))) (gN 6)) (dRet (dTup (dCons (dIf (dTest (dOp opIsN (dVar 5) (dC .non))) (dVar 2) (dVar 5)) (dCons (dIf (dTest (dOp opIsN (dVar 6) (dC .non))) (dOp opSub (dVar 2) (dC (.int 1))) (dVar 6)) dNil)))))) (fin Q E) [some (.int f), some (.int l), some (.int a), some (.int m), some (.int (a - m - 1)), none, none] S := fun c => ?go
      case go =>
        rw [if_neg c] at h1
        refine ⟨_, rfl, ⟨by decide, by decide, by decide, rfl⟩, _, rfl, _, rfl, _, rfl, f, a, m, rfl, ?_⟩
        refine ⟨_, rfl, ⟨by decide, by decide, by decide, rfl⟩, _, rfl, _, rfl, _, rfl, l, a, m, rfl, ?_⟩
        refine ⟨_, rfl, ?_⟩
        generalize mvO f a m = o1 at *
        generalize mvO l a m = o2 at *
        cases o1 <;> cases o2
        · exact ⟨_, rfl, _, rfl, _, rfl, z2, _, Sub.refl _, h1⟩
        · exact ⟨_, rfl, _, rfl, _, rfl, z2, _, Sub.refl _, h1⟩
        · exact ⟨_, rfl, _, rfl, _, rfl, z2, _, Sub.refl _, h1⟩
        · exact ⟨_, rfl, _, rfl, _, rfl, z2, _, Sub.refl _, h1⟩
      refine itd (fun c2 => ?_) (fun c2 => go fun q => c2 q.1)
      refine ⟨_, rfl, _, rfl, ?_⟩
      refine itd (fun c3 => ?_) (fun c3 => go fun q => c3 q.2)
      rw [if_pos ⟨c2, c3⟩] at h1
      exact ⟨_, Sub.refl _, h1⟩

theorem ok_moved_area {P : Program} {w : World} {K : PySem.W.Frag} {mg : Str → Option Value} {base : Heap} {Z : Zt} {f : Addr} {fd : FuncData} {cdv : Value} (hfn : ∀ i, Z.fn i = fnOf' fnT i) (hlm : ∀ j, Z.lm j = lmT j) (hM : TxOk P w K mg base Z tx (M15 Z)) (F : FunC K "moved_area" "moved_area" s_moved_area f fd cdv .none) : FnD P w K mg base Z 3 f (e_moved_area) := by
  have nd := sc_moved_area.nd
  refine FnD.mk0 (ps := ["area", "axis", "at", "many"]) (fn_bodyC F sc_moved_area (fun ds S Q E h => ?len) _ (fun A outer s H E hr => (pdss_cons (pds_par2 (i := 4) (j := 5) (by rfl) nd (pda_cons (pd_tup (pda_cons (pd_fld hM 0 ((hfn 0).trans rfl) (pd_var 0)) (pda_cons (pd_fld hM 2 ((hfn 2).trans rfl) (pd_var 0)) pda_nil))) (pda_cons (pd_tup (pda_cons (pd_fld hM 1 ((hfn 1).trans rfl) (pd_var 0)) (pda_cons (pd_fld hM 3 ((hfn 3).trans rfl) (pd_var 0)) pda_nil))) pda_nil)) (by rfl))
    (pdss_cons (pds_if (pdt_cmp (od_eq (hu64 hr)) (pd_var 1) pd_int) (pdss_one (pds_set nd (i := 4) (pd_call hM hr 14 4 (by rfl) (by rfl) (pda_cons (pd_fld hM 0 ((hfn 0).trans rfl) (pd_var 0)) (pda_cons (pd_fld hM 2 ((hfn 2).trans rfl) (pd_var 0)) (pda_cons (pd_var 2) (pda_cons (pd_var 3) pda_nil))))))) (pdss_one (pds_set nd (i := 5) (pd_call hM hr 14 4 (by rfl) (by rfl) (pda_cons (pd_fld hM 1 ((hfn 1).trans rfl) (pd_var 0)) (pda_cons (pd_fld hM 3 ((hfn 3).trans rfl) (pd_var 0)) (pda_cons (pd_var 2) (pda_cons (pd_var 3) pda_nil))))))))
    (pdss_cons (pds_if (PDW.pt (pdw_or (pdt_cmp od_isN (pd_var 4) pd_non) (pdw_or (pdt_cmp od_isN (pd_var 5) pd_non) (pdw_or (pdt_cmp od_ge (pd_ix (pd_var 4) pd_int) (pd_glob hM 2 (by rfl) (by rfl))) (pdw_or1 (pdt_cmp od_ge (pd_ix (pd_var 5) pd_int) (pd_glob hM 3 (by rfl) (by rfl)))))))) (pdss_one (pds_ret pd_non)) pdss_nil)
    (pdss_one (pds_ret (pd_make hM hr 0 4 (by rfl) (by rfl) (pda_cons (pd_ix (pd_var 4) pd_int) (pda_cons (pd_ix (pd_var 5) pd_int) (pda_cons (pd_bi hM (cd_min (by rfl)) 6 (by rfl) (by rfl) bt_min (pda_cons (pd_ix (pd_var 4) pd_int) (pda_cons (pd_op od_sub (pd_glob hM 2 (by rfl) (by rfl)) pd_int) pda_nil))) (pda_cons (pd_bi hM (cd_min (by rfl)) 6 (by rfl) (by rfl) bt_min (pda_cons (pd_ix (pd_var 5) pd_int) (pda_cons (pd_op od_sub (pd_glob hM 3 (by rfl) (by rfl)) pd_int) pda_nil))) pda_nil))))))))))) (fun ds S Q E h => ?hb)) rfl rfl (F.binds fun _ _ _ _ _ _ us hl => match us, hl with | [_, _, _, _], _ => rfl)
  case len => obtain ⟨_, _, _, _, _, _, _, _, rfl, _⟩ := h; rfl
  case hb =>
    obtain ⟨p, l, t, r, b, axis, a, m, rfl, hp, h1, h2⟩ := h
    have z2 : 2 ≤ sizeLine := by decide
    refine ⟨_, rfl, _, _, _, _, rfl, hp, rfl, rfl, _, rfl, _, _, _, _, rfl, hp, rfl, rfl, z2, _, rfl, _, _, _, _, rfl, hp, rfl, rfl, _, rfl, _, _, _, _, rfl, hp, rfl, rfl, z2, ?_⟩
    have tail : ∀ (c w : Option (Int × Int)) (u : Env_), mvAreaO l t r b axis a m = (match c, w with | some c, some w => if 702 ≤ c.1 ∨ 9999 ≤ w.1 then none else some (c.1, w.1, min c.2 701, min w.2 9998) | _, _ => none) → u[4]? = some (some (spanD c)) → u[5]? = some (some (spanD w)) →
        dSeq (dIfS (dOr (dTest (dOp opIsN (dVar 4) (dC .non))) (dOr (dTest (dOp opIsN (dVar 5) (dC .non))) (dOr (dTest (dOp opGe (dOp opIx (dVar 4) (dC (.int 0))) (dC (.int 702)))) (dTest (dOp opGe (dOp opIx (dVar 5) (dC (.int 0))) (dC (.int 9999))))))) (dRet (dC .non)) dNext) (dRet (dMake tx (M15 Z) 1 0 4 (dCons (dOp opIx (dVar 4) (dC (.int 0))) (dCons (dOp opIx (dVar 5) (dC (.int 0))) (dCons (dBi rMin (dCons (dOp opIx (dVar 4) (dC (.int 1))) (dCons (dOp opSub (dC (.int 702)) (dC (.int 1))) dNil))) (dCons (dBi rMin (dCons (dOp opIx (dVar 5) (dC (.int 1))) (dCons (dOp opSub (dC (.int 9999)) (dC (.int 1))) dNil))) dNil)))))) (fin Q E) u S := fun c w u e u4 u5 => by
      cases c with
      | none => exact ⟨_, u4, _, Sub.refl _, h1 (by rw [e])⟩
      | some c =>
        cases w with
        | none => exact ⟨_, u4, _, u5, _, Sub.refl _, h1 (by rw [e])⟩
        | some w =>
          obtain ⟨c1, c2⟩ := c
          obtain ⟨w1, w2⟩ := w
          refine ⟨_, u4, _, u5, _, u4, _, rfl, ?_⟩
          refine itd (fun d1 => ⟨_, Sub.refl _, h1 (by rw [e]; exact if_pos (.inl d1))⟩) (fun d1 => ?_)
          refine ⟨_, u5, _, rfl, ?_⟩
          refine itd (fun d2 => ⟨_, Sub.refl _, h1 (by rw [e]; exact if_pos (.inr d2))⟩) (fun d2 => ?_)
          have e' : mvAreaO l t r b axis a m = some (c1, w1, min c2 701, min w2 9998) := by
            rw [e]
            exact if_neg fun q => q.elim d1 d2
          have m1 : ∀ x y : Int, (if y < x then y else x) = min x y := fun x y => by omega
          refine ⟨5, _, rfl, rfl, ⟨by decide, by decide, by decide, rfl⟩, _, u4, _, rfl, _, u5, _, rfl, _, u4, _, rfl, _, u5, _, rfl, fun g hg => ?_⟩
          rw [m1, m1]
          refine ⟨g, _, _, _, _, rfl, put_same, fun ok => ⟨rfl, _, Sub.refl _, ?_⟩, fun q => ⟨_, Sub.new hg, (h2 _ _ _ _ e').2 q⟩⟩
          rw [put_put]
          exact (h2 _ _ _ _ e').1 ok g hg
    refine ⟨_, rfl, ?_⟩
    refine itd (fun c1 => ?_) (fun c1 => ?_)
    · refine ⟨_, rfl, ⟨by decide, by decide, by decide, rfl⟩, _, rfl, _, _, _, _, rfl, hp, rfl, rfl, _, rfl, _, _, _, _, rfl, hp, rfl, rfl, _, rfl, _, rfl, l, r, a, m, rfl, ?_⟩
      exact tail (spanO l r a m) (some (t, b)) _ (by unfold mvAreaO; rw [if_pos c1, if_pos c1] <;> rfl) rfl rfl
    · refine ⟨_, rfl, ⟨by decide, by decide, by decide, rfl⟩, _, rfl, _, _, _, _, rfl, hp, rfl, rfl, _, rfl, _, _, _, _, rfl, hp, rfl, rfl, _, rfl, _, rfl, t, b, a, m, rfl, ?_⟩
      exact tail (some (l, r)) (spanO t b a m) _ (by unfold mvAreaO; rw [if_neg c1, if_neg c1] <;> rfl) rfl rfl
end K02

set_option Elab.async false
set_option linter.all false
set_option maxRecDepth 100000
set_option maxHeartbeats 4000000
namespace K02
open PySem PySem.Spec PyProof.Rows L2 G
theorem ok__law_dice {P : Program} {w : World} {K : PySem.W.Frag} {mg : Str → Option Value} {base : Heap} {Z : Zt} {f : Addr} {fd : FuncData} {cdv : Value} (hfn : ∀ i, Z.fn i = fnOf' fnT i) (hlm : ∀ j, Z.lm j = lmT j) (hM : TxOk P w K mg base Z tx (M16 Z)) (F : FunC K "_law_dice" "_law_dice" s__law_dice f fd cdv .none) : FnD P w K mg base Z 1 f (e__law_dice) := by
  have nd := sc__law_dice.nd
  refine FnD.mk0 (ps := ["cell"]) (fn_bodyC F sc__law_dice (fun ds S Q E h => ?len) _ (fun A outer s H E hr => (pdss_cons (pds_if (pdt_chain (pd_op od_sub pd_int pd_int) (pdcht_c od_lt (pd_var 0) (pdcht_1 od_lt pd_int))) (pdss_one (pds_ret (pd_lst (pda_cons (pd_bi hM cd_abs 8 (by rfl) (by rfl) bt_abs (pda_cons (pd_var 0) pda_nil)) (pda_cons pd_int (pda_cons pd_int pda_nil)))))) pdss_nil)
    (pdss_one (pds_ret (pd_lst (pda_cons (pd_var 0) (pda_cons (pd_op od_add pd_int (pd_op od_mod (pd_ty hM cd_int 3 (by rfl) (by rfl) bt_int (pda_cons (pd_var 0) pda_nil)) pd_int)) (pda_cons (pd_ty hM cd_int 3 (by rfl) (by rfl) bt_int (pda_cons (pd_cmp od_ge (pd_var 0) (pd_op od_pow pd_int pd_int)) pda_nil)) pda_nil)))))))) (fun ds S Q E h => ?hb)) rfl rfl (F.binds fun _ _ _ _ _ _ us hl => match us, hl with | [_], _ => rfl)
  case len => obtain ⟨_, rfl, _⟩ := h; rfl
  case hb =>
    obtain ⟨c, rfl, h1⟩ := h
    have z3 : 3 ≤ sizeLine := by decide
    refine ⟨_, rfl, ?_⟩
    have other : dRet (dLst (dCons (dVar 0) (dCons (dOp opAdd (dC (.int 1)) (dOp opMod (dBi rInt (dCons (dVar 0) dNil)) (dC (.int 1009)))) (dCons (dBi rInt (dCons (dOp opGe (dVar 0) (dOp opPow (dC (.int 10)) (dC (.int 18)))) dNil)) dNil)))) (fin Q E) [some (.int c)] S :=
      ⟨_, rfl, _, rfl, by decide, _, rfl, ⟨by decide, by decide, by decide⟩, z3, fun q hq => ⟨_, Sub.refl _, h1 _ _ _ q hq⟩⟩
    refine itd (fun c1 => ?_) (fun c1 => other)
    refine itd (fun c2 => ?_) (fun c2 => other)
    exact ⟨_, rfl, z3, fun q hq => ⟨_, Sub.refl _, h1 _ _ _ q hq⟩⟩

theorem ok__law_roll {P : Program} {w : World} {K : PySem.W.Frag} {mg : Str → Option Value} {base : Heap} {Z : Zt} {f : Addr} {fd : FuncData} {cdv : Value} (hfn : ∀ i, Z.fn i = fnOf' fnT i) (hlm : ∀ j, Z.lm j = lmT j) (hM : TxOk P w K mg base Z tx (M17 Z)) (F : FunC K "_law_roll" "_law_roll" s__law_roll f fd cdv .none) : FnD P w K mg base Z 1 f (e__law_roll) := by
  have nd := sc__law_roll.nd
  refine FnD.mk0 (ps := ["dice", "many"]) (fn_bodyC F sc__law_roll (fun ds S Q E h => ?len) _ (fun A outer s H E hr => (pdss_cons (pds_if (PDW.pt (pdw_or (pdt_cmp (od_eq (hu64 hr)) (pd_ix (pd_var 0) pd_int) pd_int) (pdw_or1 (PDW.pt (pdw_and (pdt_cmp (od_eq (hu64 hr)) (pd_ix (pd_var 0) pd_int) pd_int) (pdw_and1 (pdt_cmp od_gt (pd_ix (pd_var 0) pd_int) pd_int))))))) (pdss_cons (pds_set nd (i := 2) (pd_op od_mod (pd_ty hM cd_int 3 (by rfl) (by rfl) bt_int (pda_cons (pd_ix (pd_var 0) pd_int) pda_nil)) (pd_var 1)))
    (pdss_cons (pds_asg (pd_op od_div (pd_ix (pd_var 0) pd_int) (pd_var 1)) (pdg_ix (pd_var 0) pd_int))
    (pdss_one (pds_ret (pd_var 2))))) pdss_nil)
    (pdss_cons (pds_asg pd_int (pdg_ix (pd_var 0) pd_int))
    (pdss_cons (pds_if (pdt_cmp od_gt (pd_var 1) pd_int) (pdss_one (pds_ret (pd_op od_mod (pd_ty hM cd_int 3 (by rfl) (by rfl) bt_int (pda_cons (pd_op od_add (pd_op od_mul (pd_call hM hr 17 2 (by rfl) (by rfl) (pda_cons (pd_var 0) (pda_cons (pd_op od_add (pd_op od_div (pd_var 1) pd_int) pd_int) pda_nil))) pd_int) (pd_call hM hr 17 2 (by rfl) (by rfl) (pda_cons (pd_var 0) (pda_cons pd_int pda_nil)))) pda_nil)) (pd_var 1)))) pdss_nil)
    (pdss_cons (pds_asg (pd_op od_mod (pd_ty hM cd_int 3 (by rfl) (by rfl) bt_int (pda_cons (pd_op od_add (pd_op od_add (pd_op od_mul (pd_ix (pd_var 0) pd_int) pd_int) (pd_op od_mul (pd_ix (pd_var 0) pd_int) pd_int)) pd_int) pda_nil)) pd_int) (pdg_ix (pd_var 0) pd_int))
    (pdss_cons (pds_asg (pd_op od_add (pd_ix (pd_var 0) pd_int) pd_int) (pdg_ix (pd_var 0) pd_int))
    (pdss_one (pds_ret (pd_op od_mod (pd_ty hM cd_int 3 (by rfl) (by rfl) bt_int (pda_cons (pd_op od_div (pd_ix (pd_var 0) pd_int) pd_int) pda_nil)) (pd_var 1)))))))))) (fun ds S Q E h => ?hb)) rfl rfl (F.binds fun _ _ _ _ _ _ us hl => match us, hl with | [_, _], _ => rfl)
  case len => obtain ⟨_, _, _, _, _, rfl, _⟩ := h; rfl
  case hb =>
    obtain ⟨q, m, a, b, d, rfl, m0, m1, hq, h1⟩ := h
    have mz : m ≠ 0 := by omega
    have md : DivOk m := divS mz (by omega)
    have first : dSeq (dAsg (dOp opMod (dBi rInt (dCons (dOp opIx (dVar 0) (dC (.int 0))) dNil)) (dVar 1)) (gN 2)) (dSeq (dAsg (dOp opDiv (dOp opIx (dVar 0) (dC (.int 0))) (dVar 1)) (gIx (dVar 0) (dC (.int 0)))) (dRet (dVar 2))) (fin Q E) [some (.ref q), some (.int m), none] S := by
      refine ⟨_, rfl, _, _, hq, rfl, _, rfl, mz, _, rfl, _, _, hq, rfl, _, rfl, md, _, rfl, _, _, hq, rfl, _, rfl, _, Sub.refl _, ?_⟩
      exact h1 _ _ _ _ (by rw [Int.fmod_eq_emod_of_nonneg _ (by omega)]; exact Int.emod_nonneg _ mz) (by rw [Int.fmod_eq_emod_of_nonneg _ (by omega)]; exact Int.emod_lt_of_pos _ m0)
    have second : dSeq (dAsg (dC (.int 0)) (gIx (dVar 0) (dC (.int 2)))) (dSeq (dIfS (dTest (dOp opGt (dVar 1) (dC (.int 100000000)))) (dRet (dOp opMod (dBi rInt (dCons (dOp opAdd (dOp opMul (dCall (M17 Z) 0 17 2 (dCons (dVar 0) (dCons (dOp opAdd (dOp opDiv (dVar 1) (dC (.int 100000000))) (dC (.int 1))) dNil))) (dC (.int 100000000))) (dCall (M17 Z) 0 17 2 (dCons (dVar 0) (dCons (dC (.int 100000000)) dNil)))) dNil)) (dVar 1))) dNext)
        (dSeq (dAsg (dOp opMod (dBi rInt (dCons (dOp opAdd (dOp opAdd (dOp opMul (dOp opIx (dVar 0) (dC (.int 0))) (dC (.int 48271))) (dOp opMul (dOp opIx (dVar 0) (dC (.int 1))) (dC (.int 69621)))) (dC (.int 11))) dNil)) (dC (.int 2147483647))) (gIx (dVar 0) (dC (.int 0))))
          (dSeq (dAsg (dOp opAdd (dOp opIx (dVar 0) (dC (.int 1))) (dC (.int 1))) (gIx (dVar 0) (dC (.int 1)))) (dRet (dOp opMod (dBi rInt (dCons (dOp opDiv (dOp opIx (dVar 0) (dC (.int 0))) (dC (.int 7))) dNil)) (dVar 1)))))) (fin Q E) [some (.ref q), some (.int m), none] S := by
      refine ⟨_, rfl, _, _, hq, rfl, _, rfl, ?_⟩
      refine itd (fun c => absurd c (by omega)) (fun _ => ?_)
      refine ⟨_, rfl, _, _, put_same, rfl, mulR (by decide), _, rfl, _, _, put_same, rfl, mulR (by decide), by decide, _, rfl, _, _, put_same, rfl, ?_⟩
      refine ⟨_, rfl, _, _, put_same, rfl, _, rfl, _, _, put_same, rfl, ?_⟩
      refine ⟨_, rfl, _, _, put_same, rfl, divS (by decide) (by decide), _, rfl, mz, _, Sub.refl _, ?_⟩
      rw [put_put, put_put]
      exact h1 _ _ _ _ (by rw [Int.fmod_eq_emod_of_nonneg _ (by omega)]; exact Int.emod_nonneg _ mz) (by rw [Int.fmod_eq_emod_of_nonneg _ (by omega)]; exact Int.emod_lt_of_pos _ m0)
    refine ⟨_, rfl, _, _, hq, rfl, ?_⟩
    refine itd (fun c1 => first) (fun c1 => ?_)
    refine ⟨_, rfl, _, _, hq, rfl, ?_⟩
    refine itd (fun c2 => ?_) (fun c2 => second)
    refine ⟨_, rfl, _, _, hq, rfl, ?_⟩
    exact itd (fun c3 => first) (fun c3 => second)

theorem ok__law_rounds {P : Program} {w : World} {K : PySem.W.Frag} {mg : Str → Option Value} {base : Heap} {Z : Zt} {f : Addr} {fd : FuncData} {cdv : Value} (hfn : ∀ i, Z.fn i = fnOf' fnT i) (hlm : ∀ j, Z.lm j = lmT j) (hM : TxOk P w K mg base Z tx (M18 Z)) (F : FunC K "_law_rounds" "_law_rounds" s__law_rounds f fd cdv .none) : FnD P w K mg base Z 2 f (e__law_rounds) := by
  have nd := sc__law_rounds.nd
  refine FnD.mk0 (ps := ["script", "most"]) (fn_bodyC F sc__law_rounds (fun ds S Q E h => ?len) _ (fun A outer s H E hr => (pdss_cons (pds_set nd (i := 2) (pd_slice (pd_var 0) pdo_none (pdo_some (pd_var 1))))
    (pdss_cons (pds_if (pdt_cmp (od_eq (hu64 hr)) (pd_var 2) (pd_lst pda_nil)) (pdss_one (pds_set nd (i := 2) (pd_lst (pda_cons pd_int pda_nil)))) pdss_nil)
    (pdss_one (pds_ret (pd_lc (by rfl) nd (pdi_any (pd_var 2)) [("cell", 3)] (blkOk_by (by with_unfolding_all rfl)) (by decide) (fun _ _ _ _ _ => (pdg_name nd (i := 3))) (fun _ _ _ _ _ => pdts_nil) (fun _ _ _ _ _ => (pd_call hM hr 16 1 (by rfl) (by rfl) (pda_cons (pd_var 3) pda_nil))))))))) (fun ds S Q E h => ?hb)) rfl rfl (F.binds fun _ _ _ _ _ _ us hl => match us, hl with | [_, _], _ => rfl)
  case len => obtain ⟨_, _, rfl, _⟩ := h; rfl
  case hb =>
    obtain ⟨ns, x, rfl, hx, h1⟩ := h
    have sn : ∀ {S S' : DS} {p : Addr}, Sub S S' → S' p = none → S p = none := fun {S S' p} s h => by
      cases e : S p with
      | none => rfl
      | some o => rw [s p o e] at h; cases h
    have fin1 : ∀ (S1 : DS) (l : Addr) (n : Int), Sub S S1 → S1 l = some (.lst [.int n]) → dRet (dLc (iAny (dVar 2)) (gN 3) dYes (dCall (M18 Z) 1 16 1 (dCons (dVar 3) dNil)) [3]) (fin Q E) [some x, some (.int 1), some (.ref l), none] S1 := fun S1 l n s hl => by
      refine ⟨_, rfl, _, hl, by show 1 ≤ sizeLine; decide, fun i acc S' => (i = 0 ∧ acc = [] ∧ S' = S1) ∨ (i = 1 ∧ ∃ (p : Addr) (a b d : Int), acc = [.ref p] ∧ S1 p = none ∧ S' = put S1 p (.lst [.int a, .int b, .int d])), .inl ⟨rfl, rfl, rfl⟩, ?_, ?_, ?_⟩
      · rintro i acc S' (⟨rfl, rfl, rfl⟩ | ⟨rfl, p, a, b, d, rfl, hp, rfl⟩)
        · exact hl
        · exact keep_put hl hp
      · rintro i d acc S' hd (⟨rfl, rfl, rfl⟩ | ⟨rfl, p, a, b, d, rfl, hp, rfl⟩)
        · cases hd
          refine ⟨_, rfl, ⟨by decide, by decide, by decide, rfl⟩, _, rfl, n, rfl, fun a b d q hq => ?_⟩
          exact ⟨_, Sub.refl _, .inr ⟨rfl, q, a, b, d, rfl, hq, rfl⟩⟩
        · cases hd
      · rintro acc S' g (⟨h, _, _⟩ | ⟨_, p, a, b, d, rfl, hp, rfl⟩) hg
        · cases h
        · exact ⟨_, Sub.put (Sub.put s _ _) _ _, h1 a b d p g (sn s hp) (sn s (put_none hg)) (Ne.symm (put_none_ne hg))⟩
    refine ⟨_, rfl, _, rfl, slScript hx fun l hl => ?_⟩
    refine ⟨_, rfl, by show 0 ≤ sizeLine; decide, fun l2 hl2 => ?_⟩
    have s0 := keep_put (u := .lst []) (put_same (S := S) (a := l) (o := .lst (G.cutD (ns.map D.int) none (some 1)))) hl2
    clear hx
    cases ns with
    | nil =>
      refine ⟨_, _, s0, put_same, rfl, rfl, ?_⟩
      refine ⟨by show 1 ≤ sizeLine; decide, fun l3 hl3 => ?_⟩
      exact fin1 _ l3 0 (((Sub.new hl).trans (Sub.new hl2)).trans (Sub.new hl3)) put_same
    | cons n r =>
      have e : G.cutD ((n :: r).map D.int) none (some 1) = [.int n] := by
        unfold G.cutD
        rw [HT.sIx_none, show ((1 : Int)) = ((1 : Nat) : Int) from rfl, HT.sIx_nat]
        simp
      rw [e] at s0 ⊢
      refine ⟨_, _, s0, put_same, rfl, rfl, ?_⟩
      exact fin1 _ l n ((Sub.new hl).trans (Sub.new hl2)) s0

theorem ok_lam_0 {P : Program} {w : World} {K : PySem.W.Frag} {mg : Str → Option Value} {base : Heap} {Z : Zt} (hfn : ∀ i, Z.fn i = fnOf' fnT i) (hM : TxOk P w K mg base Z tx (M19 Z)) {l : LamR} (hl : lmT 0 = some l) : LamOk P w K mg base Z 3 l (sp_lam_0) := by
  cases hl
  refine ⟨⟨rfl, rfl, rfl, by decide +kernel⟩, fun _ _ _ => rfl, _, fun A outer s H E f c' hr => (pd_call hM hr 0 1 (by rfl) (by rfl) (pda_cons pd_int pda_nil)), fun S Q E h => ?hb⟩
  case hb =>
    exact ⟨_, rfl, ⟨by decide, by decide, by decide, rfl⟩, 702, rfl, fun q => absurd q.2 (by decide), fun _ => ⟨_, Sub.refl _, h⟩⟩

theorem ok_lam_1 {P : Program} {w : World} {K : PySem.W.Frag} {mg : Str → Option Value} {base : Heap} {Z : Zt} (hfn : ∀ i, Z.fn i = fnOf' fnT i) (hM : TxOk P w K mg base Z tx (M20 Z)) {l : LamR} (hl : lmT 1 = some l) : LamOk P w K mg base Z 3 l (sp_lam_1) := by
  cases hl
  refine ⟨⟨rfl, rfl, rfl, by decide +kernel⟩, fun _ _ _ => rfl, _, fun A outer s H E f c' hr => (pd_call hM hr 0 1 (by rfl) (by rfl) (pda_cons (pd_neg pd_int) pda_nil)), fun S Q E h => ?hb⟩
  case hb =>
    exact ⟨_, rfl, ⟨by decide, by decide, by decide, rfl⟩, -1, rfl, fun q => absurd q.1 (by decide), fun _ => ⟨_, Sub.refl _, h⟩⟩

theorem ok_lam_2 {P : Program} {w : World} {K : PySem.W.Frag} {mg : Str → Option Value} {base : Heap} {Z : Zt} (hfn : ∀ i, Z.fn i = fnOf' fnT i) (hM : TxOk P w K mg base Z tx (M21 Z)) {l : LamR} (hl : lmT 2 = some l) : LamOk P w K mg base Z 3 l (sp_lam_2) := by
  cases hl
  refine ⟨⟨rfl, rfl, rfl, by decide +kernel⟩, fun _ _ _ => rfl, _, fun A outer s H E f c' hr => (pd_call hM hr 1 1 (by rfl) (by rfl) (pda_cons pd_str pda_nil)), fun S Q E h => ?hb⟩
  case hb =>
    exact ⟨_, rfl, ⟨by decide, by decide, by decide, rfl⟩, "AAA", rfl, by decide +kernel, fun q => absurd q (by decide +kernel), fun _ => ⟨_, Sub.refl _, h⟩⟩

theorem ok_lam_3 {P : Program} {w : World} {K : PySem.W.Frag} {mg : Str → Option Value} {base : Heap} {Z : Zt} (hfn : ∀ i, Z.fn i = fnOf' fnT i) (hM : TxOk P w K mg base Z tx (M22 Z)) {l : LamR} (hl : lmT 3 = some l) : LamOk P w K mg base Z 3 l (sp_lam_3) := by
  cases hl
  refine ⟨⟨rfl, rfl, rfl, by decide +kernel⟩, fun _ _ _ => rfl, _, fun A outer s H E f c' hr => (pd_call hM hr 1 1 (by rfl) (by rfl) (pda_cons pd_str pda_nil)), fun S Q E h => ?hb⟩
  case hb =>
    exact ⟨_, rfl, ⟨by decide, by decide, by decide, rfl⟩, "a", rfl, by decide +kernel, fun q => absurd q (by decide +kernel), fun _ => ⟨_, Sub.refl _, h⟩⟩

theorem ok_lam_4 {P : Program} {w : World} {K : PySem.W.Frag} {mg : Str → Option Value} {base : Heap} {Z : Zt} (hfn : ∀ i, Z.fn i = fnOf' fnT i) (hM : TxOk P w K mg base Z tx (M23 Z)) {l : LamR} (hl : lmT 4 = some l) : LamOk P w K mg base Z 3 l (sp_lam_4) := by
  cases hl
  refine ⟨⟨rfl, rfl, rfl, by decide +kernel⟩, fun _ _ _ => rfl, _, fun A outer s H E f c' hr => (pd_call hM hr 1 1 (by rfl) (by rfl) (pda_cons pd_str pda_nil)), fun S Q E h => ?hb⟩
  case hb =>
    exact ⟨_, rfl, ⟨by decide, by decide, by decide, rfl⟩, "", rfl, by decide +kernel, fun q => absurd q (by decide +kernel), fun _ => ⟨_, Sub.refl _, h⟩⟩

theorem ok_lam_5 {P : Program} {w : World} {K : PySem.W.Frag} {mg : Str → Option Value} {base : Heap} {Z : Zt} (hfn : ∀ i, Z.fn i = fnOf' fnT i) (hM : TxOk P w K mg base Z tx (M24 Z)) {l : LamR} (hl : lmT 5 = some l) : LamOk P w K mg base Z 3 l (sp_lam_5) := by
  cases hl
  refine ⟨⟨rfl, rfl, rfl, by decide +kernel⟩, fun _ _ _ => rfl, _, fun A outer s H E f c' hr => (pd_call hM hr 2 1 (by rfl) (by rfl) (pda_cons (pd_tup (pda_cons pd_int (pda_cons pd_int pda_nil))) pda_nil)), fun S Q E h => ?hb⟩
  case hb =>
    exact ⟨_, rfl, ⟨by decide, by decide, by decide, rfl⟩, by show 2 ≤ sizeLine; decide, 0, 9999, rfl, fun q => absurd q.2.2.2 (by decide), fun _ => ⟨_, Sub.refl _, h⟩⟩

theorem ok_lam_6 {P : Program} {w : World} {K : PySem.W.Frag} {mg : Str → Option Value} {base : Heap} {Z : Zt} (hfn : ∀ i, Z.fn i = fnOf' fnT i) (hM : TxOk P w K mg base Z tx (M25 Z)) {l : LamR} (hl : lmT 6 = some l) : LamOk P w K mg base Z 3 l (sp_lam_6) := by
  cases hl
  refine ⟨⟨rfl, rfl, rfl, by decide +kernel⟩, fun _ _ _ => rfl, _, fun A outer s H E f c' hr => (pd_call hM hr 3 1 (by rfl) (by rfl) (pda_cons pd_str pda_nil)), fun S Q E h => ?hb⟩
  case hb =>
    exact ⟨_, rfl, ⟨by decide, by decide, by decide, rfl⟩, "A0", rfl, by decide +kernel, fun x y q => absurd (q.symm.trans (by decide +kernel : spotOf (("A0" : Str)).cps.toList = none)) (fun z => nomatch z), fun _ => ⟨_, Sub.refl _, h⟩⟩

theorem ok_lam_7 {P : Program} {w : World} {K : PySem.W.Frag} {mg : Str → Option Value} {base : Heap} {Z : Zt} (hfn : ∀ i, Z.fn i = fnOf' fnT i) (hM : TxOk P w K mg base Z tx (M26 Z)) {l : LamR} (hl : lmT 7 = some l) : LamOk P w K mg base Z 3 l (sp_lam_7) := by
  cases hl
  refine ⟨⟨rfl, rfl, rfl, by decide +kernel⟩, fun _ _ _ => rfl, _, fun A outer s H E f c' hr => (pd_call hM hr 3 1 (by rfl) (by rfl) (pda_cons pd_str pda_nil)), fun S Q E h => ?hb⟩
  case hb =>
    exact ⟨_, rfl, ⟨by decide, by decide, by decide, rfl⟩, "A01", rfl, by decide +kernel, fun x y q => absurd (q.symm.trans (by decide +kernel : spotOf (("A01" : Str)).cps.toList = none)) (fun z => nomatch z), fun _ => ⟨_, Sub.refl _, h⟩⟩

theorem ok_lam_8 {P : Program} {w : World} {K : PySem.W.Frag} {mg : Str → Option Value} {base : Heap} {Z : Zt} (hfn : ∀ i, Z.fn i = fnOf' fnT i) (hM : TxOk P w K mg base Z tx (M27 Z)) {l : LamR} (hl : lmT 8 = some l) : LamOk P w K mg base Z 3 l (sp_lam_8) := by
  cases hl
  refine ⟨⟨rfl, rfl, rfl, by decide +kernel⟩, fun _ _ _ => rfl, _, fun A outer s H E f c' hr => (pd_call hM hr 3 1 (by rfl) (by rfl) (pda_cons pd_str pda_nil)), fun S Q E h => ?hb⟩
  case hb =>
    exact ⟨_, rfl, ⟨by decide, by decide, by decide, rfl⟩, "A", rfl, by decide +kernel, fun x y q => absurd (q.symm.trans (by decide +kernel : spotOf (("A" : Str)).cps.toList = none)) (fun z => nomatch z), fun _ => ⟨_, Sub.refl _, h⟩⟩

theorem ok_lam_9 {P : Program} {w : World} {K : PySem.W.Frag} {mg : Str → Option Value} {base : Heap} {Z : Zt} (hfn : ∀ i, Z.fn i = fnOf' fnT i) (hM : TxOk P w K mg base Z tx (M28 Z)) {l : LamR} (hl : lmT 9 = some l) : LamOk P w K mg base Z 3 l (sp_lam_9) := by
  cases hl
  refine ⟨⟨rfl, rfl, rfl, by decide +kernel⟩, fun _ _ _ => rfl, _, fun A outer s H E f c' hr => (pd_call hM hr 3 1 (by rfl) (by rfl) (pda_cons pd_str pda_nil)), fun S Q E h => ?hb⟩
  case hb =>
    exact ⟨_, rfl, ⟨by decide, by decide, by decide, rfl⟩, "1", rfl, by decide +kernel, fun x y q => absurd (q.symm.trans (by decide +kernel : spotOf (("1" : Str)).cps.toList = none)) (fun z => nomatch z), fun _ => ⟨_, Sub.refl _, h⟩⟩

theorem ok_lam_10 {P : Program} {w : World} {K : PySem.W.Frag} {mg : Str → Option Value} {base : Heap} {Z : Zt} (hfn : ∀ i, Z.fn i = fnOf' fnT i) (hM : TxOk P w K mg base Z tx (M29 Z)) {l : LamR} (hl : lmT 10 = some l) : LamOk P w K mg base Z 3 l (sp_lam_10) := by
  cases hl
  refine ⟨⟨rfl, rfl, rfl, by decide +kernel⟩, fun _ _ _ => rfl, _, fun A outer s H E f c' hr => (pd_call hM hr 3 1 (by rfl) (by rfl) (pda_cons pd_str pda_nil)), fun S Q E h => ?hb⟩
  case hb =>
    exact ⟨_, rfl, ⟨by decide, by decide, by decide, rfl⟩, "A10000", rfl, by decide +kernel, fun x y q => absurd (q.symm.trans (by decide +kernel : spotOf (("A10000" : Str)).cps.toList = none)) (fun z => nomatch z), fun _ => ⟨_, Sub.refl _, h⟩⟩

theorem ok_lam_11 {P : Program} {w : World} {K : PySem.W.Frag} {mg : Str → Option Value} {base : Heap} {Z : Zt} (hfn : ∀ i, Z.fn i = fnOf' fnT i) (hM : TxOk P w K mg base Z tx (M30 Z)) {l : LamR} (hl : lmT 11 = some l) : LamOk P w K mg base Z 3 l (sp_lam_11) := by
  cases hl
  refine ⟨⟨rfl, rfl, rfl, by decide +kernel⟩, fun _ _ _ => rfl, _, fun A outer s H E f c' hr => (pd_call hM hr 3 1 (by rfl) (by rfl) (pda_cons pd_str pda_nil)), fun S Q E h => ?hb⟩
  case hb =>
    exact ⟨_, rfl, ⟨by decide, by decide, by decide, rfl⟩, "AAA1", rfl, by decide +kernel, fun x y q => absurd (q.symm.trans (by decide +kernel : spotOf (("AAA1" : Str)).cps.toList = none)) (fun z => nomatch z), fun _ => ⟨_, Sub.refl _, h⟩⟩

theorem ok_lam_12 {P : Program} {w : World} {K : PySem.W.Frag} {mg : Str → Option Value} {base : Heap} {Z : Zt} (hfn : ∀ i, Z.fn i = fnOf' fnT i) (hM : TxOk P w K mg base Z tx (M31 Z)) {l : LamR} (hl : lmT 12 = some l) : LamOk P w K mg base Z 3 l (sp_lam_12) := by
  cases hl
  refine ⟨⟨rfl, rfl, rfl, by decide +kernel⟩, fun _ _ _ => rfl, _, fun A outer s H E f c' hr => (pd_make hM hr 0 4 (by rfl) (by rfl) (pda_cons pd_int (pda_cons pd_int (pda_cons pd_int (pda_cons pd_int pda_nil))))), fun S Q E h => ?hb⟩
  case hb =>
    exact ⟨5, _, rfl, rfl, ⟨by decide, by decide, by decide, rfl⟩, fun a ha => ⟨a, 1, 0, 0, 0, rfl, put_same, fun q => absurd q (by decide), fun _ => ⟨_, Sub.new ha, h⟩⟩⟩

theorem ok_lam_13 {P : Program} {w : World} {K : PySem.W.Frag} {mg : Str → Option Value} {base : Heap} {Z : Zt} (hfn : ∀ i, Z.fn i = fnOf' fnT i) (hM : TxOk P w K mg base Z tx (M32 Z)) {l : LamR} (hl : lmT 13 = some l) : LamOk P w K mg base Z 3 l (sp_lam_13) := by
  cases hl
  refine ⟨⟨rfl, rfl, rfl, by decide +kernel⟩, fun _ _ _ => rfl, _, fun A outer s H E f c' hr => (pd_make hM hr 0 4 (by rfl) (by rfl) (pda_cons pd_int (pda_cons pd_int (pda_cons pd_int (pda_cons pd_int pda_nil))))), fun S Q E h => ?hb⟩
  case hb =>
    exact ⟨5, _, rfl, rfl, ⟨by decide, by decide, by decide, rfl⟩, fun a ha => ⟨a, 0, 0, 702, 0, rfl, put_same, fun q => absurd q (by decide), fun _ => ⟨_, Sub.new ha, h⟩⟩⟩

theorem ok_lam_14 {P : Program} {w : World} {K : PySem.W.Frag} {mg : Str → Option Value} {base : Heap} {Z : Zt} (hfn : ∀ i, Z.fn i = fnOf' fnT i) (hM : TxOk P w K mg base Z tx (M33 Z)) {l : LamR} (hl : lmT 14 = some l) : LamOk P w K mg base Z 3 l (sp_lam_14) := by
  cases hl
  refine ⟨⟨rfl, rfl, rfl, by decide +kernel⟩, fun _ _ _ => rfl, _, fun A outer s H E f c' hr => (pd_call hM hr 12 1 (by rfl) (by rfl) (pda_cons pd_str pda_nil)), fun S Q E h => ?hb⟩
  case hb =>
    exact ⟨_, rfl, ⟨by decide, by decide, by decide, rfl⟩, "A1:", rfl, by decide +kernel, fun l t r b q => absurd (q.symm.trans (by decide +kernel : areaOf (("A1:" : Str)).cps.toList = none)) (fun z => nomatch z), fun _ => ⟨_, Sub.refl _, h⟩⟩

theorem ok_lam_15 {P : Program} {w : World} {K : PySem.W.Frag} {mg : Str → Option Value} {base : Heap} {Z : Zt} (hfn : ∀ i, Z.fn i = fnOf' fnT i) (hM : TxOk P w K mg base Z tx (M34 Z)) {l : LamR} (hl : lmT 15 = some l) : LamOk P w K mg base Z 3 l (sp_lam_15) := by
  cases hl
  refine ⟨⟨rfl, rfl, rfl, by decide +kernel⟩, fun _ _ _ => rfl, _, fun A outer s H E f c' hr => (pd_call hM hr 12 1 (by rfl) (by rfl) (pda_cons pd_str pda_nil)), fun S Q E h => ?hb⟩
  case hb =>
    exact ⟨_, rfl, ⟨by decide, by decide, by decide, rfl⟩, "A1:B", rfl, by decide +kernel, fun l t r b q => absurd (q.symm.trans (by decide +kernel : areaOf (("A1:B" : Str)).cps.toList = none)) (fun z => nomatch z), fun _ => ⟨_, Sub.refl _, h⟩⟩

theorem ok__law_told {P : Program} {w : World} {K : PySem.W.Frag} {mg : Str → Option Value} {base : Heap} {Z : Zt} {f : Addr} {fd : FuncData} {cdv : Value} (hfn : ∀ i, Z.fn i = fnOf' fnT i) (hlm : ∀ j, Z.lm j = lmT j) (hM : TxOk P w K mg base Z tx (M35 Z)) (F : FunC K "_law_told" "_law_told" s__law_told f fd cdv .none) : FnD P w K mg base Z 5 f (e__law_told Z) := by
  have nd := sc__law_told.nd
  refine FnD.mk0 (ps := ["what"]) (fn_bodyC F sc__law_told (fun ds S Q E h => ?len) _ (fun A outer s H E hr => (pdss_one (pds_try hM 0 (by rfl) (by rfl) (fun pn xe hp => (pdss_one (pds_ret (pd_act hM hr 0)))) (fun a oe pn => (pdss_one (pds_ret pd_str)))))) (fun ds S Q E h => ?hb)) rfl rfl (F.binds fun _ _ _ _ _ _ us hl => match us, hl with | [_], _ => rfl)
  case len => obtain ⟨_, _, rfl, _⟩ := h; rfl
  case hb =>
    obtain ⟨f, j, rfl, hf, hj, h1⟩ := h
    have go : ∀ (n : Nat) (e : Ent), (M35 Z)[n]? = some e → e.la = some j → e.lv ≤ 3 → e.sp = (fun ds S Q E => E 0 S) → dTry tx 0 (dRet (dAct (M35 Z) Z 3 0)) (dRet (dC (.str "SpotError"))) (fin Q E) [some (.ref f)] S := fun n e h2 h3 h4 h5 => by
      refine ⟨f, j, n, e, rfl, hf, h2, h3, h4, ?_⟩
      rw [h5]
      exact ⟨true, rfl, fun _ => ⟨_, Sub.refl _, h1⟩, fun h => nomatch h⟩
    match j, hj, go with
    | 0, _, go => exact go 19 _ rfl rfl (by decide) rfl
    | 1, _, go => exact go 20 _ rfl rfl (by decide) rfl
    | 2, _, go => exact go 21 _ rfl rfl (by decide) rfl
    | 3, _, go => exact go 22 _ rfl rfl (by decide) rfl
    | 4, _, go => exact go 23 _ rfl rfl (by decide) rfl
    | 5, _, go => exact go 24 _ rfl rfl (by decide) rfl
    | 6, _, go => exact go 25 _ rfl rfl (by decide) rfl
    | 7, _, go => exact go 26 _ rfl rfl (by decide) rfl
    | 8, _, go => exact go 27 _ rfl rfl (by decide) rfl
    | 9, _, go => exact go 28 _ rfl rfl (by decide) rfl
    | 10, _, go => exact go 29 _ rfl rfl (by decide) rfl
    | 11, _, go => exact go 30 _ rfl rfl (by decide) rfl
    | 12, _, go => exact go 31 _ rfl rfl (by decide) rfl
    | 13, _, go => exact go 32 _ rfl rfl (by decide) rfl
    | 14, _, go => exact go 33 _ rfl rfl (by decide) rfl
    | 15, _, go => exact go 34 _ rfl rfl (by decide) rfl
    | n + 16, h, _ => exact absurd h (by omega)

theorem ok__law_column {P : Program} {w : World} {K : PySem.W.Frag} {mg : Str → Option Value} {base : Heap} {Z : Zt} {f : Addr} {fd : FuncData} {cdv : Value} (hfn : ∀ i, Z.fn i = fnOf' fnT i) (hlm : ∀ j, Z.lm j = lmT j) (hM : TxOk P w K mg base Z tx (M36 Z)) (F : FunC K "_law_column" "_law_column" s__law_column f fd cdv .none) : FnD P w K mg base Z 1 f (e__law_column) := by
  have nd := sc__law_column.nd
  refine FnD.mk0 (ps := ["column"]) (fn_bodyC F sc__law_column (fun ds S Q E h => ?len) _ (fun A outer s H E hr => (pdss_cons (pds_set nd (i := 1) pd_str)
    (pdss_one (pds_ret (pd_if (pdt_cmp od_lt (pd_var 0) pd_int) (pd_ix (pd_var 1) (pd_var 0)) (pd_op od_add (pd_ix (pd_var 1) (pd_op od_sub (pd_op od_div (pd_var 0) pd_int) pd_int)) (pd_ix (pd_var 1) (pd_op od_mod (pd_var 0) pd_int)))))))) (fun ds S Q E h => ?hb)) rfl rfl (F.binds fun _ _ _ _ _ _ us hl => match us, hl with | [_], _ => rfl)
  case len => obtain ⟨_, rfl, _⟩ := h; rfl
  case hb =>
    obtain ⟨c, rfl, c0, c1, h1⟩ := h
    unfold colName colL at h1
    refine ⟨_, rfl, ?_⟩
    refine itd (fun h4 => ?_) (fun h4 => ?_)
    · rw [if_pos h4] at h1
      exact ⟨_, rfl, _, rfl, by decide, _, atLETi c0 h4, _, Sub.refl _, h1⟩
    · rw [if_neg h4] at h1
      refine ⟨_, rfl, _, rfl, div26, ?_⟩
      rw [fdiv26]
      refine ⟨by decide, _, atLETi (by omega) (by omega), _, rfl, _, rfl, by decide, ?_⟩
      rw [Int.fmod_eq_emod_of_nonneg _ (by decide)]
      exact ⟨by decide, _, atLETi (by omega) (by omega), by show 1 + 1 ≤ sizeLine; decide, _, Sub.refl _, h1⟩

theorem ok__law_area {P : Program} {w : World} {K : PySem.W.Frag} {mg : Str → Option Value} {base : Heap} {Z : Zt} {f : Addr} {fd : FuncData} {cdv : Value} (hfn : ∀ i, Z.fn i = fnOf' fnT i) (hlm : ∀ j, Z.lm j = lmT j) (hM : TxOk P w K mg base Z tx (M37 Z)) (F : FunC K "_law_area" "_law_area" s__law_area f fd cdv .none) : FnD P w K mg base Z 2 f (e__law_area) := by
  have nd := sc__law_area.nd
  refine FnD.mk0 (ps := ["dice", "size"]) (fn_bodyC F sc__law_area (fun ds S Q E h => ?len) _ (fun A outer s H E hr => (pdss_cons (pds_par2 (i := 2) (j := 3) (by rfl) nd (pda_cons (pd_call hM hr 17 2 (by rfl) (by rfl) (pda_cons (pd_var 0) (pda_cons (pd_var 1) pda_nil))) (pda_cons (pd_call hM hr 17 2 (by rfl) (by rfl) (pda_cons (pd_var 0) (pda_cons (pd_var 1) pda_nil))) pda_nil)) (by rfl))
    (pdss_one (pds_ret (pd_tup (pda_cons (pd_var 2) (pda_cons (pd_var 3) (pda_cons (pd_op od_add (pd_var 2) (pd_call hM hr 17 2 (by rfl) (by rfl) (pda_cons (pd_var 0) (pda_cons (pd_var 1) pda_nil)))) (pda_cons (pd_op od_add (pd_var 3) (pd_call hM hr 17 2 (by rfl) (by rfl) (pda_cons (pd_var 0) (pda_cons (pd_var 1) pda_nil)))) pda_nil))))))))) (fun ds S Q E h => ?hb)) rfl rfl (F.binds fun _ _ _ _ _ _ us hl => match us, hl with | [_, _], _ => rfl)
  case len => obtain ⟨_, _, _, _, rfl, _⟩ := h; rfl
  case hb =>
    obtain ⟨q, a, b, d, rfl, hq, h1⟩ := h
    have z4 : 4 ≤ sizeLine := by decide
    refine ⟨_, rfl, ⟨by decide, by decide, by decide, rfl⟩, _, rfl, _, rfl, q, 6, a, b, d, rfl, by decide, by decide, hq, fun l a b d l0 l6 => ?_⟩
    refine ⟨_, rfl, ⟨by decide, by decide, by decide, rfl⟩, _, rfl, _, rfl, q, 6, a, b, d, rfl, by decide, by decide, put_same, fun t a b d t0 t6 => ?_⟩
    refine ⟨_, rfl, _, rfl, _, rfl, _, rfl, ⟨by decide, by decide, by decide, rfl⟩, _, rfl, _, rfl, q, 6, a, b, d, rfl, by decide, by decide, put_same, fun x a b d x0 x6 => ?_⟩
    refine ⟨_, rfl, _, rfl, ⟨by decide, by decide, by decide, rfl⟩, _, rfl, _, rfl, q, 6, a, b, d, rfl, by decide, by decide, put_same, fun y a b d y0 y6 => ?_⟩
    refine ⟨z4, _, Sub.refl _, ?_⟩
    rw [put_put, put_put, put_put]
    exact h1 _ _ _ _ _ _ _ l0 l6 t0 t6 x0 x6 y0 y6

theorem ok__law_goes {P : Program} {w : World} {K : PySem.W.Frag} {mg : Str → Option Value} {base : Heap} {Z : Zt} {f : Addr} {fd : FuncData} {cdv : Value} (hfn : ∀ i, Z.fn i = fnOf' fnT i) (hlm : ∀ j, Z.lm j = lmT j) (hM : TxOk P w K mg base Z tx (M38 Z)) (F : FunC K "_law_goes" "_law_goes" s__law_goes f fd cdv .none) : FnD P w K mg base Z 1 f (e__law_goes) := by
  have nd := sc__law_goes.nd
  refine FnD.mk0 (ps := ["place", "at", "many"]) (fn_bodyC F sc__law_goes (fun ds S Q E h => ?len) _ (fun A outer s H E hr => (pdss_cons (pds_if (pdt_cmp od_gt (pd_var 2) pd_int) (pdss_one (pds_ret (pd_if (pdt_cmp od_ge (pd_var 0) (pd_var 1)) (pd_op od_add (pd_var 0) (pd_var 2)) (pd_var 0)))) pdss_nil)
    (pdss_one (pds_ret (pd_if (pdt_cmp od_lt (pd_var 0) (pd_var 1)) (pd_var 0) (pd_if (pdt_cmp od_lt (pd_var 0) (pd_op od_sub (pd_var 1) (pd_var 2))) pd_non (pd_op od_add (pd_var 0) (pd_var 2)))))))) (fun ds S Q E h => ?hb)) rfl rfl (F.binds fun _ _ _ _ _ _ us hl => match us, hl with | [_, _, _], _ => rfl)
  case len => obtain ⟨_, _, _, rfl, _⟩ := h; rfl
  case hb =>
    obtain ⟨p, a, m, rfl, m0, h1⟩ := h
    refine ⟨_, rfl, ?_⟩
    unfold mvO at h1
    refine itd (fun c1 => ?_) (fun c1 => ?_)
    · rw [if_pos (by omega : 0 ≤ m)] at h1
      refine ⟨_, rfl, _, rfl, ?_⟩
      refine itd (fun c2 => ?_) (fun c2 => ?_)
      · rw [if_pos c2] at h1
        exact ⟨_, rfl, _, rfl, _, Sub.refl _, h1⟩
      · rw [if_neg c2] at h1
        exact ⟨_, rfl, _, Sub.refl _, h1⟩
    · rw [if_neg (by omega : ¬ 0 ≤ m)] at h1
      refine ⟨_, rfl, _, rfl, ?_⟩
      refine itd (fun c2 => ?_) (fun c2 => ?_)
      · rw [if_pos c2] at h1
        exact ⟨_, rfl, _, Sub.refl _, h1⟩
      · rw [if_neg c2] at h1
        refine ⟨_, rfl, _, rfl, _, rfl, ?_⟩
        refine itd (fun c3 => ?_) (fun c3 => ?_)
        · rw [if_pos c3] at h1
          exact ⟨_, Sub.refl _, h1⟩
        · rw [if_neg c3] at h1
          exact ⟨_, rfl, _, rfl, _, Sub.refl _, h1⟩

theorem ok_law {P : Program} {w : World} {K : PySem.W.Frag} {mg : Str → Option Value} {base : Heap} {Z : Zt} {f : Addr} {fd : FuncData} {cdv : Value} (hfn : ∀ i, Z.fn i = fnOf' fnT i) (hlm : ∀ j, Z.lm j = lmT j) (hM : TxOk P w K mg base Z tx (M39 Z)) (F : FunC K "law" "law" s_law f fd cdv .none) {cA PA : Addr} (hcd : cdv = .ref cA) (hTB : LamX.TabB base mg cA PA) (hTm : (PA, ("law.<locals>.<lambda>" : Str)) ∈ Z.TL) (hTu : ∀ p ∈ Z.TL, p.1 = PA → p.2 = "law.<locals>.<lambda>") : FnOk P w K mg base (L2.CX P w) 7 f fd ["script"] (liftSp K Z sp_law) := by
  have nd := sc_law.nd
  have T : ∀ (A : Around) (outer : List Env) (s : Shared) (H : Hp) (E : XK), TabL (cxOf (L2.CX P w) P w K mg base ["script", "dice", "bad", "ends", "column", "row", "name", "one", "other", "area", "second", "spots", "y", "first", "last", "label", "mixed", "axis", "at", "many", "low", "high", "goes", "left", "due", "found", "place", "f", "x", "spot"] "law" (defScope s_law) f cdv A outer s H E) Z cA PA "law.<locals>.<lambda>" := fun A outer s H E => ⟨hTB, hcd, hTm, hTu⟩
  refine fn_bodyC F sc_law (fun ds S Q E h => ?len) _ (fun A outer s H E hr => (pdss_cons (pds_for (passes_of rfl) (by rfl) (pdi_any (pd_call hM hr 18 2 (by rfl) (by rfl) (pda_cons (pd_var 0) (pda_cons pd_int pda_nil)))) (pdg_name nd (i := 1)) (pdss_cons (pds_par2 (i := 4) (j := 5) (by rfl) nd (pda_cons (pd_call hM hr 17 2 (by rfl) (by rfl) (pda_cons (pd_var 1) (pda_cons pd_int pda_nil))) (pda_cons (pd_call hM hr 17 2 (by rfl) (by rfl) (pda_cons (pd_var 1) (pda_cons pd_int pda_nil))) pda_nil)) (by rfl))
    (pdss_cons (pds_set nd (i := 6) (pd_op od_add (pd_call hM hr 36 1 (by rfl) (by rfl) (pda_cons (pd_var 4) pda_nil)) (pd_ty hM cd_str 2 (by rfl) (by rfl) bt_str (pda_cons (pd_op od_add (pd_var 5) pd_int) pda_nil))))
    (pdss_cons (pds_if (PDW.pt (pdw_or (pdt_cmp (od_ne (hu64 hr)) (pd_call hM hr 0 1 (by rfl) (by rfl) (pda_cons (pd_var 4) pda_nil)) (pd_call hM hr 36 1 (by rfl) (by rfl) (pda_cons (pd_var 4) pda_nil))) (pdw_or (pdt_cmp (od_ne (hu64 hr)) (pd_call hM hr 1 1 (by rfl) (by rfl) (pda_cons (pd_call hM hr 36 1 (by rfl) (by rfl) (pda_cons (pd_var 4) pda_nil)) pda_nil)) (pd_var 4)) (pdw_or (pdt_cmp (od_ne (hu64 hr)) (pd_call hM hr 2 1 (by rfl) (by rfl) (pda_cons (pd_tup (pda_cons (pd_var 4) (pda_cons (pd_var 5) pda_nil))) pda_nil)) (pd_var 6)) (pdw_or (pdt_cmp (od_ne (hu64 hr)) (pd_call hM hr 3 1 (by rfl) (by rfl) (pda_cons (pd_var 6) pda_nil)) (pd_tup (pda_cons (pd_var 4) (pda_cons (pd_var 5) pda_nil)))) (pdw_or1 (pdt_not (pdt_tru (pd_call hM hr 4 1 (by rfl) (by rfl) (pda_cons (pd_var 6) pda_nil)))))))))) (pdss_one (pds_ret pd_bl)) pdss_nil)
    (pdss_cons (pds_par2 (i := 7) (j := 8) (by rfl) nd (pda_cons (pd_call hM hr 37 2 (by rfl) (by rfl) (pda_cons (pd_var 1) (pda_cons pd_int pda_nil))) (pda_cons (pd_call hM hr 37 2 (by rfl) (by rfl) (pda_cons (pd_var 1) (pda_cons pd_int pda_nil))) pda_nil)) (by rfl))
    (pdss_cons (pds_asg (pd_tup (pda_cons (pd_make hM hr 0 4 (by rfl) (by rfl) (pda_cons (pd_ix (pd_var 7) pd_int) (pda_cons (pd_ix (pd_var 7) pd_int) (pda_cons (pd_ix (pd_var 7) pd_int) (pda_cons (pd_ix (pd_var 7) pd_int) pda_nil))))) (pda_cons (pd_make hM hr 0 4 (by rfl) (by rfl) (pda_cons (pd_ix (pd_var 8) pd_int) (pda_cons (pd_ix (pd_var 8) pd_int) (pda_cons (pd_ix (pd_var 8) pd_int) (pda_cons (pd_ix (pd_var 8) pd_int) pda_nil))))) pda_nil))) (pdg_tup (n := 2) (by rfl) (pdgs_cons (pdg_name nd (i := 9)) (pdgs_cons (pdg_name nd (i := 10)) pdgs_nil))))
    (pdss_cons (pds_set nd (i := 11) (pd_lst pda_nil))
    (pdss_cons (pds_for (passes_of rfl) (by rfl) (pdi_range2 hM 4 (by rfl) (pda_cons (pd_ix (pd_var 7) pd_int) (pda_cons (pd_op od_add (pd_ix (pd_var 7) pd_int) pd_int) pda_nil))) (pdg_name nd (i := 12)) (pdss_one (pds_set nd (i := 11) (pd_op od_add (pd_var 11) (pd_lc (by rfl) nd (pdi_range2 hM 4 (by rfl) (pda_cons (pd_ix (pd_var 7) pd_int) (pda_cons (pd_op od_add (pd_ix (pd_var 7) pd_int) pd_int) pda_nil))) [("x", 28)] (blkOk_by (by with_unfolding_all rfl)) (by decide) (fun _ _ _ _ _ => (pdg_name nd (i := 28))) (fun _ _ _ _ _ => pdts_nil) (fun _ _ _ _ _ => (pd_tup (pda_cons (pd_var 28) (pda_cons (pd_var 12) pda_nil)))))))))
    (pdss_cons (pds_if (PDW.pt (pdw_or (pdt_cmp (od_ne (hu64 hr)) (pd_meth0 hM hr 7 ((hfn 7).trans rfl) (pd_var 9)) (pd_var 11)) (pdw_or (pdt_cmp (od_ne (hu64 hr)) (pd_meth0 hM hr 5 ((hfn 5).trans rfl) (pd_var 9)) (pd_tup (pda_cons (pd_op od_add (pd_op od_sub (pd_ix (pd_var 7) pd_int) (pd_ix (pd_var 7) pd_int)) pd_int) (pda_cons (pd_op od_add (pd_op od_sub (pd_ix (pd_var 7) pd_int) (pd_ix (pd_var 7) pd_int)) pd_int) pda_nil)))) (pdw_or (pdt_cmp (od_ne (hu64 hr)) (pd_lc (by rfl) nd (pdi_any (pd_var 11)) [("spot", 29)] (blkOk_by (by with_unfolding_all rfl)) (by decide) (fun _ _ _ _ _ => (pdg_name nd (i := 29))) (fun _ _ _ _ _ => (pdts_one (pdt_not (pdt_tru (pd_meth hM hr 6 1 ((hfn 6).trans rfl) (pd_var 9) (pda_cons (pd_var 29) pda_nil)))))) (fun _ _ _ _ _ => (pd_var 29))) (pd_lst pda_nil)) (pdw_or (pdt_tru (pd_meth hM hr 6 1 ((hfn 6).trans rfl) (pd_var 9) (pda_cons (pd_tup (pda_cons (pd_op od_add (pd_ix (pd_var 7) pd_int) pd_int) (pda_cons (pd_ix (pd_var 7) pd_int) pda_nil))) pda_nil))) (pdw_or1 (pdt_cmp (od_ne (hu64 hr)) (pd_meth0 hM hr 4 ((hfn 4).trans rfl) (pd_var 9)) (pd_var 7)))))))) (pdss_one (pds_ret pd_bl)) pdss_nil)
    (pdss_cons (pds_if (pdt_cmp (od_ne (hu64 hr)) (pd_meth hM hr 8 1 ((hfn 8).trans rfl) (pd_var 9) (pda_cons (pd_var 10) pda_nil)) (pd_cmp (od_ne (hu64 hr)) (pd_lc (by rfl) nd (pdi_any (pd_var 11)) [("spot", 29)] (blkOk_by (by with_unfolding_all rfl)) (by decide) (fun _ _ _ _ _ => (pdg_name nd (i := 29))) (fun _ _ _ _ _ => (pdts_one (pdt_tru (pd_meth hM hr 6 1 ((hfn 6).trans rfl) (pd_var 10) (pda_cons (pd_var 29) pda_nil))))) (fun _ _ _ _ _ => (pd_var 29))) (pd_lst pda_nil))) (pdss_one (pds_ret pd_bl)) pdss_nil)
    (pdss_cons (pds_par2 (i := 13) (j := 14) (by rfl) nd (pda_cons (pd_op od_add (pd_call hM hr 36 1 (by rfl) (by rfl) (pda_cons (pd_ix (pd_var 7) pd_int) pda_nil)) (pd_ty hM cd_str 2 (by rfl) (by rfl) bt_str (pda_cons (pd_op od_add (pd_ix (pd_var 7) pd_int) pd_int) pda_nil))) (pda_cons (pd_op od_add (pd_call hM hr 36 1 (by rfl) (by rfl) (pda_cons (pd_ix (pd_var 7) pd_int) pda_nil)) (pd_ty hM cd_str 2 (by rfl) (by rfl) bt_str (pda_cons (pd_op od_add (pd_ix (pd_var 7) pd_int) pd_int) pda_nil))) pda_nil)) (by rfl))
    (pdss_cons (pds_set nd (i := 15) (pd_if (pdt_cmp (od_eq (hu64 hr)) (pd_var 13) (pd_var 14)) (pd_var 13) (pd_op od_add (pd_op od_add (pd_var 13) pd_str) (pd_var 14))))
    (pdss_cons (pds_set nd (i := 16) (pd_op od_add (pd_op od_add (pd_op od_add (pd_op od_add (pd_call hM hr 36 1 (by rfl) (by rfl) (pda_cons (pd_ix (pd_var 7) pd_int) pda_nil)) (pd_ty hM cd_str 2 (by rfl) (by rfl) bt_str (pda_cons (pd_op od_add (pd_ix (pd_var 7) pd_int) pd_int) pda_nil))) pd_str) (pd_call hM hr 36 1 (by rfl) (by rfl) (pda_cons (pd_ix (pd_var 7) pd_int) pda_nil))) (pd_ty hM cd_str 2 (by rfl) (by rfl) bt_str (pda_cons (pd_op od_add (pd_ix (pd_var 7) pd_int) pd_int) pda_nil))))
    (pdss_cons (pds_if (PDW.pt (pdw_or (pdt_cmp (od_ne (hu64 hr)) (pd_meth0 hM hr 9 ((hfn 9).trans rfl) (pd_var 9)) (pd_var 15)) (pdw_or (pdt_cmp (od_ne (hu64 hr)) (pd_meth0 hM hr 4 ((hfn 4).trans rfl) (pd_call hM hr 12 1 (by rfl) (by rfl) (pda_cons (pd_var 15) pda_nil))) (pd_var 7)) (pdw_or1 (pdt_cmp (od_ne (hu64 hr)) (pd_meth0 hM hr 4 ((hfn 4).trans rfl) (pd_call hM hr 12 1 (by rfl) (by rfl) (pda_cons (pd_var 16) pda_nil))) (pd_var 7)))))) (pdss_one (pds_ret pd_bl)) pdss_nil)
    (pdss_cons (pds_asg (pd_tup (pda_cons (pd_call hM hr 17 2 (by rfl) (by rfl) (pda_cons (pd_var 1) (pda_cons pd_int pda_nil))) (pda_cons (pd_call hM hr 17 2 (by rfl) (by rfl) (pda_cons (pd_var 1) (pda_cons pd_int pda_nil))) (pda_cons (pd_ix (pd_lst (pda_cons pd_int (pda_cons pd_int (pda_cons pd_int (pda_cons (pd_neg pd_int) (pda_cons (pd_neg pd_int) (pda_cons (pd_neg pd_int) (pda_cons (pd_neg pd_int) pda_nil)))))))) (pd_call hM hr 17 2 (by rfl) (by rfl) (pda_cons (pd_var 1) (pda_cons pd_int pda_nil)))) pda_nil)))) (pdg_tup (n := 3) (by rfl) (pdgs_cons (pdg_name nd (i := 17)) (pdgs_cons (pdg_name nd (i := 18)) (pdgs_cons (pdg_name nd (i := 19)) pdgs_nil)))))
    (pdss_cons (pds_par2 (i := 20) (j := 21) (by rfl) nd (pda_cons (pd_ix (pd_var 7) (pd_var 17)) (pda_cons (pd_ix (pd_var 7) (pd_op od_add (pd_var 17) pd_int)) pda_nil)) (by rfl))
    (pdss_cons (pds_setLc (i := 22) (by rfl) nd (pdi_range2 hM 4 (by rfl) (pda_cons (pd_var 20) (pda_cons (pd_op od_add (pd_var 21) pd_int) pda_nil))) [("place", 26)] (blkOk_by (by with_unfolding_all rfl)) (by decide) (fun _ _ _ _ _ => (pdg_name nd (i := 26))) (fun _ _ _ _ _ => pdts_nil) (fun _ _ _ _ _ => (pd_call hM hr 38 3 (by rfl) (by rfl) (pda_cons (pd_var 26) (pda_cons (pd_var 18) (pda_cons (pd_var 19) pda_nil))))) (by rfl))
    (pdss_cons (pds_setLc (i := 23) (by rfl) nd (pdi_any (pd_var 22)) [("place", 26)] (blkOk_by (by with_unfolding_all rfl)) (by decide) (fun _ _ _ _ _ => (pdg_name nd (i := 26))) (fun _ _ _ _ _ => (pdts_one (pdt_cmp od_notN (pd_var 26) pd_non))) (fun _ _ _ _ _ => (pd_var 26)) (by rfl))
    (pdss_cons (pds_if (PDW.pt (pdw_or (pdt_cmp (od_ne (hu64 hr)) (pd_lc (by rfl) nd (pdi_range2 hM 4 (by rfl) (pda_cons (pd_var 20) (pda_cons (pd_op od_add (pd_var 21) pd_int) pda_nil))) [("place", 26)] (blkOk_by (by with_unfolding_all rfl)) (by decide) (fun _ _ _ _ _ => (pdg_name nd (i := 26))) (fun _ _ _ _ _ => pdts_nil) (fun _ _ _ _ _ => (pd_call hM hr 13 3 (by rfl) (by rfl) (pda_cons (pd_var 26) (pda_cons (pd_var 18) (pda_cons (pd_var 19) pda_nil)))))) (pd_var 22)) (pdw_or1 (pdt_cmp (od_ne (hu64 hr)) (pd_call hM hr 14 4 (by rfl) (by rfl) (pda_cons (pd_var 20) (pda_cons (pd_var 21) (pda_cons (pd_var 18) (pda_cons (pd_var 19) pda_nil))))) (pd_if (pdt_cmp (od_ne (hu64 hr)) (pd_var 23) (pd_lst pda_nil)) (pd_tup (pda_cons (pd_bi hM (cd_min (by rfl)) 6 (by rfl) (by rfl) bt_min (pda_cons (pd_var 23) pda_nil)) (pda_cons (pd_bi hM (cd_max (by rfl)) 7 (by rfl) (by rfl) bt_max (pda_cons (pd_var 23) pda_nil)) pda_nil))) pd_non))))) (pdss_one (pds_ret pd_bl)) pdss_nil)
    (pdss_cons (pds_set nd (i := 24) (pd_if (pdt_cmp (od_eq (hu64 hr)) (pd_var 23) (pd_lst pda_nil)) pd_non (pd_if (pdt_cmp (od_eq (hu64 hr)) (pd_var 17) pd_int) (pd_tup (pda_cons (pd_bi hM (cd_min (by rfl)) 6 (by rfl) (by rfl) bt_min (pda_cons (pd_var 23) pda_nil)) (pda_cons (pd_ix (pd_var 7) pd_int) (pda_cons (pd_bi hM (cd_max (by rfl)) 7 (by rfl) (by rfl) bt_max (pda_cons (pd_var 23) pda_nil)) (pda_cons (pd_ix (pd_var 7) pd_int) pda_nil))))) (pd_tup (pda_cons (pd_ix (pd_var 7) pd_int) (pda_cons (pd_bi hM (cd_min (by rfl)) 6 (by rfl) (by rfl) bt_min (pda_cons (pd_var 23) pda_nil)) (pda_cons (pd_ix (pd_var 7) pd_int) (pda_cons (pd_bi hM (cd_max (by rfl)) 7 (by rfl) (by rfl) bt_max (pda_cons (pd_var 23) pda_nil)) pda_nil))))))))
    (pdss_cons (pds_set nd (i := 25) (pd_call hM hr 15 4 (by rfl) (by rfl) (pda_cons (pd_var 9) (pda_cons (pd_var 17) (pda_cons (pd_var 18) (pda_cons (pd_var 19) pda_nil))))))
    (pdss_one (pds_if (PDW.pt (pdw_or (pdt_cmp (od_ne (hu64 hr)) (pd_cmp od_isN (pd_var 25) pd_non) (pd_cmp od_isN (pd_var 24) pd_non)) (pdw_or1 (PDW.pt (pdw_and (pdt_cmp od_notN (pd_var 25) pd_non) (pdw_and1 (pdt_cmp (od_ne (hu64 hr)) (pd_meth0 hM hr 4 ((hfn 4).trans rfl) (pd_var 25)) (pd_var 24)))))))) (pdss_one (pds_ret pd_bl)) pdss_nil)))))))))))))))))))))))
    (pdss_cons (pds_set nd (i := 2) (pd_lst (pda_cons (pd_lam 0 ((hlm 0).trans rfl) (T A outer s H E) (by rfl) (by rfl) (by rfl) (by rfl) ⟨rfl, rfl, rfl, by decide +kernel⟩) (pda_cons (pd_lam 1 ((hlm 1).trans rfl) (T A outer s H E) (by rfl) (by rfl) (by rfl) (by rfl) ⟨rfl, rfl, rfl, by decide +kernel⟩) (pda_cons (pd_lam 2 ((hlm 2).trans rfl) (T A outer s H E) (by rfl) (by rfl) (by rfl) (by rfl) ⟨rfl, rfl, rfl, by decide +kernel⟩) (pda_cons (pd_lam 3 ((hlm 3).trans rfl) (T A outer s H E) (by rfl) (by rfl) (by rfl) (by rfl) ⟨rfl, rfl, rfl, by decide +kernel⟩) (pda_cons (pd_lam 4 ((hlm 4).trans rfl) (T A outer s H E) (by rfl) (by rfl) (by rfl) (by rfl) ⟨rfl, rfl, rfl, by decide +kernel⟩) (pda_cons (pd_lam 5 ((hlm 5).trans rfl) (T A outer s H E) (by rfl) (by rfl) (by rfl) (by rfl) ⟨rfl, rfl, rfl, by decide +kernel⟩) (pda_cons (pd_lam 6 ((hlm 6).trans rfl) (T A outer s H E) (by rfl) (by rfl) (by rfl) (by rfl) ⟨rfl, rfl, rfl, by decide +kernel⟩) (pda_cons (pd_lam 7 ((hlm 7).trans rfl) (T A outer s H E) (by rfl) (by rfl) (by rfl) (by rfl) ⟨rfl, rfl, rfl, by decide +kernel⟩) (pda_cons (pd_lam 8 ((hlm 8).trans rfl) (T A outer s H E) (by rfl) (by rfl) (by rfl) (by rfl) ⟨rfl, rfl, rfl, by decide +kernel⟩) (pda_cons (pd_lam 9 ((hlm 9).trans rfl) (T A outer s H E) (by rfl) (by rfl) (by rfl) (by rfl) ⟨rfl, rfl, rfl, by decide +kernel⟩) (pda_cons (pd_lam 10 ((hlm 10).trans rfl) (T A outer s H E) (by rfl) (by rfl) (by rfl) (by rfl) ⟨rfl, rfl, rfl, by decide +kernel⟩) (pda_cons (pd_lam 11 ((hlm 11).trans rfl) (T A outer s H E) (by rfl) (by rfl) (by rfl) (by rfl) ⟨rfl, rfl, rfl, by decide +kernel⟩) (pda_cons (pd_lam 12 ((hlm 12).trans rfl) (T A outer s H E) (by rfl) (by rfl) (by rfl) (by rfl) ⟨rfl, rfl, rfl, by decide +kernel⟩) (pda_cons (pd_lam 13 ((hlm 13).trans rfl) (T A outer s H E) (by rfl) (by rfl) (by rfl) (by rfl) ⟨rfl, rfl, rfl, by decide +kernel⟩) (pda_cons (pd_lam 14 ((hlm 14).trans rfl) (T A outer s H E) (by rfl) (by rfl) (by rfl) (by rfl) ⟨rfl, rfl, rfl, by decide +kernel⟩) (pda_cons (pd_lam 15 ((hlm 15).trans rfl) (T A outer s H E) (by rfl) (by rfl) (by rfl) (by rfl) ⟨rfl, rfl, rfl, by decide +kernel⟩) pda_nil))))))))))))))))))
    (pdss_cons (pds_if (PDW.pt (pdw_or (pdt_cmp (od_ne (hu64 hr)) (pd_lc (by rfl) nd (pdi_any (pd_var 2)) [("f", 27)] (blkOk_by (by with_unfolding_all rfl)) (by decide) (fun _ _ _ _ _ => (pdg_name nd (i := 27))) (fun _ _ _ _ _ => (pdts_one (pdt_cmp (od_ne (hu64 hr)) (pd_call hM hr 35 1 (by rfl) (by rfl) (pda_cons (pd_var 27) pda_nil)) pd_str))) (fun _ _ _ _ _ => pd_int)) (pd_lst pda_nil)) (pdw_or (pdt_cmp (od_ne (hu64 hr)) (pd_tup (pda_cons (pd_glob hM 2 (by rfl) (by rfl)) (pda_cons (pd_glob hM 3 (by rfl) (by rfl)) pda_nil))) (pd_tup (pda_cons pd_int (pda_cons pd_int pda_nil)))) (pdw_or1 (pdt_tru (pd_call hM hr 4 1 (by rfl) (by rfl) (pda_cons pd_str pda_nil))))))) (pdss_one (pds_ret pd_bl)) pdss_nil)
    (pdss_cons (pds_set nd (i := 3) (pd_lst (pda_cons (pd_call hM hr 15 4 (by rfl) (by rfl) (pda_cons (pd_make hM hr 0 4 (by rfl) (by rfl) (pda_cons pd_int (pda_cons pd_int (pda_cons pd_int (pda_cons pd_int pda_nil))))) (pda_cons pd_int (pda_cons pd_int (pda_cons pd_int pda_nil))))) (pda_cons (pd_call hM hr 15 4 (by rfl) (by rfl) (pda_cons (pd_make hM hr 0 4 (by rfl) (by rfl) (pda_cons pd_int (pda_cons pd_int (pda_cons pd_int (pda_cons pd_int pda_nil))))) (pda_cons pd_int (pda_cons pd_int (pda_cons pd_int pda_nil))))) (pda_cons (pd_call hM hr 15 4 (by rfl) (by rfl) (pda_cons (pd_make hM hr 0 4 (by rfl) (by rfl) (pda_cons pd_int (pda_cons pd_int (pda_cons pd_int (pda_cons pd_int pda_nil))))) (pda_cons pd_int (pda_cons pd_int (pda_cons pd_int pda_nil))))) pda_nil)))))
    (pdss_one (pds_ret (pd_and (pd_cmp (od_eq (hu64 hr)) (pd_lc (by rfl) nd (pdi_any (pd_var 3)) [("area", 9)] (blkOk_by (by with_unfolding_all rfl)) (by decide) (fun _ _ _ _ _ => (pdg_name nd (i := 9))) (fun _ _ _ _ _ => pdts_nil) (fun _ _ _ _ _ => (pd_if (pdt_cmp od_isN (pd_var 9) pd_non) pd_non (pd_meth0 hM hr 4 ((hfn 4).trans rfl) (pd_var 9))))) (pd_lst (pda_cons (pd_tup (pda_cons pd_int (pda_cons pd_int (pda_cons pd_int (pda_cons pd_int pda_nil))))) (pda_cons pd_non (pda_cons (pd_tup (pda_cons pd_int (pda_cons pd_int (pda_cons pd_int (pda_cons pd_int pda_nil))))) pda_nil))))) (pd_one (pd_cmp (od_eq (hu64 hr)) (pd_call hM hr 3 1 (by rfl) (by rfl) (pda_cons pd_str pda_nil)) (pd_tup (pda_cons pd_int (pda_cons pd_int pda_nil))))))))))))) (fun ds S Q E h => ?hb)
  case len => obtain ⟨_, _, rfl, _⟩ := h; rfl
  case hb =>
    exact law_read ds S Q E h
end K02

set_option Elab.async false
set_option linter.all false
set_option maxRecDepth 100000
set_option maxHeartbeats 4000000
namespace K02
open PySem PySem.Spec PyProof.Rows L2 G
theorem all_mk {l : PySem.W.OpenLaw} {w : World} {K : PySem.W.Frag} {h : Heap} {mg mb : Str → Option Value} {mean : ExcName → Option Value} {q : Program} {loose : List Str} {fa : Addr} (X : K.In h) (T : Top q loose mean mg mb h) (hfa : mg "law" = some (.ref fa))
    (hrec : ∀ x ∈ (["column_number", "spot_of", "law"] : List Str), ((recsOf q).any fun e => e.name == x) = true)
    {C0 f0 f1 f2 f3 f4 f5 f6 f7 f8 f9 f10 f11 f12 f13 f14 f15 f16 f17 f18 f19 f20 f21 f22 f23 X0 cA1 PA1 cA3 PA3 cA23 PA23 : Addr}
    {od0 an0 od1 an1 od2 an2 od3 an3 od4 an4 od5 an5 od6 an6 od7 an7 od8 an8 od9 an9 od10 an10 od11 an11 od12 an12 od13 an13 od14 an14 od15 an15 od16 an16 od17 an17 od18 an18 od19 an19 od20 an20 od21 an21 od22 an22 od23 an23 dt1 dt3 dt23 : Option Addr}
    {sl0 sl1 sl2 sl3 sl4 sl5 sl6 sl7 sl8 sl9 sl10 sl11 sl12 sl13 sl14 sl15 sl16 sl17 sl18 sl19 sl20 sl21 sl22 sl23 st1 st3 st23 : Array (Option Value)}
    {oc0 kV0 dc0 pm0 cd0 ct0 oc1 kV1 dc1 pm1  ct1 oc2 kV2 dc2 pm2 cd2 ct2 oc3 kV3 dc3 pm3  ct3 oc4 kV4 dc4 pm4 cd4 ct4 oc5 kV5 dc5 pm5 cd5 ct5 oc6 kV6 dc6 pm6 cd6 ct6 oc7 kV7 dc7 pm7 cd7 ct7 oc8 kV8 dc8 pm8 cd8 ct8 oc9 kV9 dc9 pm9 cd9 ct9 oc10 kV10 dc10 pm10 cd10 ct10 oc11 kV11 dc11 pm11 cd11 ct11 oc12 kV12 dc12 pm12 cd12 ct12 oc13 kV13 dc13 pm13 cd13 ct13 oc14 kV14 dc14 pm14 cd14 ct14 oc15 kV15 dc15 pm15 cd15 ct15 oc16 kV16 dc16 pm16 cd16 ct16 oc17 kV17 dc17 pm17 cd17 ct17 oc18 kV18 dc18 pm18 cd18 ct18 oc19 kV19 dc19 pm19 cd19 ct19 oc20 kV20 dc20 pm20 cd20 ct20 oc21 kV21 dc21 pm21 cd21 ct21 oc22 kV22 dc22 pm22 cd22 ct22 oc23 kV23 dc23 pm23  ct23 et1 et3 et23 : Value}
    {vt1 vt3 vt23 : Array Value}
    {tk0 tk1 tk2 tk3 : Tok}
    (aC0 : PySem.W.nsIn K mainGlobals "Area" = some (some (.ref C0)))
    (a0 : PySem.W.nsIn K mainGlobals "column_name" = some (some (.ref f0)))
    (l0 : K.lookup f0 = some ⟨oc0, od0, .func (PySem.W.fnOf "column_name" "column_name" (defArgs s_column_name) (defBody s_column_name) (defScope s_column_name) .none kV0 dc0 pm0 an0 cd0 ct0), sl0⟩)
    (c0 : PySem.W.codeIn K cd0 "column_name" = true)
    (k0 : PySem.W.keepIn K (.ref f0) = true)
    (a1 : PySem.W.nsIn K mainGlobals "column_number" = some (some (.ref f1)))
    (l1 : K.lookup f1 = some ⟨oc1, od1, .func (PySem.W.fnOf "column_number" "column_number" (defArgs s_column_number) (defBody s_column_number) (defScope s_column_number) .none kV1 dc1 pm1 an1 (.ref cA1) ct1), sl1⟩)
    (c1 : PySem.W.codeIn K (.ref cA1) "column_number" = true)
    (k1 : PySem.W.keepIn K (.ref f1) = true)
    (t1 : K.lookup cA1 = some ⟨et1, dt1, .fields vt1, st1⟩)
    (p1 : vt1[11]? = some (.ref PA1))
    (n1 : K.lookup PA1 = none)
    (a2 : PySem.W.nsIn K mainGlobals "spot_name" = some (some (.ref f2)))
    (l2 : K.lookup f2 = some ⟨oc2, od2, .func (PySem.W.fnOf "spot_name" "spot_name" (defArgs s_spot_name) (defBody s_spot_name) (defScope s_spot_name) .none kV2 dc2 pm2 an2 cd2 ct2), sl2⟩)
    (c2 : PySem.W.codeIn K cd2 "spot_name" = true)
    (k2 : PySem.W.keepIn K (.ref f2) = true)
    (a3 : PySem.W.nsIn K mainGlobals "spot_of" = some (some (.ref f3)))
    (l3 : K.lookup f3 = some ⟨oc3, od3, .func (PySem.W.fnOf "spot_of" "spot_of" (defArgs s_spot_of) (defBody s_spot_of) (defScope s_spot_of) .none kV3 dc3 pm3 an3 (.ref cA3) ct3), sl3⟩)
    (c3 : PySem.W.codeIn K (.ref cA3) "spot_of" = true)
    (k3 : PySem.W.keepIn K (.ref f3) = true)
    (t3 : K.lookup cA3 = some ⟨et3, dt3, .fields vt3, st3⟩)
    (p3 : vt3[11]? = some (.ref PA3))
    (n3 : K.lookup PA3 = none)
    (a4 : PySem.W.nsIn K mainGlobals "is_spot_name" = some (some (.ref f4)))
    (l4 : K.lookup f4 = some ⟨oc4, od4, .func (PySem.W.fnOf "is_spot_name" "is_spot_name" (defArgs s_is_spot_name) (defBody s_is_spot_name) (defScope s_is_spot_name) .none kV4 dc4 pm4 an4 cd4 ct4), sl4⟩)
    (c4 : PySem.W.codeIn K cd4 "is_spot_name" = true)
    (k4 : PySem.W.keepIn K (.ref f4) = true)
    (a5 : PySem.W.findIn K (.ref C0) "__init__" = some (some (.ref f5)))
    (i5 : PySem.W.isFn K (.ref f5) = true)
    (l5 : K.lookup f5 = some ⟨oc5, od5, .func (PySem.W.fnOf "__init__" "Area.__init__" (defArgs s_Area___init__) (defBody s_Area___init__) (defScope s_Area___init__) .none kV5 dc5 pm5 an5 cd5 ct5), sl5⟩)
    (c5 : PySem.W.codeIn K cd5 "Area.__init__" = true)
    (k5 : PySem.W.keepIn K (.ref f5) = true)
    (a6 : PySem.W.findIn K (.ref C0) "shown" = some (some (.ref f6)))
    (i6 : PySem.W.isFn K (.ref f6) = true)
    (l6 : K.lookup f6 = some ⟨oc6, od6, .func (PySem.W.fnOf "shown" "Area.shown" (defArgs s_Area_shown) (defBody s_Area_shown) (defScope s_Area_shown) .none kV6 dc6 pm6 an6 cd6 ct6), sl6⟩)
    (c6 : PySem.W.codeIn K cd6 "Area.shown" = true)
    (k6 : PySem.W.keepIn K (.ref f6) = true)
    (a7 : PySem.W.findIn K (.ref C0) "size" = some (some (.ref f7)))
    (i7 : PySem.W.isFn K (.ref f7) = true)
    (l7 : K.lookup f7 = some ⟨oc7, od7, .func (PySem.W.fnOf "size" "Area.size" (defArgs s_Area_size) (defBody s_Area_size) (defScope s_Area_size) .none kV7 dc7 pm7 an7 cd7 ct7), sl7⟩)
    (c7 : PySem.W.codeIn K cd7 "Area.size" = true)
    (k7 : PySem.W.keepIn K (.ref f7) = true)
    (a8 : PySem.W.findIn K (.ref C0) "holds" = some (some (.ref f8)))
    (i8 : PySem.W.isFn K (.ref f8) = true)
    (l8 : K.lookup f8 = some ⟨oc8, od8, .func (PySem.W.fnOf "holds" "Area.holds" (defArgs s_Area_holds) (defBody s_Area_holds) (defScope s_Area_holds) .none kV8 dc8 pm8 an8 cd8 ct8), sl8⟩)
    (c8 : PySem.W.codeIn K cd8 "Area.holds" = true)
    (k8 : PySem.W.keepIn K (.ref f8) = true)
    (a9 : PySem.W.findIn K (.ref C0) "spots" = some (some (.ref f9)))
    (i9 : PySem.W.isFn K (.ref f9) = true)
    (l9 : K.lookup f9 = some ⟨oc9, od9, .func (PySem.W.fnOf "spots" "Area.spots" (defArgs s_Area_spots) (defBody s_Area_spots) (defScope s_Area_spots) .none kV9 dc9 pm9 an9 cd9 ct9), sl9⟩)
    (c9 : PySem.W.codeIn K cd9 "Area.spots" = true)
    (k9 : PySem.W.keepIn K (.ref f9) = true)
    (a10 : PySem.W.findIn K (.ref C0) "meets" = some (some (.ref f10)))
    (i10 : PySem.W.isFn K (.ref f10) = true)
    (l10 : K.lookup f10 = some ⟨oc10, od10, .func (PySem.W.fnOf "meets" "Area.meets" (defArgs s_Area_meets) (defBody s_Area_meets) (defScope s_Area_meets) .none kV10 dc10 pm10 an10 cd10 ct10), sl10⟩)
    (c10 : PySem.W.codeIn K cd10 "Area.meets" = true)
    (k10 : PySem.W.keepIn K (.ref f10) = true)
    (a11 : PySem.W.findIn K (.ref C0) "label" = some (some (.ref f11)))
    (i11 : PySem.W.isFn K (.ref f11) = true)
    (l11 : K.lookup f11 = some ⟨oc11, od11, .func (PySem.W.fnOf "label" "Area.label" (defArgs s_Area_label) (defBody s_Area_label) (defScope s_Area_label) .none kV11 dc11 pm11 an11 cd11 ct11), sl11⟩)
    (c11 : PySem.W.codeIn K cd11 "Area.label" = true)
    (k11 : PySem.W.keepIn K (.ref f11) = true)
    (a12 : PySem.W.nsIn K mainGlobals "area_of" = some (some (.ref f12)))
    (l12 : K.lookup f12 = some ⟨oc12, od12, .func (PySem.W.fnOf "area_of" "area_of" (defArgs s_area_of) (defBody s_area_of) (defScope s_area_of) .none kV12 dc12 pm12 an12 cd12 ct12), sl12⟩)
    (c12 : PySem.W.codeIn K cd12 "area_of" = true)
    (k12 : PySem.W.keepIn K (.ref f12) = true)
    (a13 : PySem.W.nsIn K mainGlobals "moved_place" = some (some (.ref f13)))
    (l13 : K.lookup f13 = some ⟨oc13, od13, .func (PySem.W.fnOf "moved_place" "moved_place" (defArgs s_moved_place) (defBody s_moved_place) (defScope s_moved_place) .none kV13 dc13 pm13 an13 cd13 ct13), sl13⟩)
    (c13 : PySem.W.codeIn K cd13 "moved_place" = true)
    (k13 : PySem.W.keepIn K (.ref f13) = true)
    (a14 : PySem.W.nsIn K mainGlobals "moved_span" = some (some (.ref f14)))
    (l14 : K.lookup f14 = some ⟨oc14, od14, .func (PySem.W.fnOf "moved_span" "moved_span" (defArgs s_moved_span) (defBody s_moved_span) (defScope s_moved_span) .none kV14 dc14 pm14 an14 cd14 ct14), sl14⟩)
    (c14 : PySem.W.codeIn K cd14 "moved_span" = true)
    (k14 : PySem.W.keepIn K (.ref f14) = true)
    (a15 : PySem.W.nsIn K mainGlobals "moved_area" = some (some (.ref f15)))
    (l15 : K.lookup f15 = some ⟨oc15, od15, .func (PySem.W.fnOf "moved_area" "moved_area" (defArgs s_moved_area) (defBody s_moved_area) (defScope s_moved_area) .none kV15 dc15 pm15 an15 cd15 ct15), sl15⟩)
    (c15 : PySem.W.codeIn K cd15 "moved_area" = true)
    (k15 : PySem.W.keepIn K (.ref f15) = true)
    (a16 : PySem.W.nsIn K mainGlobals "_law_dice" = some (some (.ref f16)))
    (l16 : K.lookup f16 = some ⟨oc16, od16, .func (PySem.W.fnOf "_law_dice" "_law_dice" (defArgs s__law_dice) (defBody s__law_dice) (defScope s__law_dice) .none kV16 dc16 pm16 an16 cd16 ct16), sl16⟩)
    (c16 : PySem.W.codeIn K cd16 "_law_dice" = true)
    (k16 : PySem.W.keepIn K (.ref f16) = true)
    (a17 : PySem.W.nsIn K mainGlobals "_law_roll" = some (some (.ref f17)))
    (l17 : K.lookup f17 = some ⟨oc17, od17, .func (PySem.W.fnOf "_law_roll" "_law_roll" (defArgs s__law_roll) (defBody s__law_roll) (defScope s__law_roll) .none kV17 dc17 pm17 an17 cd17 ct17), sl17⟩)
    (c17 : PySem.W.codeIn K cd17 "_law_roll" = true)
    (k17 : PySem.W.keepIn K (.ref f17) = true)
    (a18 : PySem.W.nsIn K mainGlobals "_law_rounds" = some (some (.ref f18)))
    (l18 : K.lookup f18 = some ⟨oc18, od18, .func (PySem.W.fnOf "_law_rounds" "_law_rounds" (defArgs s__law_rounds) (defBody s__law_rounds) (defScope s__law_rounds) .none kV18 dc18 pm18 an18 cd18 ct18), sl18⟩)
    (c18 : PySem.W.codeIn K cd18 "_law_rounds" = true)
    (k18 : PySem.W.keepIn K (.ref f18) = true)
    (a19 : PySem.W.nsIn K mainGlobals "_law_told" = some (some (.ref f19)))
    (l19 : K.lookup f19 = some ⟨oc19, od19, .func (PySem.W.fnOf "_law_told" "_law_told" (defArgs s__law_told) (defBody s__law_told) (defScope s__law_told) .none kV19 dc19 pm19 an19 cd19 ct19), sl19⟩)
    (c19 : PySem.W.codeIn K cd19 "_law_told" = true)
    (k19 : PySem.W.keepIn K (.ref f19) = true)
    (a20 : PySem.W.nsIn K mainGlobals "_law_column" = some (some (.ref f20)))
    (l20 : K.lookup f20 = some ⟨oc20, od20, .func (PySem.W.fnOf "_law_column" "_law_column" (defArgs s__law_column) (defBody s__law_column) (defScope s__law_column) .none kV20 dc20 pm20 an20 cd20 ct20), sl20⟩)
    (c20 : PySem.W.codeIn K cd20 "_law_column" = true)
    (k20 : PySem.W.keepIn K (.ref f20) = true)
    (a21 : PySem.W.nsIn K mainGlobals "_law_area" = some (some (.ref f21)))
    (l21 : K.lookup f21 = some ⟨oc21, od21, .func (PySem.W.fnOf "_law_area" "_law_area" (defArgs s__law_area) (defBody s__law_area) (defScope s__law_area) .none kV21 dc21 pm21 an21 cd21 ct21), sl21⟩)
    (c21 : PySem.W.codeIn K cd21 "_law_area" = true)
    (k21 : PySem.W.keepIn K (.ref f21) = true)
    (a22 : PySem.W.nsIn K mainGlobals "_law_goes" = some (some (.ref f22)))
    (l22 : K.lookup f22 = some ⟨oc22, od22, .func (PySem.W.fnOf "_law_goes" "_law_goes" (defArgs s__law_goes) (defBody s__law_goes) (defScope s__law_goes) .none kV22 dc22 pm22 an22 cd22 ct22), sl22⟩)
    (c22 : PySem.W.codeIn K cd22 "_law_goes" = true)
    (k22 : PySem.W.keepIn K (.ref f22) = true)
    (a23 : PySem.W.nsIn K mainGlobals "law" = some (some (.ref f23)))
    (l23 : K.lookup f23 = some ⟨oc23, od23, .func (PySem.W.fnOf "law" "law" (defArgs s_law) (defBody s_law) (defScope s_law) .none kV23 dc23 pm23 an23 (.ref cA23) ct23), sl23⟩)
    (c23 : PySem.W.codeIn K (.ref cA23) "law" = true)
    (k23 : PySem.W.keepIn K (.ref f23) = true)
    (t23 : K.lookup cA23 = some ⟨et23, dt23, .fields vt23, st23⟩)
    (p23 : vt23[11]? = some (.ref PA23))
    (n23 : K.lookup PA23 = none)
    (pg0 : PySem.W.plainGet K C0 Str.empty = true)
    (hd0 : PySem.W.hasDictIn K C0 = true)
    (po0 : PySem.W.plainOver K C0 = true)
    (sa0 : PySem.W.findIn K (.ref C0) "__setattr__" = some (some (.builtin "object.__setattr__")))
    (mk0 : PySem.W.makesIn K C0 = true)
    (kc0 : PySem.W.keepIn K (.ref C0) = true)
    (nf0_0 : PySem.W.findIn K (.ref C0) "left" = some none)
    (nf0_1 : PySem.W.findIn K (.ref C0) "top" = some none)
    (nf0_2 : PySem.W.findIn K (.ref C0) "right" = some none)
    (nf0_3 : PySem.W.findIn K (.ref C0) "bottom" = some none)
    (v0 : PySem.W.nsIn K mainGlobals "LETTERS" = some (some (.str "ABCDEFGHIJKLMNOPQRSTUVWXYZ" tk0)))
    (v1 : PySem.W.nsIn K mainGlobals "FIGURES" = some (some (.str "0123456789" tk1)))
    (v2 : PySem.W.nsIn K mainGlobals "MOST_COLUMNS" = some (some (.int 702 tk2)))
    (v3 : PySem.W.nsIn K mainGlobals "MOST_ROWS" = some (some (.int 9999 tk3)))
    (z0 : PySem.W.nsIn K mainGlobals "len" = some none)
    (z1 : PySem.W.nsIn K mainGlobals "any" = some none)
    (z2 : PySem.W.nsIn K mainGlobals "str" = some none)
    (z3 : PySem.W.nsIn K mainGlobals "int" = some none)
    (z4 : PySem.W.nsIn K mainGlobals "range" = some none)
    (z5 : PySem.W.nsIn K mainGlobals "list" = some none)
    (z6 : PySem.W.nsIn K mainGlobals "min" = some none)
    (z7 : PySem.W.nsIn K mainGlobals "max" = some none)
    (z8 : PySem.W.nsIn K mainGlobals "abs" = some none)
    (x0 : PySem.W.nsIn K mainGlobals "SpotError" = some (some (.ref X0)))
    (xe0 : PySem.W.excIn K X0 [.type "ValueError", .type "Exception", .type "BaseException", .type "object"] "ValueError.__new__" = true)
    (xk0 : PySem.W.keepIn K (.ref X0) = true)
    (xb0 : PySem.W.subIn K (.ref X0) (.type "BaseException") = some true)
    (xt0 : PySem.W.typeIn K (.ref X0) = some (.type "type"))
    (xc0 : PySem.W.isClsIn K X0 = true)
    (xs0_0 : PySem.W.subIn K (.ref X0) (.ref X0) = some true)
    (ne1_23 : PA23 ≠ PA1)
    (ne3_23 : PA23 ≠ PA3)
    : LamX.LawAtS l w K (L2.CX l.prog w) 7 63 "script" mg fa h := by
  have GN := T.g
  have e := hfa.symm.trans (PySem.W.mg_of X GN a23)
  have e2 : f23 = fa := (Value.ref.inj (Option.some.inj e)).symm
  subst e2
  let Z : Zt := { T := [PA1, PA3], TL := [(PA23, "law.<locals>.<lambda>")], lm := lmT, cm := fun c => match c with | 0 => C0 | _ => 0, fn := fnOf' fnT, ex := fun i => match i with | 0 => .ref X0 | _ => .none, inj := fnOf'_inj (by decide +kernel) (by decide +kernel) }
  let fad : Nat → Addr := fun i => match i with | 0 => f0 | 1 => f1 | 2 => f2 | 3 => f3 | 4 => f4 | 5 => f5 | 6 => f6 | 7 => f7 | 8 => f8 | 9 => f9 | 10 => f10 | 11 => f11 | 12 => f12 | 13 => f13 | 14 => f14 | 15 => f15 | 16 => f16 | 17 => f17 | 18 => f18 | 35 => f19 | 36 => f20 | 37 => f21 | 38 => f22 | 39 => f23 | _ => 0
  have hfn : ∀ i, Z.fn i = fnOf' fnT i := fun _ => rfl
  have hlm : ∀ j, Z.lm j = lmT j := fun _ => rfl
  have tb1 := tab_ofTop T X (hrec "column_number" (by simp)) (PySem.W.mg_of X GN a1) l1 rfl t1 p1
  have tb3 := tab_ofTop T X (hrec "spot_of" (by simp)) (PySem.W.mg_of X GN a3) l3 rfl t3 p3
  have tb23 := tab_ofTop T X (hrec "law" (by simp)) (PySem.W.mg_of X GN a23) l23 rfl t23 p23
  have F0 := fun_mkC (st := s_column_name) l0 c0
  have F1 := fun_mkC (st := s_column_number) l1 c1
  have F2 := fun_mkC (st := s_spot_name) l2 c2
  have F3 := fun_mkC (st := s_spot_of) l3 c3
  have F4 := fun_mkC (st := s_is_spot_name) l4 c4
  have F5 := fun_mkC (st := s_Area___init__) l5 c5
  have F6 := fun_mkC (st := s_Area_shown) l6 c6
  have F7 := fun_mkC (st := s_Area_size) l7 c7
  have F8 := fun_mkC (st := s_Area_holds) l8 c8
  have F9 := fun_mkC (st := s_Area_spots) l9 c9
  have F10 := fun_mkC (st := s_Area_meets) l10 c10
  have F11 := fun_mkC (st := s_Area_label) l11 c11
  have F12 := fun_mkC (st := s_area_of) l12 c12
  have F13 := fun_mkC (st := s_moved_place) l13 c13
  have F14 := fun_mkC (st := s_moved_span) l14 c14
  have F15 := fun_mkC (st := s_moved_area) l15 c15
  have F16 := fun_mkC (st := s__law_dice) l16 c16
  have F17 := fun_mkC (st := s__law_roll) l17 c17
  have F18 := fun_mkC (st := s__law_rounds) l18 c18
  have F19 := fun_mkC (st := s__law_told) l19 c19
  have F20 := fun_mkC (st := s__law_column) l20 c20
  have F21 := fun_mkC (st := s__law_area) l21 c21
  have F22 := fun_mkC (st := s__law_goes) l22 c22
  have F23 := fun_mkC (st := s_law) l23 c23
  have TS : TxS K mg Z tx fad := by
    refine ⟨fun i x h => ?fn, fun c m i h => ?mt, fun c x i hx h => ?it, fun c i h => ?fl, fun i x d h => ?va, fun i x h => ?bl, fun i x h => ?xn, fun i j b h => ?sb⟩
    case fn =>
      match i, h with
      | 0, h => cases h; exact ⟨PySem.W.mg_of X GN a0, k0⟩
      | 1, h => cases h; exact ⟨PySem.W.mg_of X GN a1, k1⟩
      | 2, h => cases h; exact ⟨PySem.W.mg_of X GN a2, k2⟩
      | 3, h => cases h; exact ⟨PySem.W.mg_of X GN a3, k3⟩
      | 4, h => cases h; exact ⟨PySem.W.mg_of X GN a4, k4⟩
      | 12, h => cases h; exact ⟨PySem.W.mg_of X GN a12, k12⟩
      | 13, h => cases h; exact ⟨PySem.W.mg_of X GN a13, k13⟩
      | 14, h => cases h; exact ⟨PySem.W.mg_of X GN a14, k14⟩
      | 15, h => cases h; exact ⟨PySem.W.mg_of X GN a15, k15⟩
      | 16, h => cases h; exact ⟨PySem.W.mg_of X GN a16, k16⟩
      | 17, h => cases h; exact ⟨PySem.W.mg_of X GN a17, k17⟩
      | 18, h => cases h; exact ⟨PySem.W.mg_of X GN a18, k18⟩
      | 35, h => cases h; exact ⟨PySem.W.mg_of X GN a19, k19⟩
      | 36, h => cases h; exact ⟨PySem.W.mg_of X GN a20, k20⟩
      | 37, h => cases h; exact ⟨PySem.W.mg_of X GN a21, k21⟩
      | 38, h => cases h; exact ⟨PySem.W.mg_of X GN a22, k22⟩
      | 39, h => cases h; exact ⟨PySem.W.mg_of X GN a23, k23⟩
      | 5, h => exact nomatch (show (none : Option Str) = some x from h)
      | 6, h => exact nomatch (show (none : Option Str) = some x from h)
      | 7, h => exact nomatch (show (none : Option Str) = some x from h)
      | 8, h => exact nomatch (show (none : Option Str) = some x from h)
      | 9, h => exact nomatch (show (none : Option Str) = some x from h)
      | 10, h => exact nomatch (show (none : Option Str) = some x from h)
      | 11, h => exact nomatch (show (none : Option Str) = some x from h)
      | 19, h => exact nomatch (show (none : Option Str) = some x from h)
      | 20, h => exact nomatch (show (none : Option Str) = some x from h)
      | 21, h => exact nomatch (show (none : Option Str) = some x from h)
      | 22, h => exact nomatch (show (none : Option Str) = some x from h)
      | 23, h => exact nomatch (show (none : Option Str) = some x from h)
      | 24, h => exact nomatch (show (none : Option Str) = some x from h)
      | 25, h => exact nomatch (show (none : Option Str) = some x from h)
      | 26, h => exact nomatch (show (none : Option Str) = some x from h)
      | 27, h => exact nomatch (show (none : Option Str) = some x from h)
      | 28, h => exact nomatch (show (none : Option Str) = some x from h)
      | 29, h => exact nomatch (show (none : Option Str) = some x from h)
      | 30, h => exact nomatch (show (none : Option Str) = some x from h)
      | 31, h => exact nomatch (show (none : Option Str) = some x from h)
      | 32, h => exact nomatch (show (none : Option Str) = some x from h)
      | 33, h => exact nomatch (show (none : Option Str) = some x from h)
      | 34, h => exact nomatch (show (none : Option Str) = some x from h)
      | n + 40, h => exact nomatch (show (none : Option Str) = some x from h)
    case mt =>
      have key : ∀ c m i, tx.mt c m = some i → (c = 0 ∧ m = 4 ∧ i = 6) ∨ (c = 0 ∧ m = 5 ∧ i = 7) ∨ (c = 0 ∧ m = 6 ∧ i = 8) ∨ (c = 0 ∧ m = 7 ∧ i = 9) ∨ (c = 0 ∧ m = 8 ∧ i = 10) ∨ (c = 0 ∧ m = 9 ∧ i = 11) := by
        intro c m i h
        unfold tx at h
        simp only at h
        split at h <;> simp_all
      rcases key c m i h with ⟨rfl, rfl, rfl⟩ | ⟨rfl, rfl, rfl⟩ | ⟨rfl, rfl, rfl⟩ | ⟨rfl, rfl, rfl⟩ | ⟨rfl, rfl, rfl⟩ | ⟨rfl, rfl, rfl⟩
      · exact ⟨⟨pg0, hd0, po0, sa0⟩, a6, i6, k6⟩
      · exact ⟨⟨pg0, hd0, po0, sa0⟩, a7, i7, k7⟩
      · exact ⟨⟨pg0, hd0, po0, sa0⟩, a8, i8, k8⟩
      · exact ⟨⟨pg0, hd0, po0, sa0⟩, a9, i9, k9⟩
      · exact ⟨⟨pg0, hd0, po0, sa0⟩, a10, i10, k10⟩
      · exact ⟨⟨pg0, hd0, po0, sa0⟩, a11, i11, k11⟩
    case it =>
      match c, hx, h with
      | 0, hx, h => cases hx; cases h; exact ⟨PySem.W.mg_of X GN aC0, mk0, a5, i5, kc0⟩
      | n + 1, hx, h => exact nomatch (show (none : Option Nat) = some i from h)
    case fl =>
      have key : ∀ c i, tx.fl c i = true → (c = 0 ∧ i = 0) ∨ (c = 0 ∧ i = 1) ∨ (c = 0 ∧ i = 2) ∨ (c = 0 ∧ i = 3) := by
        intro c i h
        unfold tx at h
        simp only at h
        split at h <;> simp_all
      rcases key c i h with ⟨rfl, rfl⟩ | ⟨rfl, rfl⟩ | ⟨rfl, rfl⟩ | ⟨rfl, rfl⟩
      · exact ⟨⟨pg0, hd0, po0, sa0⟩, nf0_0⟩
      · exact ⟨⟨pg0, hd0, po0, sa0⟩, nf0_1⟩
      · exact ⟨⟨pg0, hd0, po0, sa0⟩, nf0_2⟩
      · exact ⟨⟨pg0, hd0, po0, sa0⟩, nf0_3⟩
    case va =>
      match i, h with
      | 0, h => cases h; exact ⟨_, .str "ABCDEFGHIJKLMNOPQRSTUVWXYZ", PySem.W.mg_of X GN v0, ⟨_, rfl⟩, fun _ => dv_str.mpr rfl⟩
      | 1, h => cases h; exact ⟨_, .str "0123456789", PySem.W.mg_of X GN v1, ⟨_, rfl⟩, fun _ => dv_str.mpr rfl⟩
      | 2, h => cases h; exact ⟨_, .int 702, PySem.W.mg_of X GN v2, ⟨_, rfl⟩, fun _ => dv_int.mpr rfl⟩
      | 3, h => cases h; exact ⟨_, .int 9999, PySem.W.mg_of X GN v3, ⟨_, rfl⟩, fun _ => dv_int.mpr rfl⟩
      | n + 4, h => exact nomatch (show (none : Option (Str × D)) = some (x, d) from h)
    case bl =>
      match i, h with
      | 0, h => cases h; exact PySem.W.mg_none_of X GN z0
      | 1, h => cases h; exact PySem.W.mg_none_of X GN z1
      | 2, h => cases h; exact PySem.W.mg_none_of X GN z2
      | 3, h => cases h; exact PySem.W.mg_none_of X GN z3
      | 4, h => cases h; exact PySem.W.mg_none_of X GN z4
      | 5, h => cases h; exact PySem.W.mg_none_of X GN z5
      | 6, h => cases h; exact PySem.W.mg_none_of X GN z6
      | 7, h => cases h; exact PySem.W.mg_none_of X GN z7
      | 8, h => cases h; exact PySem.W.mg_none_of X GN z8
      | n + 9, h => exact nomatch (show (none : Option Str) = some x from h)
    case xn =>
      match i, h with
      | 0, h => cases h; exact ⟨X0, _, _, _, _, rfl, PySem.W.mg_of X GN x0, PySem.F.excBase_ValueError, xe0, xk0, xb0, xt0⟩
      | n + 1, h => exact nomatch (show (none : Option Str) = some x from h)
    case sb =>
      have key : ∀ i j b, tx.sb i j = some b → (i = 0 ∧ j = 0 ∧ b = true) := by
        intro i j b h
        unfold tx at h
        simp only at h
        split at h <;> simp_all
      rcases key i j b h with ⟨rfl, rfl, rfl⟩
      · exact exm_of xb0 xc0 xt0 xs0_0
  refine ⟨PySem.W.fnOf "law" "law" (defArgs s_law) (defBody s_law) (defScope s_law) .none kV23 dc23 pm23 an23 (.ref cA23) ct23, [(cA1, PA1), (cA3, PA3), (cA23, PA23)], liftSp K Z sp_law, ?c1, ?c2, ?c3, fun s u => .of_eq rfl, ?c4, fun base KB GB hTB => ?c5⟩
  case c1 =>
    intro p hp
    simp only [List.mem_cons, List.mem_nil_iff, or_false] at hp
    rcases hp with rfl | rfl | rfl
    · exact tb1.2
    · exact tb3.2
    · exact tb23.2
  case c2 =>
    intro p hp
    simp only [List.mem_cons, List.mem_nil_iff, or_false] at hp
    rcases hp with rfl | rfl | rfl
    · exact n1
    · exact n3
    · exact n23
  case c3 =>
    intro p hp
    simp only [List.mem_cons, List.mem_nil_iff, or_false] at hp
    rcases hp with rfl | rfl | rfl
    · exact tb1.1
    · exact tb3.1
    · exact tb23.1
  case c4 =>
    intro H a ns _ _ hH hS
    refine start_sp (fun P hP => ?_) (fun p hp => ?_) hS fun S x Q E hx hQ => ⟨ns, x, rfl, hx, hQ⟩
    · have hP : P ∈ ([PA1, PA3] : List Addr) := hP
      simp only [List.mem_cons, List.mem_nil_iff, or_false] at hP
      rcases hP with e | e
      · rw [e]; exact hH (cA1, PA1) (by simp)
      · rw [e]; exact hH (cA3, PA3) (by simp)
    · have hp : p ∈ ([(PA23, "law.<locals>.<lambda>")] : List (Addr × Str)) := hp
      simp only [List.mem_cons, List.mem_nil_iff, or_false] at hp
      rcases hp with rfl
      · exact hH (cA23, PA23) (by simp)
  case c5 =>
    have B1 := hTB (cA1, PA1) (by simp)
    have B3 := hTB (cA3, PA3) (by simp)
    have B23 := hTB (cA23, PA23) (by simp)
    have D0 : Done l.prog w K mg base Z fad [] := Done.nil
    have M0' := TS.ok D0
    have D1 : Done l.prog w K mg base Z fad (M1 Z) := D0.snoc (M := M0 Z) (Good.ofFn rfl (ok_column_name (f := f0) hfn hlm M0' F0))
    have M1' := TS.ok D1
    have D2 : Done l.prog w K mg base Z fad (M2 Z) := D1.snoc (M := M1 Z) (Good.ofFn rfl (ok_column_number (f := f1) hfn hlm M1' F1 rfl ⟨B1.code, B1.bm, B1.gP⟩ (by simp [Z]) (fun p hp => by simp [Z] at hp; rw [hp]; exact ne1_23) (PySem.W.mg_of X GN v0)))
    have M2' := TS.ok D2
    have D3 : Done l.prog w K mg base Z fad (M3 Z) := D2.snoc (M := M2 Z) (Good.ofFn rfl (ok_spot_name (f := f2) hfn hlm M2' F2))
    have M3' := TS.ok D3
    have D4 : Done l.prog w K mg base Z fad (M4 Z) := D3.snoc (M := M3 Z) (Good.ofFn rfl (ok_spot_of (f := f3) hfn hlm M3' F3 rfl ⟨B3.code, B3.bm, B3.gP⟩ (by simp [Z]) (fun p hp => by simp [Z] at hp; rw [hp]; exact ne3_23) (PySem.W.mg_of X GN v1)))
    have M4' := TS.ok D4
    have D5 : Done l.prog w K mg base Z fad (M5 Z) := D4.snoc (M := M4 Z) (Good.ofFn rfl (ok_is_spot_name (f := f4) hfn hlm M4' F4))
    have M5' := TS.ok D5
    have D6 : Done l.prog w K mg base Z fad (M6 Z) := D5.snoc (M := M5 Z) (Good.ofFn rfl (ok_Area___init__ (f := f5) hfn hlm M5' F5))
    have M6' := TS.ok D6
    have D7 : Done l.prog w K mg base Z fad (M7 Z) := D6.snoc (M := M6 Z) (Good.ofFn rfl (ok_Area_shown (f := f6) hfn hlm M6' F6))
    have M7' := TS.ok D7
    have D8 : Done l.prog w K mg base Z fad (M8 Z) := D7.snoc (M := M7 Z) (Good.ofFn rfl (ok_Area_size (f := f7) hfn hlm M7' F7))
    have M8' := TS.ok D8
    have D9 : Done l.prog w K mg base Z fad (M9 Z) := D8.snoc (M := M8 Z) (Good.ofFn rfl (ok_Area_holds (f := f8) hfn hlm M8' F8))
    have M9' := TS.ok D9
    have D10 : Done l.prog w K mg base Z fad (M10 Z) := D9.snoc (M := M9 Z) (Good.ofFn rfl (ok_Area_spots (f := f9) hfn hlm M9' F9))
    have M10' := TS.ok D10
    have D11 : Done l.prog w K mg base Z fad (M11 Z) := D10.snoc (M := M10 Z) (Good.ofFn rfl (ok_Area_meets (f := f10) hfn hlm M10' F10))
    have M11' := TS.ok D11
    have D12 : Done l.prog w K mg base Z fad (M12 Z) := D11.snoc (M := M11 Z) (Good.ofFn rfl (ok_Area_label (f := f11) hfn hlm M11' F11))
    have M12' := TS.ok D12
    have D13 : Done l.prog w K mg base Z fad (M13 Z) := D12.snoc (M := M12 Z) (Good.ofFn rfl (ok_area_of (f := f12) hfn hlm M12' F12))
    have M13' := TS.ok D13
    have D14 : Done l.prog w K mg base Z fad (M14 Z) := D13.snoc (M := M13 Z) (Good.ofFn rfl (ok_moved_place (f := f13) hfn hlm M13' F13))
    have M14' := TS.ok D14
    have D15 : Done l.prog w K mg base Z fad (M15 Z) := D14.snoc (M := M14 Z) (Good.ofFn rfl (ok_moved_span (f := f14) hfn hlm M14' F14))
    have M15' := TS.ok D15
    have D16 : Done l.prog w K mg base Z fad (M16 Z) := D15.snoc (M := M15 Z) (Good.ofFn rfl (ok_moved_area (f := f15) hfn hlm M15' F15))
    have M16' := TS.ok D16
    have D17 : Done l.prog w K mg base Z fad (M17 Z) := D16.snoc (M := M16 Z) (Good.ofFn rfl (ok__law_dice (f := f16) hfn hlm M16' F16))
    have M17' := TS.ok D17
    have D18 : Done l.prog w K mg base Z fad (M18 Z) := D17.snoc (M := M17 Z) (Good.ofFn rfl (ok__law_roll (f := f17) hfn hlm M17' F17))
    have M18' := TS.ok D18
    have D19 : Done l.prog w K mg base Z fad (M19 Z) := D18.snoc (M := M18 Z) (Good.ofFn rfl (ok__law_rounds (f := f18) hfn hlm M18' F18))
    have M19' := TS.ok D19
    have D20 : Done l.prog w K mg base Z fad (M20 Z) := D19.snoc (M := M19 Z) (Good.ofLam (j := 0) rfl rfl (ok_lam_0 hfn M19' rfl))
    have M20' := TS.ok D20
    have D21 : Done l.prog w K mg base Z fad (M21 Z) := D20.snoc (M := M20 Z) (Good.ofLam (j := 1) rfl rfl (ok_lam_1 hfn M20' rfl))
    have M21' := TS.ok D21
    have D22 : Done l.prog w K mg base Z fad (M22 Z) := D21.snoc (M := M21 Z) (Good.ofLam (j := 2) rfl rfl (ok_lam_2 hfn M21' rfl))
    have M22' := TS.ok D22
    have D23 : Done l.prog w K mg base Z fad (M23 Z) := D22.snoc (M := M22 Z) (Good.ofLam (j := 3) rfl rfl (ok_lam_3 hfn M22' rfl))
    have M23' := TS.ok D23
    have D24 : Done l.prog w K mg base Z fad (M24 Z) := D23.snoc (M := M23 Z) (Good.ofLam (j := 4) rfl rfl (ok_lam_4 hfn M23' rfl))
    have M24' := TS.ok D24
    have D25 : Done l.prog w K mg base Z fad (M25 Z) := D24.snoc (M := M24 Z) (Good.ofLam (j := 5) rfl rfl (ok_lam_5 hfn M24' rfl))
    have M25' := TS.ok D25
    have D26 : Done l.prog w K mg base Z fad (M26 Z) := D25.snoc (M := M25 Z) (Good.ofLam (j := 6) rfl rfl (ok_lam_6 hfn M25' rfl))
    have M26' := TS.ok D26
    have D27 : Done l.prog w K mg base Z fad (M27 Z) := D26.snoc (M := M26 Z) (Good.ofLam (j := 7) rfl rfl (ok_lam_7 hfn M26' rfl))
    have M27' := TS.ok D27
    have D28 : Done l.prog w K mg base Z fad (M28 Z) := D27.snoc (M := M27 Z) (Good.ofLam (j := 8) rfl rfl (ok_lam_8 hfn M27' rfl))
    have M28' := TS.ok D28
    have D29 : Done l.prog w K mg base Z fad (M29 Z) := D28.snoc (M := M28 Z) (Good.ofLam (j := 9) rfl rfl (ok_lam_9 hfn M28' rfl))
    have M29' := TS.ok D29
    have D30 : Done l.prog w K mg base Z fad (M30 Z) := D29.snoc (M := M29 Z) (Good.ofLam (j := 10) rfl rfl (ok_lam_10 hfn M29' rfl))
    have M30' := TS.ok D30
    have D31 : Done l.prog w K mg base Z fad (M31 Z) := D30.snoc (M := M30 Z) (Good.ofLam (j := 11) rfl rfl (ok_lam_11 hfn M30' rfl))
    have M31' := TS.ok D31
    have D32 : Done l.prog w K mg base Z fad (M32 Z) := D31.snoc (M := M31 Z) (Good.ofLam (j := 12) rfl rfl (ok_lam_12 hfn M31' rfl))
    have M32' := TS.ok D32
    have D33 : Done l.prog w K mg base Z fad (M33 Z) := D32.snoc (M := M32 Z) (Good.ofLam (j := 13) rfl rfl (ok_lam_13 hfn M32' rfl))
    have M33' := TS.ok D33
    have D34 : Done l.prog w K mg base Z fad (M34 Z) := D33.snoc (M := M33 Z) (Good.ofLam (j := 14) rfl rfl (ok_lam_14 hfn M33' rfl))
    have M34' := TS.ok D34
    have D35 : Done l.prog w K mg base Z fad (M35 Z) := D34.snoc (M := M34 Z) (Good.ofLam (j := 15) rfl rfl (ok_lam_15 hfn M34' rfl))
    have M35' := TS.ok D35
    have D36 : Done l.prog w K mg base Z fad (M36 Z) := D35.snoc (M := M35 Z) (Good.ofFn rfl (ok__law_told (f := f19) hfn hlm M35' F19))
    have M36' := TS.ok D36
    have D37 : Done l.prog w K mg base Z fad (M37 Z) := D36.snoc (M := M36 Z) (Good.ofFn rfl (ok__law_column (f := f20) hfn hlm M36' F20))
    have M37' := TS.ok D37
    have D38 : Done l.prog w K mg base Z fad (M38 Z) := D37.snoc (M := M37 Z) (Good.ofFn rfl (ok__law_area (f := f21) hfn hlm M37' F21))
    have M38' := TS.ok D38
    have D39 : Done l.prog w K mg base Z fad (M39 Z) := D38.snoc (M := M38 Z) (Good.ofFn rfl (ok__law_goes (f := f22) hfn hlm M38' F22))
    have M39' := TS.ok D39
    exact ok_law (f := f23) hfn hlm M39' F23 rfl B23 (by simp [Z]) (fun p hp _ => by simp [Z] at hp; rw [hp])
end K02

open PySem PySem.W PyProof.Rows in
set_option maxRecDepth 100000 in
set_option maxHeartbeats 0 in
theorem PySem.Challenge.cw_cellstack_k02_spots_and_ranges_holds : PySem.Challenge.rw_cellstack_k02_spots_and_ranges.Holds := by
  w_on; o_law; k_head; (case hw => w_witness2)
  k_fill
  refine G.walk_all (l := PySem.Challenge.rw_cellstack_k02_spots_and_ranges) (n := 63) (k := 7) (x := "script") (CX := fun w => L2.CX PySem.Challenge.rw_cellstack_k02_spots_and_ranges.prog w) rfl (by decide) rfl ⟨rfl, by decide, by decide⟩ (fun w h Y => PySem.W.km_in_of Y) ?F (fun w H s e s' ⟨_, _, _, _, _, _, _, _, _, _, _, _, z⟩ => z)
  case F =>
    intro w mg mb mean fa h Y KX T hmg
    refine' K02.all_mk KX T hmg ?hrec ?aC0 ?a0 ?l0 ?c0 ?k0 ?a1 ?l1 ?c1 ?k1 ?t1 ?p1 ?n1 ?a2 ?l2 ?c2 ?k2 ?a3 ?l3 ?c3 ?k3 ?t3 ?p3 ?n3 ?a4 ?l4 ?c4 ?k4 ?a5 ?i5 ?l5 ?c5 ?k5 ?a6 ?i6 ?l6 ?c6 ?k6 ?a7 ?i7 ?l7 ?c7 ?k7 ?a8 ?i8 ?l8 ?c8 ?k8 ?a9 ?i9 ?l9 ?c9 ?k9 ?a10 ?i10 ?l10 ?c10 ?k10 ?a11 ?i11 ?l11 ?c11 ?k11 ?a12 ?l12 ?c12 ?k12 ?a13 ?l13 ?c13 ?k13 ?a14 ?l14 ?c14 ?k14 ?a15 ?l15 ?c15 ?k15 ?a16 ?l16 ?c16 ?k16 ?a17 ?l17 ?c17 ?k17 ?a18 ?l18 ?c18 ?k18 ?a19 ?l19 ?c19 ?k19 ?a20 ?l20 ?c20 ?k20 ?a21 ?l21 ?c21 ?k21 ?a22 ?l22 ?c22 ?k22 ?a23 ?l23 ?c23 ?k23 ?t23 ?p23 ?n23 ?pg0 ?hd0 ?po0 ?sa0 ?mk0 ?kc0 ?nf0_0 ?nf0_1 ?nf0_2 ?nf0_3 ?v0 ?v1 ?v2 ?v3 ?z0 ?z1 ?z2 ?z3 ?z4 ?z5 ?z6 ?z7 ?z8 ?x0 ?xe0 ?xk0 ?xb0 ?xt0 ?xc0 ?xs0_0 ?ne1_23 ?ne3_23
    (case hrec => decide +kernel)
    (case aC0 => k_is)
    (case a0 => k_is)
    (case l0 => k_is)
    (case c0 => k_is)
    (case k0 => k_is)
    (case a1 => k_is)
    (case l1 => k_is)
    (case c1 => k_is)
    (case k1 => k_is)
    (case t1 => k_is)
    (case p1 => first | rfl | with_unfolding_all rfl | decide)
    (case n1 => first | k_is | rfl | kernel_rfl | decide +kernel)
    (case a2 => k_is)
    (case l2 => k_is)
    (case c2 => k_is)
    (case k2 => k_is)
    (case a3 => k_is)
    (case l3 => k_is)
    (case c3 => k_is)
    (case k3 => k_is)
    (case t3 => k_is)
    (case p3 => first | rfl | with_unfolding_all rfl | decide)
    (case n3 => first | k_is | rfl | kernel_rfl | decide +kernel)
    (case a4 => k_is)
    (case l4 => k_is)
    (case c4 => k_is)
    (case k4 => k_is)
    (case a5 => k_is)
    (case i5 => k_is)
    (case l5 => k_is)
    (case c5 => k_is)
    (case k5 => k_is)
    (case a6 => k_is)
    (case i6 => k_is)
    (case l6 => k_is)
    (case c6 => k_is)
    (case k6 => k_is)
    (case a7 => k_is)
    (case i7 => k_is)
    (case l7 => k_is)
    (case c7 => k_is)
    (case k7 => k_is)
    (case a8 => k_is)
    (case i8 => k_is)
    (case l8 => k_is)
    (case c8 => k_is)
    (case k8 => k_is)
    (case a9 => k_is)
    (case i9 => k_is)
    (case l9 => k_is)
    (case c9 => k_is)
    (case k9 => k_is)
    (case a10 => k_is)
    (case i10 => k_is)
    (case l10 => k_is)
    (case c10 => k_is)
    (case k10 => k_is)
    (case a11 => k_is)
    (case i11 => k_is)
    (case l11 => k_is)
    (case c11 => k_is)
    (case k11 => k_is)
    (case a12 => k_is)
    (case l12 => k_is)
    (case c12 => k_is)
    (case k12 => k_is)
    (case a13 => k_is)
    (case l13 => k_is)
    (case c13 => k_is)
    (case k13 => k_is)
    (case a14 => k_is)
    (case l14 => k_is)
    (case c14 => k_is)
    (case k14 => k_is)
    (case a15 => k_is)
    (case l15 => k_is)
    (case c15 => k_is)
    (case k15 => k_is)
    (case a16 => k_is)
    (case l16 => k_is)
    (case c16 => k_is)
    (case k16 => k_is)
    (case a17 => k_is)
    (case l17 => k_is)
    (case c17 => k_is)
    (case k17 => k_is)
    (case a18 => k_is)
    (case l18 => k_is)
    (case c18 => k_is)
    (case k18 => k_is)
    (case a19 => k_is)
    (case l19 => k_is)
    (case c19 => k_is)
    (case k19 => k_is)
    (case a20 => k_is)
    (case l20 => k_is)
    (case c20 => k_is)
    (case k20 => k_is)
    (case a21 => k_is)
    (case l21 => k_is)
    (case c21 => k_is)
    (case k21 => k_is)
    (case a22 => k_is)
    (case l22 => k_is)
    (case c22 => k_is)
    (case k22 => k_is)
    (case a23 => k_is)
    (case l23 => k_is)
    (case c23 => k_is)
    (case k23 => k_is)
    (case t23 => k_is)
    (case p23 => first | rfl | with_unfolding_all rfl | decide)
    (case n23 => first | k_is | rfl | kernel_rfl | decide +kernel)
    (case pg0 => k_is)
    (case hd0 => k_is)
    (case po0 => k_is)
    (case sa0 => k_is)
    (case mk0 => k_is)
    (case kc0 => k_is)
    (case nf0_0 => k_is)
    (case nf0_1 => k_is)
    (case nf0_2 => k_is)
    (case nf0_3 => k_is)
    (case v0 => k_is)
    (case v1 => k_is)
    (case v2 => k_is)
    (case v3 => k_is)
    (case z0 => k_is)
    (case z1 => k_is)
    (case z2 => k_is)
    (case z3 => k_is)
    (case z4 => k_is)
    (case z5 => k_is)
    (case z6 => k_is)
    (case z7 => k_is)
    (case z8 => k_is)
    (case x0 => k_is)
    (case xe0 => k_exc)
    (case xk0 => k_is)
    (case xb0 => k_is)
    (case xt0 => k_is)
    (case xc0 => k_is)
    (case xs0_0 => first | rfl | k_is)
    (case ne1_23 => decide)
    (case ne3_23 => decide)

