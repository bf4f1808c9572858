import PyProof.Rows.All
import Wide.All
import OpenK.AllK
import Wide.FinOn
import HandS.ForExc
import HandS.Comp
import HandS.Iter
import HandS.Text
import HandS.CallSlots
import HandS.Wide
import HandS.Lambda
import HandS.Flow
import HandS.TupAny
import HandS.Walk
import HandS.Zip
import HandS.Conv
import HandS.Replace
import HandS.StrMore
import HandS.AnyAll
import HandS.EndOwn
import KE.IntTextLaws
import KE.IntTextText
import KE.KIntText
import HandS.IsInst
import HandS.FStr
import HandS.Dict
import HandS.Defaults
import HandS.ReplaceLit
import HandS.Codes
import PyProof.ToksMono
import PySem.Challenge.RW_cellstack_k08_numbers_as_they_are_shown
set_option Elab.async false
set_option linter.all false
set_option maxRecDepth 100000
set_option maxHeartbeats 4000000
/-! GA: the data layer's core. Tuples are values; lists, dicts, instances stand in a store by their addresses. -/
namespace G
open PySem PySem.Spec PyProof.Rows L2

/-- data: tuples by value; rol: a list that is only read -/
inductive D where
  | non | bl (b : Bool) | int (i : Int) | str (x : Str) | tup (xs : List D) | rol (xs : List D) | ref (a : Addr)

/-- a list that is only read: known, or of the written part -/
def RoL (K : PySem.W.Frag) (H : Hp) (a : Addr) (xs : List V) : Prop :=
  (∃ o, H a = some (.frz o (.lst xs))) ∨
    ∃ (o : Obj) (its : Array Value) (n : Nat), K.lookup a = some o ∧ o.cls = .type "list" ∧ o.dict = none ∧ o.data = .seq its n ∧ its.size ≤ sizeLine ∧ Vals xs its.toList
theorem RoL.sq {K : PySem.W.Frag} {H : Hp} {a : Addr} {xs : List V} (h : RoL K H a xs) : SqL K H a xs := by
  rcases h with h | h
  · exact .inl (.inr h)
  · exact .inr h

mutual
def DV (K : PySem.W.Frag) (H : Hp) : D → V → Prop
  | .non, v => v = .non
  | .bl b, v => v = .bl b
  | .int i, v => v = .int i
  | .str x, v => v = .str x
  | .ref a, v => v = .ref a
  | .tup ds, v => ∃ p vs, v = .ref p ∧ SqT K H p vs ∧ DVs K H ds vs
  | .rol ds, v => ∃ p vs, v = .ref p ∧ RoL K H p vs ∧ DVs K H ds vs
def DVs (K : PySem.W.Frag) (H : Hp) : List D → List V → Prop
  | [], vs => vs = []
  | d :: ds, vs => ∃ v r, vs = v :: r ∧ DV K H d v ∧ DVs K H ds r
end

/-- how the abstract heap goes on: tuples and what is known stay, nothing is lost -/
structure Evo (H H' : Hp) : Prop where
  tup : ∀ a xs, H a = some (.tup xs) → H' a = some (.tup xs)
  frz : ∀ a o u, H a = some (.frz o u) → H' a = some (.frz o u)
  dom : ∀ a, H a ≠ none → H' a ≠ none
  ext : ∀ a φ, H a = some (.ext φ) → H' a = some (.ext φ)
theorem Evo.refl (H : Hp) : Evo H H := ⟨fun _ _ h => h, fun _ _ _ h => h, fun _ h => h, fun _ _ h => h⟩
theorem Evo.trans {H H1 H2 : Hp} (a : Evo H H1) (b : Evo H1 H2) : Evo H H2 := ⟨fun x xs h => b.tup x xs (a.tup x xs h), fun x o u h => b.frz x o u (a.frz x o u h), fun x h => b.dom x (a.dom x h), fun x o h => b.ext x o (a.ext x o h)⟩
theorem upd_dom {H : Hp} {p a : Addr} {o : HO} (h : H a ≠ none) : upd H p o a ≠ none := by
  by_cases e : a = p
  · rw [e, upd_same]; exact fun z => nomatch z
  · rw [upd_ne e]; exact h
theorem Evo.new {H : Hp} {p : Addr} {o : HO} (h : H p = none) : Evo H (upd H p o) :=
  ⟨fun a xs e => by rw [upd_ne (ne_of_none e h)]; exact e, fun a ob u e => by rw [upd_ne (ne_of_none e h)]; exact e, fun _ => upd_dom, fun a ob e => by rw [upd_ne (ne_of_none e h)]; exact e⟩
theorem Evo.put {H : Hp} {p : Addr} {o o' : HO} (h : H p = some o) (h1 : ∀ xs, o ≠ .tup xs) (h2 : ∀ ob u, o ≠ .frz ob u) (h3 : ∀ φ, o ≠ .ext φ) : Evo H (upd H p o') :=
  ⟨fun a xs e => by rw [upd_ne (ne_of e h (fun q => h1 xs q.symm))]; exact e, fun a ob u e => by rw [upd_ne (ne_of e h (fun q => h2 ob u q.symm))]; exact e, fun _ => upd_dom, fun a ob e => by rw [upd_ne (ne_of e h (fun q => h3 ob q.symm))]; exact e⟩
theorem Evo.sqT {K : PySem.W.Frag} {H H' : Hp} {a : Addr} {xs : List V} (e : Evo H H') (h : SqT K H a xs) : SqT K H' a xs := by
  rcases h with (h | ⟨o, h⟩) | h
  · exact .inl (.inl (e.tup _ _ h))
  · exact .inl (.inr ⟨o, e.frz _ _ _ h⟩)
  · exact .inr h
theorem Evo.roL {K : PySem.W.Frag} {H H' : Hp} {a : Addr} {xs : List V} (e : Evo H H') (h : RoL K H a xs) : RoL K H' a xs := by
  rcases h with ⟨o, h⟩ | h
  · exact .inl ⟨o, e.frz _ _ _ h⟩
  · exact .inr h
mutual
theorem DV.mono {K : PySem.W.Frag} {H H' : Hp} (e : Evo H H') : ∀ {d : D} {v : V}, DV K H d v → DV K H' d v
  | .non, _, h => by simpa only [DV] using h
  | .bl _, _, h => by simpa only [DV] using h
  | .int _, _, h => by simpa only [DV] using h
  | .str _, _, h => by simpa only [DV] using h
  | .ref _, _, h => by simpa only [DV] using h
  | .tup ds, _, h => by
    simp only [DV] at h ⊢
    obtain ⟨p, vs, h1, h2, h3⟩ := h
    exact ⟨p, vs, h1, e.sqT h2, DVs.mono e h3⟩
  | .rol ds, _, h => by
    simp only [DV] at h ⊢
    obtain ⟨p, vs, h1, h2, h3⟩ := h
    exact ⟨p, vs, h1, e.roL h2, DVs.mono e h3⟩
theorem DVs.mono {K : PySem.W.Frag} {H H' : Hp} (e : Evo H H') : ∀ {ds : List D} {vs : List V}, DVs K H ds vs → DVs K H' ds vs
  | [], _, h => by simpa only [DVs] using h
  | d :: ds, _, h => by
    simp only [DVs] at h ⊢
    obtain ⟨v, r, h1, h2, h3⟩ := h
    exact ⟨v, r, h1, DV.mono e h2, DVs.mono e h3⟩
end
section
variable {K : PySem.W.Frag} {H H' : Hp}
theorem dv_non {v : V} : DV K H .non v ↔ v = .non := by simp only [DV]
theorem dv_bl {b : Bool} {v : V} : DV K H (.bl b) v ↔ v = .bl b := by simp only [DV]
theorem dv_int {i : Int} {v : V} : DV K H (.int i) v ↔ v = .int i := by simp only [DV]
theorem dv_str {x : Str} {v : V} : DV K H (.str x) v ↔ v = .str x := by simp only [DV]
theorem dv_ref {a : Addr} {v : V} : DV K H (.ref a) v ↔ v = .ref a := by simp only [DV]
theorem dv_tup {ds : List D} {v : V} : DV K H (.tup ds) v ↔ ∃ p vs, v = .ref p ∧ SqT K H p vs ∧ DVs K H ds vs := by simp only [DV]
theorem dv_rol {ds : List D} {v : V} : DV K H (.rol ds) v ↔ ∃ p vs, v = .ref p ∧ RoL K H p vs ∧ DVs K H ds vs := by simp only [DV]
theorem dvs_nil {vs : List V} : DVs K H [] vs ↔ vs = [] := by simp only [DVs]
theorem dvs_cons {d : D} {ds : List D} {vs : List V} : DVs K H (d :: ds) vs ↔ ∃ v r, vs = v :: r ∧ DV K H d v ∧ DVs K H ds r := by simp only [DVs]
theorem DVs.cons {d : D} {ds : List D} {v : V} {vs : List V} (h : DV K H d v) (t : DVs K H ds vs) : DVs K H (d :: ds) (v :: vs) := dvs_cons.mpr ⟨v, vs, rfl, h, t⟩
theorem DVs.len : ∀ {ds : List D} {vs : List V}, DVs K H ds vs → ds.length = vs.length
  | [], _, h => by rw [dvs_nil.mp h]; rfl
  | d :: ds, _, h => by
    obtain ⟨v, r, rfl, _, h2⟩ := dvs_cons.mp h
    rw [List.length_cons, List.length_cons, DVs.len h2]
theorem DVs.get : ∀ {ds : List D} {vs : List V} {i : Nat} {d : D}, DVs K H ds vs → ds[i]? = some d → ∃ v, vs[i]? = some v ∧ DV K H d v
  | [], _, i, d, h, e => by simp at e
  | d0 :: ds, _, 0, d, h, e => by
    obtain ⟨v, r, rfl, h1, h2⟩ := dvs_cons.mp h
    simp at e
    subst e
    exact ⟨v, rfl, h1⟩
  | d0 :: ds, _, i + 1, d, h, e => by
    obtain ⟨v, r, rfl, h1, h2⟩ := dvs_cons.mp h
    obtain ⟨w, q1, q2⟩ := DVs.get h2 (by simpa using e)
    exact ⟨w, by simpa using q1, q2⟩
theorem DVs.append : ∀ {ds es : List D} {vs ws : List V}, DVs K H ds vs → DVs K H es ws → DVs K H (ds ++ es) (vs ++ ws)
  | [], _, _, _, h, h' => by rw [dvs_nil.mp h]; exact h'
  | d :: ds, _, _, _, h, h' => by
    obtain ⟨v, r, rfl, h1, h2⟩ := dvs_cons.mp h
    exact DVs.cons h1 (DVs.append h2 h')
theorem DVs.drop : ∀ {ds : List D} {vs : List V} (n : Nat), DVs K H ds vs → DVs K H (ds.drop n) (vs.drop n)
  | _, _, 0, h => h
  | [], _, n + 1, h => by rw [dvs_nil.mp h]; exact dvs_nil.mpr rfl
  | d :: ds, _, n + 1, h => by
    obtain ⟨v, r, rfl, h1, h2⟩ := dvs_cons.mp h
    exact DVs.drop n h2
theorem DVs.take : ∀ {ds : List D} {vs : List V} (n : Nat), DVs K H ds vs → DVs K H (ds.take n) (vs.take n)
  | _, _, 0, h => dvs_nil.mpr rfl
  | [], _, n + 1, h => by rw [dvs_nil.mp h]; exact dvs_nil.mpr rfl
  | d :: ds, _, n + 1, h => by
    obtain ⟨v, r, rfl, h1, h2⟩ := dvs_cons.mp h
    exact DVs.cons h1 (DVs.take n h2)
theorem DVs.set {e : D} {w : V} (q : DV K H e w) : ∀ {ds : List D} {vs : List V} (n : Nat), DVs K H ds vs → DVs K H (ds.set n e) (vs.set n w)
  | [], _, n, h => by rw [dvs_nil.mp h]; exact dvs_nil.mpr rfl
  | d :: ds, _, 0, h => by
    obtain ⟨v, r, rfl, h1, h2⟩ := dvs_cons.mp h
    exact DVs.cons q h2
  | d :: ds, _, n + 1, h => by
    obtain ⟨v, r, rfl, h1, h2⟩ := dvs_cons.mp h
    exact DVs.cons h1 (DVs.set q n h2)
theorem dvs_ints : ∀ (ns : List Int), DVs K H (ns.map D.int) (ns.map V.int)
  | [] => dvs_nil.mpr rfl
  | n :: ns => DVs.cons (dv_int.mpr rfl) (dvs_ints ns)
theorem dvs_intsE : ∀ {ns : List Int} {vs : List V}, DVs K H (ns.map D.int) vs → vs = ns.map V.int
  | [], _, h => dvs_nil.mp h
  | n :: ns, _, h => by
    obtain ⟨v, r, rfl, h1, h2⟩ := dvs_cons.mp h
    rw [dv_int.mp h1, dvs_intsE h2]
    rfl
theorem dvs_strsE : ∀ {ns : List Str} {vs : List V}, DVs K H (ns.map D.str) vs → vs = ns.map V.str
  | [], _, h => dvs_nil.mp h
  | n :: ns, _, h => by
    obtain ⟨v, r, rfl, h1, h2⟩ := dvs_cons.mp h
    rw [dv_str.mp h1, dvs_strsE h2]
    rfl
theorem dvs_strs : ∀ (ns : List Str), DVs K H (ns.map D.str) (ns.map V.str)
  | [] => dvs_nil.mpr rfl
  | n :: ns => DVs.cons (dv_str.mpr rfl) (dvs_strs ns)
end

/-! ### the store -/
/-- what stands at an address: a list, a dict (keys ints and texts), an instance of the c-th class, another thing by what is true of its place -/
inductive O where
  | lst (ds : List D)
  | dct (kvs : List (Key × D))
  | ins (c : Nat) (fs : List (Nat × D))
  | oth (φ : Hp → Addr → Prop)
abbrev DS := Addr → Option O
def put (S : DS) (a : Addr) (o : O) : DS := fun b => if b = a then some o else S b
theorem put_same {S : DS} {a : Addr} {o : O} : put S a o a = some o := by unfold put; rw [if_pos rfl]
theorem put_ne {S : DS} {a b : Addr} {o : O} (h : b ≠ a) : put S a o b = S b := by unfold put; rw [if_neg h]
theorem put_put {S : DS} {a : Addr} {o u : O} : put (put S a o) a u = put S a u := by
  funext b; unfold put; split <;> rfl
theorem put_eta {S : DS} {a : Addr} {o : O} (h : S a = some o) : put S a o = S := by
  funext b; unfold put; split
  · rename_i e; rw [e, h]
  · rfl
theorem ne_of_free {S : DS} {a b : Addr} {o : O} (h : S a = some o) (h' : S b = none) : a ≠ b := by
  intro e; subst e; rw [h] at h'; cases h'
/-- less is known -/
def Sub (S S' : DS) : Prop := ∀ a o, S a = some o → S' a = some o
theorem Sub.refl (S : DS) : Sub S S := fun _ _ h => h
theorem Sub.trans {S S1 S2 : DS} (a : Sub S S1) (b : Sub S1 S2) : Sub S S2 := fun x o h => b x o (a x o h)
theorem Sub.new {S : DS} {p : Addr} {o : O} (h : S p = none) : Sub S (put S p o) := fun a u e => by rw [put_ne (ne_of_free e h)]; exact e
theorem Sub.put {S S' : DS} (s : Sub S S') (p : Addr) (o : O) : Sub (put S p o) (put S' p o) := fun a u e => by
  by_cases h : a = p
  · subst h; rw [put_same] at e ⊢; exact e
  · rw [put_ne h] at e ⊢; exact s a u e
theorem Sub.newR {S S' : DS} (s : Sub S S') {p : Addr} {o : O} (h : S' p = none) : Sub S (G.put S' p o) := s.trans (Sub.new h)

/-- heap and store go on: what stood and was not told is not told, and stays as it was (but for tables of code objects) -/
structure Go (H : Hp) (S : DS) (H' : Hp) (S' : DS) : Prop where
  evo : Evo H H'
  fr : ∀ b, H b ≠ none → S b = none → S' b = none
  un : ∀ b o, H b = some o → S b = none → (∀ ps, o ≠ .tbl ps) → H' b = some o
theorem Go.r {H : Hp} {S : DS} : Go H S H S := ⟨Evo.refl H, fun _ _ h => h, fun _ _ h _ _ => h⟩
theorem Go.trans {H H1 H2 : Hp} {S S1 S2 : DS} (a : Go H S H1 S1) (b : Go H1 S1 H2 S2) : Go H S H2 S2 :=
  ⟨a.evo.trans b.evo, fun x h1 h2 => b.fr x (a.evo.dom x h1) (a.fr x h1 h2), fun x o h1 h2 h3 => b.un x o (a.un x o h1 h2 h3) (a.fr x (by rw [h1]; exact fun z => nomatch z) h2) h3⟩
theorem Go.new {H : Hp} {S : DS} {p : Addr} {o : HO} (h : H p = none) : Go H S (upd H p o) S := ⟨Evo.new h, fun _ _ h => h, fun b u e _ _ => by rw [upd_ne (ne_of_none e h)]; exact e⟩
theorem Go.made {H : Hp} {S : DS} {p : Addr} {o : HO} {u : O} (h : H p = none) : Go H S (upd H p o) (put S p u) := ⟨Evo.new h, fun b h1 h2 => by
  rw [put_ne (fun z => h1 (by rw [z]; exact h))]; exact h2, fun b u e _ _ => by rw [upd_ne (ne_of_none e h)]; exact e⟩
theorem Go.sub {H H' : Hp} {S S' S'' : DS} (a : Go H S H' S') (s : Sub S'' S') : Go H S H' S'' := ⟨a.evo, fun b h1 h2 => by
  have q := a.fr b h1 h2
  cases e : S'' b with
  | none => rfl
  | some o => rw [s b o e] at q; exact q, a.un⟩
theorem Go.wrote {H : Hp} {S : DS} {a : Addr} {o : HO} {u u' : O} (e : Evo H (upd H a o)) (h : S a = some u) : Go H S (upd H a o) (put S a u') := ⟨e, fun b _ h2 => by
  rw [put_ne (fun z => by rw [z, h] at h2; cases h2)]; exact h2, fun b u e h2 _ => by rw [upd_ne (fun z => by rw [z, h] at h2; cases h2)]; exact e⟩

/-- a lambda that captures nothing: its qualified name, its text -/
structure LamR where
  q : Str
  params : Arguments
  body : Expr
  scope : Scope
/-- what is fixed through a law: the tables of code objects, the classes' addresses, the names of fields and methods, the errors' classes -/
structure Zt where
  T : List Addr
  TL : List (Addr × Str)
  lm : Nat → Option LamR
  cm : Nat → Addr
  fn : Nat → Str
  ex : Nat → Value
  inj : ∀ i j, fn i = fn j → i = j

def lk (fs : List (Nat × D)) (i : Nat) : Option D := match fs with
  | [] => none
  | (j, d) :: r => if i = j then some d else lk r i
def FV (K : PySem.W.Frag) (Z : Zt) (H : Hp) (fs : List (Nat × D)) (vs : List (Str × V)) : Prop :=
  vs.length ≤ fs.length ∧ (∀ i d, lk fs i = some d → ∃ v, vs.lookup (Z.fn i) = some v ∧ DV K H d v) ∧ ∀ x : Str, (∀ i d, lk fs i = some d → Z.fn i ≠ x) → vs.lookup x = none
def KDV (K : PySem.W.Frag) (H : Hp) : List (Key × D) → List (Key × V) → Prop
  | [], ws => ws = []
  | (k, d) :: r, ws => ∃ v q, ws = (k, v) :: q ∧ DV K H d v ∧ KDV K H r q
def OV (K : PySem.W.Frag) (Z : Zt) (H : Hp) (a : Addr) : O → Prop
  | .lst ds => ∃ vs, H a = some (.lst vs) ∧ DVs K H ds vs
  | .dct kvs => ∃ ws, H a = some (.dK ws) ∧ KDV K H kvs ws
  | .ins c fs => ∃ dx vs, H a = some (.ins (Z.cm c) dx vs) ∧ FV K Z H fs vs
  | .oth φ => (∃ u, H a = some u ∧ Mut (some u)) ∧ φ H a ∧ ∀ H1 H2 : Hp, φ H1 a → H2 a = H1 a → Evo H1 H2 → φ H2 a
def SR (K : PySem.W.Frag) (Z : Zt) (S : DS) (H : Hp) : Prop := ∀ a o, S a = some o → OV K Z H a o
def TB (Z : Zt) (H : Hp) : Prop := (∀ P ∈ Z.T, ∃ ps : Array Value, H P = some (.tbl ps) ∧ TriplesOk ps.toList) ∧ LamX.Tabs Z.TL H
theorem TB.new {Z : Zt} {H : Hp} {p : Addr} {u : HO} (h : TB Z H) (n : H p = none) : TB Z (upd H p u) := by
  refine ⟨fun P hP => ?_, h.2.ext fun b o e => by rw [upd_ne (ne_of_none e n)]; exact e⟩
  obtain ⟨ps, h1, h2⟩ := h.1 P hP
  exact ⟨ps, by rw [upd_ne (ne_of_none h1 n)]; exact h1, h2⟩
theorem TB.wrote {Z : Zt} {H : Hp} {a : Addr} {u u' : HO} (h : TB Z H) (e : H a = some u) (m : Mut (some u)) (x : ∀ φ, u ≠ .ext φ) : TB Z (upd H a u') := by
  refine ⟨fun P hP => ?_, fun p hp => ?_⟩
  · obtain ⟨ps, h1, h2⟩ := h.1 P hP
    refine ⟨ps, ?_, h2⟩
    rw [upd_ne]
    · exact h1
    · intro z
      rw [z, e] at h1
      cases h1
      exact m
  · obtain ⟨ps, h1, h2, h3⟩ := h.2 p hp
    refine ⟨ps, ?_, h2, fun pos cv hc => ?_⟩
    · rw [upd_ne]
      · exact h1
      · intro z
        rw [z, e] at h1
        cases h1
        exact m
    · obtain ⟨c, e1, e2⟩ := h3 pos cv hc
      refine ⟨c, e1, ?_⟩
      rw [upd_ne]
      · exact e2
      · intro z
        rw [z, e] at e2
        exact x _ (Option.some.inj e2)
/-- store and tables -/
structure ST (K : PySem.W.Frag) (Z : Zt) (S : DS) (H : Hp) : Prop where
  sr : SR K Z S H
  tb : TB Z H
abbrev Env_ := List (Option D)
structure SL (K : PySem.W.Frag) (H : Hp) (r : Env_) (σ : L2.St) : Prop where
  len : r.length = σ.length
  get : ∀ (i : Nat) (d : D), r[i]? = some (some d) → ∃ v, σ[i]? = some (some v) ∧ DV K H d v
theorem SL.mono {K : PySem.W.Frag} {H H' : Hp} {r : Env_} {σ : L2.St} (h : SL K H r σ) (e : Evo H H') : SL K H' r σ :=
  ⟨h.len, fun i d q => let ⟨v, a, b⟩ := h.get i d q; ⟨v, a, b.mono e⟩⟩
theorem SL.set {K : PySem.W.Frag} {H : Hp} {r : Env_} {σ : L2.St} {d : D} {v : V} (h : SL K H r σ) (i : Nat) (q : DV K H d v) : SL K H (r.set i (some d)) (σ.set i (some v)) := by
  refine ⟨by rw [List.length_set, List.length_set]; exact h.len, fun j e hj => ?_⟩
  by_cases hji : j = i
  · subst hji
    have hlt : j < r.length := by
      have := (List.getElem?_eq_some_iff.mp hj).1
      rw [List.length_set] at this
      exact this
    rw [List.getElem?_set_self hlt] at hj
    cases hj
    exact ⟨v, by rw [List.getElem?_set_self (by rw [← h.len]; exact hlt)], q⟩
  · rw [List.getElem?_set_ne (Ne.symm hji)] at hj
    obtain ⟨w, a, b⟩ := h.get j e hj
    exact ⟨w, by rw [List.getElem?_set_ne (Ne.symm hji)]; exact a, b⟩
section
variable {K : PySem.W.Frag} {Z : Zt} {S S' : DS} {H H' : Hp} {a p : Addr}
theorem FV.mono {fs : List (Nat × D)} {vs : List (Str × V)} (e : Evo H H') (h : FV K Z H fs vs) : FV K Z H' fs vs :=
  ⟨h.1, fun i d q => let ⟨v, a, b⟩ := h.2.1 i d q; ⟨v, a, b.mono e⟩, h.2.2⟩
theorem KDV.mono (e : Evo H H') : ∀ {kvs : List (Key × D)} {ws : List (Key × V)}, KDV K H kvs ws → KDV K H' kvs ws
  | [], _, h => h
  | (k, d) :: r, _, h => by
    obtain ⟨v, q, h1, h2, h3⟩ := h
    exact ⟨v, q, h1, h2.mono e, KDV.mono e h3⟩
theorem OV.mono {o : O} (h : OV K Z H a o) (e : Evo H H') (h' : H' a = H a) : OV K Z H' a o := by
  cases o with
  | lst ds => obtain ⟨vs, h1, h2⟩ := h; exact ⟨vs, h'.trans h1, h2.mono e⟩
  | dct kvs => obtain ⟨ws, h1, h2⟩ := h; exact ⟨ws, h'.trans h1, h2.mono e⟩
  | ins c fs => obtain ⟨dx, vs, h1, h2⟩ := h; exact ⟨dx, vs, h'.trans h1, h2.mono e⟩
  | oth φ => obtain ⟨⟨u, h1, h1'⟩, h2, h3⟩ := h; exact ⟨⟨u, h'.trans h1, h1'⟩, h3 H H' h2 h' e, h3⟩
theorem OV.mut {o : O} (h : OV K Z H a o) : ∃ u, H a = some u ∧ Mut (some u) := by
  cases o with
  | lst ds => obtain ⟨vs, h1, h2⟩ := h; exact ⟨_, h1, trivial⟩
  | dct kvs => obtain ⟨ws, h1, h2⟩ := h; exact ⟨_, h1, trivial⟩
  | ins c fs => obtain ⟨dx, vs, h1, h2⟩ := h; exact ⟨_, h1, trivial⟩
  | oth φ => exact h.1
theorem SR.free (h : SR K Z S H) (n : H p = none) : S p = none := by
  cases e : S p with
  | none => rfl
  | some o =>
    obtain ⟨u, q, _⟩ := (h p o e).mut
    rw [n] at q
    cases q
theorem ST.free (h : ST K Z S H) (n : H p = none) : S p = none := h.sr.free n
theorem ST.sub (h : ST K Z S H) (s : Sub S' S) : ST K Z S' H := ⟨fun a o e => h.sr a o (s a o e), h.tb⟩
/-- a new object that isn't told in the store -/
theorem ST.new {u : HO} (h : ST K Z S H) (n : H p = none) : ST K Z S (upd H p u) := by
  refine ⟨fun a o e => ?_, h.tb.new n⟩
  have q := h.sr a o e
  obtain ⟨z, hz, _⟩ := q.mut
  exact q.mono (Evo.new n) (upd_ne (ne_of_none hz n))
/-- a new object that is told -/
theorem ST.made {u : HO} {o : O} (h : ST K Z S H) (n : H p = none) (q : OV K Z (upd H p u) p o) : ST K Z (put S p o) (upd H p u) := by
  have h' := h.new (u := u) n
  refine ⟨fun a o' e => ?_, h'.tb⟩
  by_cases ha : a = p
  · subst ha
    rw [put_same] at e
    cases e
    exact q
  · rw [put_ne ha] at e
    exact h'.sr a o' e
theorem mut_evo {u u' : HO} (h : H a = some u) (m : Mut (some u)) (x : ∀ φ, u ≠ .ext φ := by intro _ z; cases z) : Evo H (upd H a u') :=
  Evo.put h (fun xs z => by rw [z] at m; exact m) (fun ob w z => by rw [z] at m; exact m) x
/-- an object that is told is changed -/
theorem ST.wrote {u u' : HO} {o' : O} (h : ST K Z S H) (e : H a = some u) (m : Mut (some u)) (q : OV K Z (upd H a u') a o') (x : ∀ φ, u ≠ .ext φ := by intro _ z; cases z) : ST K Z (put S a o') (upd H a u') := by
  refine ⟨fun b ob eb => ?_, h.tb.wrote e m x⟩
  by_cases hb : b = a
  · subst hb
    rw [put_same] at eb
    cases eb
    exact q
  · rw [put_ne hb] at eb
    exact (h.sr b ob eb).mono (mut_evo e m x) (upd_ne hb)
end

/-- slots, store, tables -/
structure Rel (K : PySem.W.Frag) (Z : Zt) (r : Env_) (S : DS) (σ : L2.St) (H : Hp) : Prop where
  sl : SL K H r σ
  st : ST K Z S H

/-! ### readings over data -/
abbrev XD := Nat → DS → Prop
abbrev QD := D → DS → Prop
/-- an expression's reading: slots, store, what follows, what is wanted of an error (by its class's number) -/
abbrev TD := Env_ → DS → QD → XD → Prop
abbrev TDT := Env_ → DS → (Bool → DS → Prop) → XD → Prop
abbrev TDA := Env_ → DS → (List D → DS → Prop) → XD → Prop
section
variable (K : PySem.W.Frag) (Z : Zt) (W : WX)
def lift (t : TD) : TE := fun σ H Q => ∃ r S Q0 E0, Rel K Z r S σ H ∧ t r S Q0 E0 ∧
  (∀ d S' v H', Go H S H' S' → ST K Z S' H' → DV K H' d v → Q0 d S' → Q v H') ∧ ∀ c S' dd H', Go H S H' S' → ST K Z S' H' → E0 c S' → W (Z.ex c) dd σ H'
def liftT (t : TDT) : TT := fun σ H Q => ∃ r S Q0 E0, Rel K Z r S σ H ∧ t r S Q0 E0 ∧
  (∀ b S' H', Go H S H' S' → ST K Z S' H' → Q0 b S' → Q b H') ∧ ∀ c S' dd H', Go H S H' S' → ST K Z S' H' → E0 c S' → W (Z.ex c) dd σ H'
def liftA (t : TDA) : TA := fun σ H Q => ∃ r S Q0 E0, Rel K Z r S σ H ∧ t r S Q0 E0 ∧
  (∀ ds S' vs H', Go H S H' S' → ST K Z S' H' → DVs K H' ds vs → Q0 ds S' → Q vs H') ∧ ∀ c S' dd H', Go H S H' S' → ST K Z S' H' → E0 c S' → W (Z.ex c) dd σ H'
end
/-- PE by data, whatever is wished of errors -/
def PD (X : Cx) (Z : Zt) (e : Expr) (t : TD) : Prop := ∀ W, Takes X W → PE X e (lift X.K Z W t)
def PDT (X : Cx) (Z : Zt) (e : Expr) (t : TDT) : Prop := ∀ W, Takes X W → PT X e (liftT X.K Z W t)
def PDW (X : Cx) (Z : Zt) (e : Expr) (t : TDT) : Prop := ∀ W, Takes X W → PW X e (liftT X.K Z W t)
def PDA (X : Cx) (Z : Zt) (es : List Expr) (t : TDA) : Prop := ∀ W, Takes X W → PA X es (liftA X.K Z W t)

section
variable {X : Cx} {Z : Zt}
theorem PE.imp {e : Expr} {t t' : TE} (h : PE X e t) (i : ∀ σ H Q, t' σ H Q → t σ H Q) : PE X e t' := ⟨fun pins s σ H Q I q => h.run pins s σ H Q I (i σ H Q q)⟩
theorem PT.imp {e : Expr} {t t' : TT} (h : PT X e t) (i : ∀ σ H Q, t' σ H Q → t σ H Q) : PT X e t' := ⟨fun pins s σ H Q I q => h.run pins s σ H Q I (i σ H Q q)⟩
theorem PW.imp {e : Expr} {t t' : TT} (h : PW X e t) (i : ∀ σ H Q, t' σ H Q → t σ H Q) : PW X e t' := ⟨fun wh pins s σ H Q I q => h.run wh pins s σ H Q I (i σ H Q q)⟩
theorem PA.imp {es : List Expr} {t t' : TA} (h : PA X es t) (i : ∀ σ H Q, t' σ H Q → t σ H Q) : PA X es t' := ⟨fun pos pins s σ H Q I q => h.run pos pins s σ H Q I (i σ H Q q)⟩
theorem PS.imp {st : Stmt} {t t' : TS} (h : PS X st t) (i : ∀ D σ H, t' D σ H → t D σ H) : PS X st t' := ⟨fun pins s σ H D I q => h.run pins s σ H D I (i D σ H q)⟩

/-! ### names, constants -/
def dVar (i : Nat) : TD := fun r S Q _ => ∃ d, r[i]? = some (some d) ∧ Q d S
def dC (d : D) : TD := fun _ S Q _ => Q d S
theorem pd_var (i : Nat) {x : Str} {pos : Pos} (hN : X.N[i]? = some x := by rfl) (hv : Vis X.env.scope x := by first | exact Or.inl rfl | exact Or.inr (Or.inl rfl) | exact Or.inr (Or.inr rfl)) (hd : (x == ("__debug__" : Str)) = false := by decide)
    (hcd : (x == ("__classdict__" : Str)) = false := by decide) : PD X Z (.Name x pos) (dVar i) := fun W _ => by
  refine PE.imp (pe_var hN hv hd hcd) fun σ H Q h => ?_
  obtain ⟨r, S, Q0, E0, R, ⟨d, e, q⟩, k, _⟩ := h
  obtain ⟨v, h1, h2⟩ := R.sl.get i d e
  exact ⟨v, h1, k d S v H Go.r R.st h2 q⟩
theorem pd_c {e : Expr} {v : V} {d : D} (h : PE X e (tC v)) (hd : ∀ H, DV X.K H d v) : PD X Z e (dC d) := fun W _ => by
  refine PE.imp h fun σ H Q h => ?_
  obtain ⟨r, S, Q0, E0, R, q, k, _⟩ := h
  exact k d S v H Go.r R.st (hd H) q
theorem pd_int {i j pos} : PD X Z (.Constant (.int i) j pos) (dC (.int i)) := pd_c pe_int fun _ => dv_int.mpr rfl
theorem pd_bl {b j pos} : PD X Z (.Constant (.bool b) j pos) (dC (.bl b)) := pd_c pe_bl fun _ => dv_bl.mpr rfl
theorem pd_non {j pos} : PD X Z (.Constant .none j pos) (dC .non) := pd_c pe_non fun _ => dv_non.mpr rfl
theorem pd_str {x j pos} : PD X Z (.Constant (.str x) j pos) (dC (.str x)) := pd_c pe_str fun _ => dv_str.mpr rfl

/-! ### operators by data -/
abbrev RD2 := D → D → DS → QD → Prop
def liftR (K : PySem.W.Frag) (Z : Zt) (r : RD2) : R2 := fun v w H Q => ∃ x y S Q0, ST K Z S H ∧ DV K H x v ∧ DV K H y w ∧ r x y S Q0 ∧ ∀ d S' v' H', Go H S H' S' → ST K Z S' H' → DV K H' d v' → Q0 d S' → Q v' H'
def OpD (X : Cx) (Z : Zt) (f : Value → Value → Sem Value) (r : RD2) : Prop := OpR X f (liftR X.K Z r)
def dOp (r : RD2) (ta tb : TD) : TD := fun p S Q E => ta p S (fun x S1 => tb p S1 (fun y S2 => r x y S2 Q) E) E
theorem lift_op {K : PySem.W.Frag} {W : WX} {r : RD2} {ta tb : TD} {σ : L2.St} {H : Hp} {Q : VK} (h : lift K Z W (dOp r ta tb) σ H Q) : tOp (liftR K Z r) (lift K Z W ta) (lift K Z W tb) σ H Q := by
  obtain ⟨p, S, Q0, E0, R, q, k, kE⟩ := h
  refine ⟨p, S, _, E0, R, q, fun x S1 v H1 e1 st1 dv1 q1 => ?_, kE⟩
  refine ⟨p, S1, _, E0, ⟨R.sl.mono e1.evo, st1⟩, q1, fun y S2 w H2 e2 st2 dv2 q2 => ?_, fun c S' dd H' e' st' z => kE c S' dd H' (e1.trans e') st' z⟩
  exact ⟨x, y, S2, Q0, st2, dv1.mono e2.evo, dv2, q2, fun d S' v' H' e' st' dv' z => k d S' v' H' ((e1.trans e2).trans e') st' dv' z⟩
theorem pd_op {op : Operator} {r : RD2} {a b : Expr} {ta tb : TD} {pos : Pos} (ho : OpD X Z (binaryOp op) r) (ha : PD X Z a ta) (hb : PD X Z b tb) : PD X Z (.BinOp a op b pos) (dOp r ta tb) := fun W tk =>
  PE.imp (pe_op ho (ha W tk) (hb W tk)) fun _ _ _ h => lift_op h
theorem pd_cmp {op : CmpOp} {r : RD2} {a b : Expr} {ta tb : TD} {pos : Pos} (ho : OpD X Z (compareOp op) r) (ha : PD X Z a ta) (hb : PD X Z b tb) (hm : behindInMarks op b = false := by first | exact nobehind _ (by decide) (by decide) | rfl) : PD X Z (.Compare a [op] [b] pos) (dOp r ta tb) := fun W tk =>
  PE.imp (pe_cmpR ho (ha W tk) (hb W tk) hm) fun _ _ _ h => lift_op h
end
end G

set_option Elab.async false
set_option linter.all false
set_option maxRecDepth 100000
set_option maxHeartbeats 4000000
/-! GB: operators, comparisons, tests, chains, displays. -/
namespace G
open PySem PySem.Spec PyProof.Rows L2

/-! ### arithmetic by data -/
/-- sizes that a product may have -/
def MulOk (i j : Int) : Prop := CMul i j ∨ CMulW i j
def DivOk (j : Int) : Prop := j ≠ 0 ∧ (j.natAbs < 1073741824 ∨ (0 < j ∧ j.natAbs.log2 < 9000))
def opAdd : RD2 := fun x y S Q => match x, y with
  | .int i, .int j => Q (.int (i + j)) S
  | .str a, .str b => a.length + b.length ≤ sizeLine ∧ Q (.str (a ++ b)) S
  | .tup xs, .tup ys => xs.length + ys.length ≤ sizeLine ∧ Q (.tup (xs ++ ys)) S
  | .ref a, .ref b => ∃ xs ys, S a = some (.lst xs) ∧ S b = some (.lst ys) ∧ xs.length + ys.length ≤ sizeLine ∧ ∀ p, S p = none → Q (.ref p) (put S p (.lst (xs ++ ys)))
  | _, _ => False
def opSub : RD2 := fun x y S Q => match x, y with
  | .int i, .int j => Q (.int (i - j)) S
  | _, _ => False
def opMulI : RD2 := fun x y S Q => match x, y with
  | .int i, .int j => MulOk i j ∧ Q (.int (i * j)) S
  | _, _ => False
/-- a text many times -/
def repS (x : Str) (n : Int) : Str := ⟨(List.replicate n.toNat x.cps.toList).flatten.toArray⟩
def opMul : RD2 := fun x y S Q => match x, y with
  | .int i, .int j => MulOk i j ∧ Q (.int (i * j)) S
  | .str z, .int n => (-(2 ^ 62) ≤ n ∧ n < 2 ^ 62 ∧ z.length * n.toNat ≤ sizeLine) ∧ Q (.str (repS z n)) S
  | _, _ => False
def opDiv : RD2 := fun x y S Q => match x, y with
  | .int i, .int j => DivOk j ∧ Q (.int (i.fdiv j)) S
  | _, _ => False
def opMod : RD2 := fun x y S Q => match x, y with
  | .int i, .int j => j ≠ 0 ∧ Q (.int (i.fmod j)) S
  | _, _ => False
def opPow : RD2 := fun x y S Q => match x, y with
  | .int i, .int j => CPow i j ∧ Q (.int (i ^ j.toNat)) S
  | _, _ => False

section
variable {X : Cx} {Z : Zt} {K : PySem.W.Frag} {H : Hp} {S : DS}
theorem sr_lst {a : Addr} {ds : List D} (h : ST K Z S H) (e : S a = some (.lst ds)) : ∃ vs, H a = some (.lst vs) ∧ DVs K H ds vs := h.sr a _ e
theorem DVs.nil_iff {ds : List D} {vs : List V} (h : DVs K H ds vs) : vs = [] ↔ ds = [] := by
  have e := h.len
  constructor
  · intro z; rw [z] at e; exact List.length_eq_zero_iff.mp e
  · intro z; rw [z] at e; exact List.length_eq_zero_iff.mp e.symm
theorem od_add : OpD X Z (binaryOp .Add) opAdd := by
  intro pins s σ H v w u u' Q I rx ry h
  obtain ⟨x, y, S, Q0, st, hx, hy, h, k⟩ := h
  cases x with
  | int i =>
    cases y with
    | int j =>
      rw [dv_int.mp hx] at rx
      rw [dv_int.mp hy] at ry
      exact op_add pins s σ H _ _ _ _ Q I rx ry ⟨i, j, rfl, rfl, k _ S _ H Go.r st (dv_int.mpr rfl) h⟩
    | _ => exact h.elim
  | str a =>
    cases y with
    | str b =>
      obtain ⟨hz, h⟩ : a.length + b.length ≤ sizeLine ∧ Q0 (.str (a ++ b)) S := h
      rw [dv_str.mp hx] at rx
      rw [dv_str.mp hy] at ry
      exact op_add_str pins s σ H _ _ _ _ Q I rx ry ⟨a, b, rfl, rfl, hz, k _ S _ H Go.r st (dv_str.mpr rfl) h⟩
    | _ => exact h.elim
  | tup xs =>
    cases y with
    | tup ys =>
      obtain ⟨hz, h⟩ : xs.length + ys.length ≤ sizeLine ∧ Q0 (.tup (xs ++ ys)) S := h
      obtain ⟨p, vs, e1, h1, d1⟩ := dv_tup.mp hx
      obtain ⟨q, ws, e2, h2, d2⟩ := dv_tup.mp hy
      rw [e1] at rx
      rw [e2] at ry
      refine op_catA pins s σ H _ _ _ _ Q I rx ry ⟨p, q, vs, ws, rfl, rfl, h1, h2, by rw [← d1.len, ← d2.len]; exact hz, fun z => ?_, fun _ z => ?_, fun _ _ l hl => ?_⟩
      · have z' := d1.nil_iff.mp z
        subst z'
        exact k _ S _ H Go.r st (dv_tup.mpr ⟨q, ws, rfl, h2, d2⟩) h
      · have z' := d2.nil_iff.mp z
        subst z'
        rw [List.append_nil] at h
        exact k _ S _ H Go.r st (dv_tup.mpr ⟨p, vs, rfl, h1, d1⟩) h
      · exact k _ S _ _ (Go.new hl) (st.new hl) (dv_tup.mpr ⟨l, vs ++ ws, rfl, .inl (.inl upd_same), (d1.append d2).mono (Evo.new hl)⟩) h
    | _ => exact h.elim
  | ref a =>
    cases y with
    | ref b =>
      obtain ⟨xs, ys, s1, s2, hz, h⟩ : ∃ xs ys, S a = some (.lst xs) ∧ S b = some (.lst ys) ∧ xs.length + ys.length ≤ sizeLine ∧ ∀ p, S p = none → Q0 (.ref p) (put S p (.lst (xs ++ ys))) := h
      rw [dv_ref.mp hx] at rx
      rw [dv_ref.mp hy] at ry
      obtain ⟨vs, h1, d1⟩ := sr_lst st s1
      obtain ⟨ws, h2, d2⟩ := sr_lst st s2
      refine op_cat pins s σ H _ _ _ _ Q I rx ry ⟨a, b, vs, ws, rfl, rfl, h1, h2, by rw [← d1.len, ← d2.len]; exact hz, fun p hp => ?_⟩
      exact k _ _ _ _ (Go.made hp) (st.made (o := .lst (xs ++ ys)) hp ⟨_, upd_same, (d1.append d2).mono (Evo.new hp)⟩) (dv_ref.mpr rfl) (h p (st.free hp))
    | _ => exact h.elim
  | _ => cases y <;> exact h.elim
theorem opII {f : Value → Value → Sem Value} {r2 : R2} {r : RD2} (o : OpR X f r2) (h1 : ∀ x y S Q, r x y S Q → ∃ i j, x = .int i ∧ y = .int j)
    (h2 : ∀ i j S (Q0 : QD) H (Q : VK), r (.int i) (.int j) S Q0 → (∀ d, Q0 d S → ∀ v, (∀ K' H', DV K' H' d v) → Q v H) → r2 (.int i) (.int j) H Q) : OpD X Z f r := by
  intro pins s σ H v w u u' Q I rx ry h
  obtain ⟨x, y, S, Q0, st, hx, hy, h, k⟩ := h
  obtain ⟨i, j, rfl, rfl⟩ := h1 x y S Q0 h
  rw [dv_int.mp hx] at rx
  rw [dv_int.mp hy] at ry
  exact o pins s σ H _ _ _ _ Q I rx ry (h2 i j S Q0 H Q h fun d q v hv => k d S v H Go.r st (hv _ _) q)
theorem od_sub : OpD X Z (binaryOp .Sub) opSub := opII op_sub (fun x y S Q h => by cases x <;> cases y <;> first | exact ⟨_, _, rfl, rfl⟩ | exact h.elim)
  fun i j S Q0 H Q h k => ⟨i, j, rfl, rfl, k _ h _ fun _ _ => dv_int.mpr rfl⟩
theorem repS_foldl : ∀ (n : Nat) (x : Array Nat) (a : Array Nat), ((List.replicate n x).foldl (· ++ ·) a).toList = a.toList ++ (List.replicate n x.toList).flatten
  | 0, x, a => by simp
  | n + 1, x, a => by
    rw [List.replicate_succ, List.foldl_cons, repS_foldl n x (a ++ x), List.replicate_succ, List.flatten_cons, Array.toList_append, List.append_assoc]
theorem od_mulI : OpD X Z (binaryOp .Mult) opMulI := opII (op_mul.or op_mulW) (fun x y S Q h => by cases x <;> cases y <;> first | exact ⟨_, _, rfl, rfl⟩ | exact h.elim)
  fun i j S Q0 H Q h k => h.1.elim (fun c => .inl ⟨i, j, rfl, rfl, c, k _ h.2 _ fun _ _ => dv_int.mpr rfl⟩) fun c => .inr ⟨i, j, rfl, rfl, c, k _ h.2 _ fun _ _ => dv_int.mpr rfl⟩
theorem od_mul : OpD X Z (binaryOp .Mult) opMul := by
  intro pins s σ H v w u u' Q I rx ry h
  obtain ⟨x, y, S, Q0, st, hx, hy, h, k⟩ := h
  cases y with
  | int n =>
    cases x with
    | int i => exact od_mulI pins s σ H v w u u' Q I rx ry ⟨.int i, .int n, S, Q0, st, hx, hy, h, k⟩
    | str z =>
      obtain ⟨⟨n0, n1, hz⟩, h⟩ : (-(2 ^ 62) ≤ n ∧ n < 2 ^ 62 ∧ z.length * n.toNat ≤ sizeLine) ∧ Q0 (.str (repS z n)) S := h
      rw [dv_str.mp hx] at rx
      rw [dv_int.mp hy] at ry
      obtain ⟨t, rfl⟩ := rx
      obtain ⟨t', rfl⟩ := ry
      have fin : ∀ (o : Str) (t : Tok) (tk : Nat), o = repS z n → EP X pins σ Q (.str o t) { s with toks := tk } := fun o t tk e => ⟨.str o, H, I.tok tk, ⟨t, rfl⟩, by rw [e]; exact k _ S _ H Go.r st (dv_str.mpr rfl) h⟩
      have lim : (sizeLine : Int) = 16777216 := by rw [sizeLine_eq]; rfl
      refine P.mul_str ?_ (fun h1 _ => ?_) (fun h1 _ => ?_) ?_
      · rw [decide_eq_false (by omega : ¬ n < -(2 ^ 63)), decide_eq_false (by omega : ¬ n ≥ 2 ^ 63)]
        rfl
      · have h2 : ((z.length * n.toNat : Nat) : Int) ≤ 16777216 := by omega
        have h3 : (z.length : Int) * n ≤ 16777216 := by
          rw [Int.natCast_mul, Int.toNat_of_nonneg (by omega)] at h2
          exact h2
        have h4 : (z.length : Int) ≤ (2 ^ 63 - 1) / n := Int.le_ediv_of_mul_le (by omega) (by omega)
        omega
      · unfold Builtin.Str.tooLong
        exact decide_eq_false (by omega)
      · by_cases h1 : n < 1
        · rw [if_pos h1]
          refine ⟨by decide, fin _ _ _ ?_⟩
          unfold repS
          rw [Int.toNat_of_nonpos (by omega)]
          rfl
        · rw [if_neg h1]
          by_cases h2 : (n == 1 || z.length == 0) = true
          · rw [if_pos h2]
            refine fin _ _ _ ?_
            rw [Bool.or_eq_true, beq_iff_eq, beq_iff_eq] at h2
            unfold repS
            rcases h2 with h2 | h2
            · subst h2
              simp
            · have e : z.cps.toList = [] := List.length_eq_zero_iff.mp (by rw [Array.length_toList]; exact h2)
              have e2 : z.cps = #[] := by
                apply Array.ext'
                rw [e]
              cases z
              simp only at e2
              subst e2
              congr 1
              apply Array.ext'
              simp
          · rw [if_neg h2]
            have e : (⟨(List.replicate n.toNat z.cps).foldl (· ++ ·) #[]⟩ : Str) = repS z n := by
              unfold repS
              congr 1
              apply Array.ext'
              rw [repS_foldl]
              simp
            refine ⟨?_, fin _ _ _ e⟩
            rw [e]
            show (((List.replicate n.toNat z.cps.toList).flatten).toArray).size ≤ sizeLine
            rw [List.size_toArray, List.length_flatten, List.map_replicate, List.sum_replicate_nat, Array.length_toList]
            exact Nat.le_trans (Nat.le_of_eq (Nat.mul_comm _ _)) hz
    | _ => exact h.elim
  | _ => cases x <;> exact h.elim
theorem od_div : OpD X Z (binaryOp .FloorDiv) opDiv := opII (op_fdivN.or op_fdivW) (fun x y S Q h => by cases x <;> cases y <;> first | exact ⟨_, _, rfl, rfl⟩ | exact h.elim)
  fun i j S Q0 H Q h k => h.1.2.elim (fun c => .inl ⟨i, j, rfl, rfl, ⟨h.1.1, c⟩, k _ h.2 _ fun _ _ => dv_int.mpr rfl⟩) fun c => .inr ⟨i, j, rfl, rfl, c, by
    have e : i.fdiv j = i / j := Int.fdiv_eq_ediv_of_nonneg i (by omega)
    show Q (.int (i / j)) H
    rw [← e]
    exact k _ h.2 _ fun _ _ => dv_int.mpr rfl⟩
theorem od_mod : OpD X Z (binaryOp .Mod) opMod := opII op_modN (fun x y S Q h => by cases x <;> cases y <;> first | exact ⟨_, _, rfl, rfl⟩ | exact h.elim)
  fun i j S Q0 H Q h k => ⟨i, j, rfl, rfl, h.1, k _ h.2 _ fun _ _ => dv_int.mpr rfl⟩
theorem od_pow : OpD X Z (binaryOp .Pow) opPow := opII op_pow (fun x y S Q h => by cases x <;> cases y <;> first | exact ⟨_, _, rfl, rfl⟩ | exact h.elim)
  fun i j S Q0 H Q h k => ⟨i, j, rfl, rfl, h.1, k _ h.2 _ fun _ _ => dv_int.mpr rfl⟩
end

/-! ### equality by data -/
mutual
def deq : D → D → Bool
  | .non, .non => true
  | .bl a, .bl b => a == b
  | .bl a, .int j => (if a then 1 else 0) == j
  | .int i, .bl b => i == (if b then 1 else 0)
  | .int i, .int j => i == j
  | .str x, .str y => x == y
  | .tup xs, .tup ys => deqs xs ys
  | _, _ => false
def deqs : List D → List D → Bool
  | [], [] => true
  | x :: xs, y :: ys => deq x y && deqs xs ys
  | _, _ => false
end
mutual
/-- data that may be compared: no addresses, texts of signs, not too deep -/
def okD : Nat → D → Bool
  | _, .non => true
  | _, .bl _ => true
  | _, .int _ => true
  | _, .str x => PyData.strOk x
  | n + 1, .tup xs => okDs n xs
  | _, _ => false
def okDs : Nat → List D → Bool
  | _, [] => true
  | n, x :: xs => okD n x && okDs n xs
end
mutual
def toP : D → PyData
  | .non => .none
  | .bl b => .bool b
  | .int i => .int i
  | .str x => .str x
  | .tup xs => .tuple (toPs xs)
  | .rol xs => .list (toPs xs)
  | .ref _ => .none
def toPs : List D → List PyData
  | [] => []
  | x :: xs => toP x :: toPs xs
end

mutual
theorem deq_toP : ∀ (x y : D) (n m : Nat), okD n x = true → okD m y = true → PyData.eqv (toP x) (toP y) = deq x y
  | .non, y, n, m, h, h' => by cases y <;> simp_all [okD, toP, deq, PyData.eqv]
  | .bl a, y, n, m, h, h' => by cases y <;> simp_all [okD, toP, deq, PyData.eqv]
  | .int a, y, n, m, h, h' => by cases y <;> simp_all [okD, toP, deq, PyData.eqv]
  | .str a, y, n, m, h, h' => by cases y <;> simp_all [okD, toP, deq, PyData.eqv]
  | .rol xs, y, n, m, h, h' => by cases n <;> simp [okD] at h
  | .ref a, y, n, m, h, h' => by cases n <;> simp [okD] at h
  | .tup xs, y, n, m, h, h' => by
    cases n with
    | zero => simp [okD] at h
    | succ n =>
      cases y with
      | tup ys =>
        cases m with
        | zero => simp [okD] at h'
        | succ m =>
          simp only [okD] at h h'
          simp only [toP, deq, PyData.eqv]
          exact deqs_toP xs ys n m h h'
      | rol ys => cases m <;> simp [okD] at h'
      | ref a => cases m <;> simp [okD] at h'
      | _ => simp [toP, deq, PyData.eqv]
theorem deqs_toP : ∀ (xs ys : List D) (n m : Nat), okDs n xs = true → okDs m ys = true → PyData.eqvAll (toPs xs) (toPs ys) = deqs xs ys
  | [], [], _, _, _, _ => by simp [toPs, deqs, PyData.eqvAll]
  | [], y :: ys, _, _, _, _ => by simp [toPs, deqs, PyData.eqvAll]
  | x :: xs, [], _, _, _, _ => by simp [toPs, deqs, PyData.eqvAll]
  | x :: xs, y :: ys, n, m, h, h' => by
    simp only [okDs, Bool.and_eq_true] at h h'
    simp only [toPs, deqs, PyData.eqvAll]
    rw [deq_toP x y n m h.1 h'.1, deqs_toP xs ys n m h.2 h'.2]
end
mutual
theorem okD_can : ∀ (x : D) (n : Nat), okD n x = true → (toP x).canLay0 = true ∧ (toP x).depth ≤ n
  | .non, n, h => by simp [toP, PyData.canLay0, PyData.depth]
  | .bl a, n, h => by simp [toP, PyData.canLay0, PyData.depth]
  | .int a, n, h => by simp [toP, PyData.canLay0, PyData.depth]
  | .str a, n, h => by
    have h' : PyData.strOk a = true := by cases n <;> simpa [okD] using h
    simp [toP, PyData.canLay0, PyData.depth, h']
  | .rol xs, n, h => by cases n <;> simp [okD] at h
  | .ref a, n, h => by cases n <;> simp [okD] at h
  | .tup xs, n, h => by
    cases n with
    | zero => simp [okD] at h
    | succ n =>
      simp only [okD] at h
      obtain ⟨h1, h2⟩ := okDs_can xs n h
      simp only [toP, PyData.canLay0, PyData.depth]
      exact ⟨h1, by omega⟩
theorem okDs_can : ∀ (xs : List D) (n : Nat), okDs n xs = true → PyData.canLayAll0 (toPs xs) = true ∧ PyData.depthAll (toPs xs) ≤ n
  | [], n, _ => by simp [toPs, PyData.canLayAll0, PyData.depthAll]
  | x :: xs, n, h => by
    simp only [okDs, Bool.and_eq_true] at h
    obtain ⟨h1, h2⟩ := okD_can x n h.1
    obtain ⟨h3, h4⟩ := okDs_can xs n h.2
    simp only [toPs, PyData.canLayAll0, PyData.depthAll, h1, h3, Bool.and_self, true_and]
    omega
end
mutual
theorem dv_dp {K : PySem.W.Frag} {H : Hp} : ∀ (x : D) (v : V) (n : Nat), okD n x = true → DV K H x v → Dp K H v (toP x)
  | .non, v, n, _, h => by rw [dv_non.mp h]; exact .non
  | .bl b, v, n, _, h => by rw [dv_bl.mp h]; exact .bl b
  | .int i, v, n, _, h => by rw [dv_int.mp h]; exact .int i
  | .str s, v, n, _, h => by rw [dv_str.mp h]; exact .str s
  | .rol xs, v, n, h, _ => by cases n <;> simp [okD] at h
  | .ref a, v, n, h, _ => by cases n <;> simp [okD] at h
  | .tup xs, v, n, h, d => by
    cases n with
    | zero => simp [okD] at h
    | succ n =>
      simp only [okD] at h
      obtain ⟨p, vs, rfl, h1, h2⟩ := dv_tup.mp d
      exact .tup h1 (dvs_dp xs vs n h h2)
theorem dvs_dp {K : PySem.W.Frag} {H : Hp} : ∀ (xs : List D) (vs : List V) (n : Nat), okDs n xs = true → DVs K H xs vs → DpAll K H vs (toPs xs)
  | [], vs, n, _, h => by rw [dvs_nil.mp h]; exact .nil
  | x :: xs, vs, n, h, d => by
    simp only [okDs, Bool.and_eq_true] at h
    obtain ⟨v, r, rfl, h1, h2⟩ := dvs_cons.mp d
    exact .cons (dv_dp x v n h.1 h1) (dvs_dp xs r n h.2 h2)
end
/-- == : scalars, data, lists of data -/
def opEq : RD2 := fun x y S Q => match x, y with
  | .int i, .int j => Q (.bl (decide (i = j))) S
  | .str a, .str b => Q (.bl (decide (a = b))) S
  | .bl a, .bl b => Q (.bl (decide (a = b))) S
  | .ref a, .ref b => ∃ xs ys, S a = some (.lst xs) ∧ S b = some (.lst ys) ∧ okDs 60 xs = true ∧ okDs 60 ys = true ∧ Q (.bl (deqs xs ys)) S
  | x, y => okD 60 x = true ∧ okD 60 y = true ∧ Q (.bl (deq x y)) S
def opNe : RD2 := fun x y S Q => opEq x y S fun d S' => match d with
  | .bl b => Q (.bl (!b)) S'
  | _ => False
section
variable {X : Cx} {Z : Zt}
theorem shaped_of {x : D} (h : okD 60 x = true) : SeqAt.shaped (toP x) = true := by
  obtain ⟨h1, h2⟩ := okD_can x 60 h
  unfold SeqAt.shaped
  rw [h1, decide_eq_true (by omega : (toP x).depth ≤ 64)]
  rfl
theorem shapedL_of {xs : List D} (h : okDs 60 xs = true) : SeqAt.shaped (.list (toPs xs)) = true := by
  obtain ⟨h1, h2⟩ := okDs_can xs 60 h
  unfold SeqAt.shaped
  have e1 : (PyData.list (toPs xs)).canLay0 = true := by simpa [PyData.canLay0] using h1
  have e2 : (PyData.list (toPs xs)).depth ≤ 64 := by simp only [PyData.depth]; omega
  rw [e1, decide_eq_true e2]
  rfl
/-- any equality that holds of data -/
theorem eq_any {K : PySem.W.Frag} {H : Hp} {S : DS} {x y : D} {v w : V} {Q0 : QD} (st : ST K Z S H) (hx : DV K H x v) (hy : DV K H y w) (h : opEq x y S Q0) :
    ∃ b, Q0 (.bl b) S ∧ ((scal v w = true ∧ decide (v = w) = b) ∨ ∃ d e, Dp K H v d ∧ Dp K H w e ∧ SeqAt.shaped d = true ∧ SeqAt.shaped e = true ∧ PyData.eqv d e = b) := by
  have gen : ∀ {x y : D}, DV K H x v → DV K H y w → okD 60 x = true ∧ okD 60 y = true ∧ Q0 (.bl (deq x y)) S → ∃ b, Q0 (.bl b) S ∧ ((scal v w = true ∧ decide (v = w) = b) ∨ ∃ d e, Dp K H v d ∧ Dp K H w e ∧ SeqAt.shaped d = true ∧ SeqAt.shaped e = true ∧ PyData.eqv d e = b) :=
    fun {x y} hx hy ⟨h1, h2, q⟩ => ⟨_, q, .inr ⟨_, _, dv_dp _ _ 60 h1 hx, dv_dp _ _ 60 h2 hy, shaped_of h1, shaped_of h2, deq_toP _ _ 60 60 h1 h2⟩⟩
  unfold opEq at h
  split at h
  · rename_i i j
    rw [dv_int.mp hx, dv_int.mp hy]
    exact ⟨_, h, .inl ⟨rfl, by simp⟩⟩
  · rename_i i j
    rw [dv_str.mp hx, dv_str.mp hy]
    exact ⟨_, h, .inl ⟨rfl, by simp⟩⟩
  · rename_i i j
    rw [dv_bl.mp hx, dv_bl.mp hy]
    exact ⟨_, h, .inl ⟨rfl, by simp⟩⟩
  · rename_i a b
    obtain ⟨xs, ys, s1, s2, k1, k2, q⟩ := h
    obtain ⟨vs, h1, d1⟩ := sr_lst st s1
    obtain ⟨ws, h2, d2⟩ := sr_lst st s2
    rw [dv_ref.mp hx, dv_ref.mp hy]
    refine ⟨_, q, .inr ⟨_, _, .lst (SqL.of h1) (dvs_dp _ _ 60 k1 d1), .lst (SqL.of h2) (dvs_dp _ _ 60 k2 d2), shapedL_of k1, shapedL_of k2, ?_⟩⟩
    simp only [PyData.eqv]
    exact deqs_toP _ _ 60 60 k1 k2
  · exact gen hx hy h
theorem od_eq (hu : X.A.units + 64 < cLine) : OpD X Z (compareOp .Eq) opEq := by
  intro pins s σ H v w u u' Q I rx ry h
  obtain ⟨x, y, S, Q0, st, hx, hy, h, k⟩ := h
  obtain ⟨b, q, hs | ⟨d, e, h1, h2, h3, h4, h5⟩⟩ := eq_any st hx hy h
  · exact op_eq pins s σ H v w u u' Q I rx ry ⟨hs.1, by rw [hs.2]; exact k _ S _ H Go.r st (dv_bl.mpr rfl) q⟩
  · exact op_eqD hu pins s σ H v w u u' Q I rx ry ⟨d, e, h1, h2, h3, h4, by rw [h5]; exact k _ S _ H Go.r st (dv_bl.mpr rfl) q⟩
theorem od_ne (hu : X.A.units + 64 < cLine) : OpD X Z (compareOp .NotEq) opNe := by
  intro pins s σ H v w u u' Q I rx ry h
  obtain ⟨x, y, S, Q0, st, hx, hy, h, k⟩ := h
  obtain ⟨b, q, hs | ⟨d, e, h1, h2, h3, h4, h5⟩⟩ := eq_any st hx hy h
  · exact op_ne pins s σ H v w u u' Q I rx ry ⟨hs.1, by rw [hs.2]; exact k _ S _ H Go.r st (dv_bl.mpr rfl) q⟩
  · exact op_neD hu pins s σ H v w u u' Q I rx ry ⟨d, e, h1, h2, h3, h4, by rw [h5]; exact k _ S _ H Go.r st (dv_bl.mpr rfl) q⟩
end

/-! ### order by data -/
def opLt : RD2 := fun x y S Q => match x, y with
  | .int i, .int j => Q (.bl (decide (i < j))) S
  | .str a, .str b => Q (.bl (decide (a.cps.toList < b.cps.toList))) S
  | .bl a, .bl b => Q (.bl (!a && b)) S
  | _, _ => False
def opLe : RD2 := fun x y S Q => match x, y with
  | .int i, .int j => Q (.bl (decide (i ≤ j))) S
  | _, _ => False
def opGt : RD2 := fun x y S Q => match x, y with
  | .int i, .int j => Q (.bl (decide (j < i))) S
  | _, _ => False
def opGe : RD2 := fun x y S Q => match x, y with
  | .int i, .int j => Q (.bl (decide (j ≤ i))) S
  | _, _ => False
def isN : D → Bool
  | .non => true
  | _ => false
def opIsN : RD2 := fun x y S Q => match y with
  | .non => Q (.bl (isN x)) S
  | _ => False
def opNotN : RD2 := fun x y S Q => match y with
  | .non => Q (.bl (!isN x)) S
  | _ => False
section
variable {X : Cx} {Z : Zt}
theorem od_lt : OpD X Z (compareOp .Lt) opLt := by
  intro pins s σ H v w u u' Q I rx ry h
  obtain ⟨x, y, S, Q0, st, hx, hy, h, k⟩ := h
  cases x with
  | int i =>
    cases y with
    | int j =>
      rw [dv_int.mp hx] at rx
      rw [dv_int.mp hy] at ry
      exact op_lt pins s σ H _ _ _ _ Q I rx ry ⟨i, j, rfl, rfl, k _ S _ H Go.r st (dv_bl.mpr rfl) h⟩
    | _ => exact h.elim
  | str a =>
    cases y with
    | str b =>
      rw [dv_str.mp hx] at rx
      rw [dv_str.mp hy] at ry
      exact op_lt_str pins s σ H _ _ _ _ Q I rx ry ⟨a, b, rfl, rfl, k _ S _ H Go.r st (dv_bl.mpr rfl) h⟩
    | _ => exact h.elim
  | bl a =>
    cases y with
    | bl b =>
      rw [dv_bl.mp hx] at rx
      rw [dv_bl.mp hy] at ry
      cases rx
      cases ry
      refine lt_bool ⟨.bl (!a && b), H, I, ?_, k _ S _ H Go.r st (dv_bl.mpr rfl) h⟩
      cases a <;> cases b <;> rfl
    | _ => exact h.elim
  | _ => cases y <;> exact h.elim
theorem od_le : OpD X Z (compareOp .LtE) opLe := opII op_le (fun x y S Q h => by cases x <;> cases y <;> first | exact ⟨_, _, rfl, rfl⟩ | exact h.elim)
  fun i j S Q0 H Q h k => ⟨i, j, rfl, rfl, k _ h _ fun _ _ => dv_bl.mpr rfl⟩
theorem od_gt : OpD X Z (compareOp .Gt) opGt := opII op_gt (fun x y S Q h => by cases x <;> cases y <;> first | exact ⟨_, _, rfl, rfl⟩ | exact h.elim)
  fun i j S Q0 H Q h k => ⟨i, j, rfl, rfl, k _ h _ fun _ _ => dv_bl.mpr rfl⟩
theorem od_ge : OpD X Z (compareOp .GtE) opGe := opII op_ge (fun x y S Q h => by cases x <;> cases y <;> first | exact ⟨_, _, rfl, rfl⟩ | exact h.elim)
  fun i j S Q0 H Q h k => ⟨i, j, rfl, rfl, k _ h _ fun _ _ => dv_bl.mpr rfl⟩
theorem dv_isN {K : PySem.W.Frag} {H : Hp} {x : D} {v : V} (h : DV K H x v) : decide (v = .non) = isN x := by
  cases x with
  | non => rw [dv_non.mp h]; rfl
  | bl b => rw [dv_bl.mp h]; rfl
  | int b => rw [dv_int.mp h]; rfl
  | str b => rw [dv_str.mp h]; rfl
  | ref b => rw [dv_ref.mp h]; rfl
  | tup ds => obtain ⟨p, vs, e, _⟩ := dv_tup.mp h; rw [e]; rfl
  | rol ds => obtain ⟨p, vs, e, _⟩ := dv_rol.mp h; rw [e]; rfl
theorem od_isN : OpD X Z (compareOp .Is) opIsN := by
  intro pins s σ H v w u u' Q I rx ry h
  obtain ⟨x, y, S, Q0, st, hx, hy, h, k⟩ := h
  cases y with
  | non => exact op_isN pins s σ H _ _ _ _ Q I rx ry ⟨dv_non.mp hy, k _ S _ H Go.r st (by rw [dv_isN hx]; exact dv_bl.mpr rfl) h⟩
  | _ => exact h.elim
theorem od_notN : OpD X Z (compareOp .IsNot) opNotN := by
  intro pins s σ H v w u u' Q I rx ry h
  obtain ⟨x, y, S, Q0, st, hx, hy, h, k⟩ := h
  cases y with
  | non =>
    exact op_notN pins s σ H _ _ _ _ Q I rx ry ⟨dv_non.mp hy, k _ S _ H Go.r st (by rw [dv_isN hx]; exact dv_bl.mpr rfl) h⟩
  | _ => exact h.elim
end
end G

set_option Elab.async false
set_option linter.all false
set_option maxRecDepth 100000
set_option maxHeartbeats 4000000
/-! GC: tests, chains, displays, subscripts, slices. -/
namespace G
open PySem PySem.Spec PyProof.Rows L2
section
variable {X : Cx} {Z : Zt} {K : PySem.W.Frag} {W : WX}
/-- what a lifted reading becomes with another end -/
theorem lift_end {t : TD} {σ : L2.St} {H : Hp} {Q : VK} {r : Env_} {S : DS} {Q0 : QD} {E0 : XD} (R : Rel K Z r S σ H) (h : t r S Q0 E0)
    (k : ∀ d S' v H', Go H S H' S' → ST K Z S' H' → DV K H' d v → Q0 d S' → Q v H') (kE : ∀ c S' dd H', Go H S H' S' → ST K Z S' H' → E0 c S' → W (Z.ex c) dd σ H') : lift K Z W t σ H Q := ⟨r, S, Q0, E0, R, h, k, kE⟩
theorem Rel.go {r : Env_} {S S' : DS} {σ : L2.St} {H H' : Hp} (R : Rel K Z r S σ H) (e : Go H S H' S') (s : ST K Z S' H') : Rel K Z r S' σ H' := ⟨R.sl.mono e.evo, s⟩

/-! ### tests -/
def dTest (t : TD) : TDT := fun p S Q E => t p S (fun d S' => match d with | .bl b => Q b S' | _ => False) E
theorem lift_test {t : TD} {σ : L2.St} {H : Hp} {Q : Bool → Hp → Prop} (h : liftT K Z W (dTest t) σ H Q) : lift K Z W t σ H fun x H' => ∃ k, x = .bl k ∧ Q k H' := by
  obtain ⟨p, S, Q0, E0, R, q, k, kE⟩ := h
  refine ⟨p, S, _, E0, R, q, fun d S' v H' e st dv q' => ?_, kE⟩
  cases d with
  | bl b => exact ⟨b, dv_bl.mp dv, k b S' H' e st q'⟩
  | _ => exact q'.elim
theorem pdt_cmp {op : CmpOp} {r : RD2} {a b : Expr} {ta tb : TD} {pos : Pos} (ho : OpD X Z (compareOp op) r) (ha : PD X Z a ta) (hb : PD X Z b tb) (hm : behindInMarks op b = false := by first | exact nobehind _ (by decide) (by decide) | rfl) : PDT X Z (.Compare a [op] [b] pos) (dTest (dOp r ta tb)) := fun W tk =>
  PT.imp (pt_cmpR ho (ha W tk) (hb W tk) hm) fun _ _ _ h => lift_op (lift_test h)
/-- a value's truth -/
def truD (d : D) (S : DS) (Q : Bool → DS → Prop) : Prop := match d with
  | .non => Q false S
  | .bl b => Q b S
  | .int i => Q (i != 0) S
  | .str x => x.length ≤ sizeLine ∧ Q ((x.length : Int) != 0) S
  | .tup ds => Q (!ds.isEmpty) S
  | .rol ds => Q (!ds.isEmpty) S
  | .ref a => (∃ ds, S a = some (.lst ds) ∧ Q (!ds.isEmpty) S) ∨ ∃ kvs, S a = some (.dct kvs) ∧ Q (!kvs.isEmpty) S
theorem DVs.empty {H : Hp} {ds : List D} {vs : List V} (h : DVs K H ds vs) : vs.isEmpty = ds.isEmpty := by
  cases ds with
  | nil => rw [dvs_nil.mp h]; rfl
  | cons d r => obtain ⟨v, q, rfl, _⟩ := dvs_cons.mp h; rfl
theorem KDV.empty {H : Hp} {ds : List (Key × D)} {vs : List (Key × V)} (h : KDV K H ds vs) : vs.isEmpty = ds.isEmpty := by
  cases ds with
  | nil => rw [show vs = [] from h]; rfl
  | cons d r => obtain ⟨k, d⟩ := d; obtain ⟨v, q, rfl, _⟩ := h; rfl
theorem tru_dv {H : Hp} {S : DS} {d : D} {v : V} {R : Bool → DS → Prop} (st : ST K Z S H) (h : DV K H d v) (q : truD d S R) : ∃ k, TruV K v H k ∧ R k S := by
  cases d with
  | non => rw [dv_non.mp h]; exact ⟨_, rfl, q⟩
  | bl b => rw [dv_bl.mp h]; exact ⟨_, rfl, q⟩
  | int i => rw [dv_int.mp h]; exact ⟨_, rfl, q⟩
  | str i => rw [dv_str.mp h]; exact ⟨_, ⟨q.1, rfl⟩, q.2⟩
  | tup ds =>
    obtain ⟨p, vs, rfl, h1, h2⟩ := dv_tup.mp h
    exact ⟨_, .inr (.inl ⟨vs, h1, rfl⟩), by rw [h2.empty]; exact q⟩
  | rol ds =>
    obtain ⟨p, vs, rfl, h1, h2⟩ := dv_rol.mp h
    exact ⟨_, .inl ⟨vs, h1.sq, rfl⟩, by rw [h2.empty]; exact q⟩
  | ref a =>
    rw [dv_ref.mp h]
    rcases q with ⟨ds, s1, q⟩ | ⟨kvs, s1, q⟩
    · obtain ⟨vs, h1, h2⟩ := sr_lst st s1
      exact ⟨_, .inl ⟨vs, SqL.of h1, rfl⟩, by rw [h2.empty]; exact q⟩
    · obtain ⟨ws, h1, h2⟩ := st.sr a _ s1
      exact ⟨_, .inr (.inr ⟨ws, h1, rfl⟩), by rw [h2.empty]; exact q⟩
def dTru (t : TD) : TDT := fun p S Q E => t p S (fun d S' => truD d S' Q) E
theorem pdt_tru {e : Expr} {t : TD} (h : PD X Z e t) (he : ∀ whole, isTrue e X.env whole = (do let v ← whole; standAt e.pos; holding [v] (truthy v)) := by intro _; rfl) : PDT X Z e (dTru t) := fun W tk => by
  refine PT.imp (pt_truth (h W tk) he) fun σ H Q h => ?_
  obtain ⟨p, S, Q0, E0, R, q, k, kE⟩ := h
  refine ⟨p, S, _, E0, R, q, fun d S' v H' e st dv q' => ?_, kE⟩
  obtain ⟨b, h1, h2⟩ := tru_dv st dv q'
  exact ⟨b, h1, k b S' H' e st h2⟩
def dAnd (t u : TDT) : TDT := fun p S Q E => t p S (fun c S1 => if c = true then u p S1 Q E else Q false S1) E
def dOr (t u : TDT) : TDT := fun p S Q E => t p S (fun c S1 => if c = true then Q true S1 else u p S1 Q E) E
def dNot (t : TDT) : TDT := fun p S Q E => t p S (fun c S1 => Q (!c) S1) E
variable {a b e : Expr} {rest : List Expr} {pos : Pos} {tA tB' : TDT} {ta tb : TD}
theorem PDW.pt (h : PDW X Z e tA) : PDT X Z e tA := fun W tk => (h W tk).pt
theorem pdw_and1 (ha : PDT X Z a tA) : PDW X Z (.BoolOp .And [a] pos) tA := fun W tk => pw_and1 (ha W tk)
theorem pdw_or1 (ha : PDT X Z a tA) : PDW X Z (.BoolOp .Or [a] pos) tA := fun W tk => pw_or1 (ha W tk)
theorem pdw_and (ha : PDT X Z a tA) (hb : PDW X Z (.BoolOp .And (b :: rest) pos) tB') : PDW X Z (.BoolOp .And (a :: b :: rest) pos) (dAnd tA tB') := fun W tk => by
  refine PW.imp (pw_and (ha W tk) (hb W tk)) fun σ H Q h => ?_
  obtain ⟨p, S, Q0, E0, R, q, k, kE⟩ := h
  refine ⟨p, S, _, E0, R, q, fun c S' H' e st q' => ?_, kE⟩
  cases c with
  | true => exact iteT ⟨p, S', Q0, E0, R.go e st, (if_pos rfl).mp q', fun b' S2 H2 e2 => k b' S2 H2 (e.trans e2), fun c S2 dd H2 e2 => kE c S2 dd H2 (e.trans e2)⟩
  | false => exact iteF (k false S' H' e st ((if_neg Bool.false_ne_true).mp q'))
theorem pdw_or (ha : PDT X Z a tA) (hb : PDW X Z (.BoolOp .Or (b :: rest) pos) tB') : PDW X Z (.BoolOp .Or (a :: b :: rest) pos) (dOr tA tB') := fun W tk => by
  refine PW.imp (pw_or (ha W tk) (hb W tk)) fun σ H Q h => ?_
  obtain ⟨p, S, Q0, E0, R, q, k, kE⟩ := h
  refine ⟨p, S, _, E0, R, q, fun c S' H' e st q' => ?_, kE⟩
  cases c with
  | false => exact iteF ⟨p, S', Q0, E0, R.go e st, (if_neg Bool.false_ne_true).mp q', fun b' S2 H2 e2 => k b' S2 H2 (e.trans e2), fun c S2 dd H2 e2 => kE c S2 dd H2 (e.trans e2)⟩
  | true => exact iteT (k true S' H' e st ((if_pos rfl).mp q'))
theorem pdt_not (ha : PDT X Z a tA) : PDT X Z (.UnaryOp .Not a pos) (dNot tA) := fun W tk => by
  refine PT.imp (pt_not (ha W tk)) fun σ H Q h => ?_
  obtain ⟨p, S, Q0, E0, R, q, k, kE⟩ := h
  exact ⟨p, S, _, E0, R, q, fun c S' H' e st q' => k (!c) S' H' e st q', kE⟩

/-! ### or, and, not, if as values -/
def dAndV (ta tb : TD) : TD := fun p S Q E => ta p S (fun x S1 => truD x S1 fun c S2 => if c = true then tb p S2 Q E else Q x S2) E
def dOrV (ta tb : TD) : TD := fun p S Q E => ta p S (fun x S1 => truD x S1 fun c S2 => if c = true then Q x S2 else tb p S2 Q E) E
def dNotV (ta : TD) : TD := fun p S Q E => ta p S (fun x S1 => truD x S1 fun c S2 => Q (.bl (!c)) S2) E
def dIf (t : TDT) (ta tb : TD) : TD := fun p S Q E => t p S (fun c S1 => if c = true then ta p S1 Q E else tb p S1 Q E) E
theorem pd_one {op} (h : PD X Z a ta) : PD X Z (.BoolOp op [a] pos) ta := fun W tk => pe_one (h W tk)
theorem pd_and (ha : PD X Z a ta) (hb : PD X Z (.BoolOp .And (b :: rest) pos) tb) : PD X Z (.BoolOp .And (a :: b :: rest) pos) (dAndV ta tb) := fun W tk => by
  refine PE.imp (pe_andT (ha W tk) (hb W tk)) fun σ H Q h => ?_
  obtain ⟨p, S, Q0, E0, R, q, k, kE⟩ := h
  refine ⟨p, S, _, E0, R, q, fun d S' v H' e st dv q' => ?_, kE⟩
  obtain ⟨c, h1, h2⟩ := tru_dv st dv q'
  refine ⟨c, h1, ?_⟩
  cases c with
  | true => exact iteT ⟨p, S', Q0, E0, R.go e st, (if_pos rfl).mp h2, fun d2 S2 v2 H2 e2 => k d2 S2 v2 H2 (e.trans e2), fun c S2 dd H2 e2 => kE c S2 dd H2 (e.trans e2)⟩
  | false => exact iteF (k d S' v H' e st dv ((if_neg Bool.false_ne_true).mp h2))
theorem pd_or (ha : PD X Z a ta) (hb : PD X Z (.BoolOp .Or (b :: rest) pos) tb) : PD X Z (.BoolOp .Or (a :: b :: rest) pos) (dOrV ta tb) := fun W tk => by
  refine PE.imp (pe_orT (ha W tk) (hb W tk)) fun σ H Q h => ?_
  obtain ⟨p, S, Q0, E0, R, q, k, kE⟩ := h
  refine ⟨p, S, _, E0, R, q, fun d S' v H' e st dv q' => ?_, kE⟩
  obtain ⟨c, h1, h2⟩ := tru_dv st dv q'
  refine ⟨c, h1, ?_⟩
  cases c with
  | false => exact iteF ⟨p, S', Q0, E0, R.go e st, (if_neg Bool.false_ne_true).mp h2, fun d2 S2 v2 H2 e2 => k d2 S2 v2 H2 (e.trans e2), fun c S2 dd H2 e2 => kE c S2 dd H2 (e.trans e2)⟩
  | true => exact iteT (k d S' v H' e st dv ((if_pos rfl).mp h2))
theorem pd_not (ha : PD X Z a ta) : PD X Z (.UnaryOp .Not a pos) (dNotV ta) := fun W tk => by
  refine PE.imp (pe_notT (ha W tk)) fun σ H Q h => ?_
  obtain ⟨p, S, Q0, E0, R, q, k, kE⟩ := h
  refine ⟨p, S, _, E0, R, q, fun d S' v H' e st dv q' => ?_, kE⟩
  obtain ⟨c, h1, h2⟩ := tru_dv st dv q'
  exact ⟨c, h1, k _ S' _ H' e st (dv_bl.mpr rfl) h2⟩
theorem pd_if {c : Expr} (hc : PDT X Z c tA) (ha : PD X Z a ta) (hb : PD X Z b tb) : PD X Z (.IfExp c a b pos) (dIf tA ta tb) := fun W tk => by
  refine PE.imp (pe_ifExp (hc W tk) (ha W tk) (hb W tk)) fun σ H Q h => ?_
  obtain ⟨p, S, Q0, E0, R, q, k, kE⟩ := h
  refine ⟨p, S, _, E0, R, q, fun c S' H' e st q' => ?_, kE⟩
  cases c with
  | true => exact iteT ⟨p, S', Q0, E0, R.go e st, (if_pos rfl).mp q', fun d2 S2 v2 H2 e2 => k d2 S2 v2 H2 (e.trans e2), fun c S2 dd H2 e2 => kE c S2 dd H2 (e.trans e2)⟩
  | false => exact iteF ⟨p, S', Q0, E0, R.go e st, (if_neg Bool.false_ne_true).mp q', fun d2 S2 v2 H2 e2 => k d2 S2 v2 H2 (e.trans e2), fun c S2 dd H2 e2 => kE c S2 dd H2 (e.trans e2)⟩
def dNeg (ta : TD) : TD := fun p S Q E => ta p S (fun x S1 => match x with | .int i => Q (.int (-i)) S1 | _ => False) E
theorem pd_neg (ha : PD X Z a ta) : PD X Z (.UnaryOp .USub a pos) (dNeg ta) := fun W tk => by
  refine PE.imp (pe_un un_neg (ha W tk)) fun σ H Q h => ?_
  obtain ⟨p, S, Q0, E0, R, q, k, kE⟩ := h
  refine ⟨p, S, _, E0, R, q, fun d S' v H' e st dv q' => ?_, kE⟩
  cases d with
  | int i => exact ⟨i, dv_int.mp dv, k _ S' _ H' e st (dv_int.mpr rfl) q'⟩
  | _ => exact q'.elim

/-! ### chains of comparisons -/
/-- the rest of a chain behind the left value -/
def PDCh (X : Cx) (Z : Zt) (ops : List CmpOp) (es : List Expr) (t : D → TD) : Prop := ∀ (W : WX), Takes X W → ∀ (pos : Pos) (pins : List (Addr × Obj)) (s : Shared) (σ : L2.St) (H : Hp) (x : D) (v : V) (u : Value) (Q : VK), Inv X pins σ H s → DV X.K H x v → RelV v u → lift X.K Z W (t x) σ H Q →
  wpAny (model X.prog X.w) X.A (compareChain pos u ops (evalEach es X.env)) (EP X pins σ Q) X.xe s
def PDChT (X : Cx) (Z : Zt) (ops : List CmpOp) (es : List Expr) (t : D → TD) : Prop := ∀ (W : WX), Takes X W → ∀ (pos : Pos) (pins : List (Addr × Obj)) (s : Shared) (σ : L2.St) (H : Hp) (x : D) (v : V) (u : Value) (Q : Bool → Hp → Prop), Inv X pins σ H s → DV X.K H x v → RelV v u → liftT X.K Z W (dTest (t x)) σ H Q →
  wpAny (model X.prog X.w) X.A (testChain pos u ops (evalEach es X.env)) (TP X pins σ Q) X.xe s
def dCh1 (r : RD2) (te : TD) : D → TD := fun x p S Q E => te p S (fun y S1 => r x y S1 Q) E
def dChC (r : RD2) (te : TD) (tc : D → TD) : D → TD := fun x p S Q E => te p S (fun y S1 => r x y S1 fun d S2 => match d with
  | .bl c => if c = true then tc y p S2 Q E else Q (.bl false) S2
  | _ => False) E
variable {op op' : CmpOp} {ops : List CmpOp} {es : List Expr} {r : RD2} {te : TD} {tc : D → TD}
theorem pdch_1 (ho : OpD X Z (compareOp op) r) (he : PD X Z e te) : PDCh X Z [op] [e] (dCh1 r te) := fun W tk pos pins s σ H x v u Q I dx ru h => by
  obtain ⟨p, S, Q0, E0, R, q, k, kE⟩ := h
  show wpAny _ _ (compareChain pos u [op] [eval e X.env]) _ _ s
  refine chain_last (thn ((he W tk).run pins s σ H (fun y H1 => liftR X.K Z r v y H1 Q) I ⟨p, S, _, E0, R, q, fun y S1 w H1 e1 st1 dv1 q1 => ?_, kE⟩) fun w' s1 ⟨y, H1, I1, r1, q1⟩ => ho pins s1 σ H1 v y u w' Q I1 ru r1 q1)
  exact ⟨x, y, S1, Q0, st1, dx.mono e1.evo, dv1, q1, fun d S' v' H' e' st' dv' z => k d S' v' H' (e1.trans e') st' dv' z⟩
theorem pdch_c (ho : OpD X Z (compareOp op) r) (he : PD X Z e te) (hc : PDCh X Z (op' :: ops) (b :: es) tc) : PDCh X Z (op :: op' :: ops) (e :: b :: es) (dChC r te tc) := fun W tk pos pins s σ H x v u Q I dx ru h => by
  obtain ⟨p, S, Q0, E0, R, q, k, kE⟩ := h
  show wpAny _ _ (compareChain pos u (op :: op' :: ops) (eval e X.env :: eval b X.env :: evalEach es X.env)) _ _ s
  refine chain_link (thn ((he W tk).run pins s σ H (fun y H1 => ∃ yd, DV X.K H1 yd y ∧ liftR X.K Z r v y H1 fun z H2 => ∃ c, z = .bl c ∧ DV X.K H2 yd y ∧ if c = true then lift X.K Z W (tc yd) σ H2 Q else Q (.bl false) H2) I ⟨p, S, _, E0, R, q, fun y S1 w H1 e1 st1 dv1 q1 => ⟨y, dv1, ?_⟩, kE⟩) fun w' s1 ⟨y, H1, I1, r1, yd, dvy, q1⟩ => ?_)
  · refine ⟨x, y, S1, _, st1, dx.mono e1.evo, dv1, q1, fun d S' v' H' e' st' dv' z => ?_⟩
    cases d with
    | bl c =>
      refine ⟨c, dv_bl.mp dv', dv1.mono e'.evo, ?_⟩
      cases c with
      | true => exact iteT ⟨p, S', Q0, E0, R.go (e1.trans e') st', (if_pos rfl).mp z, fun d2 S2 v2 H2 e2 => k d2 S2 v2 H2 ((e1.trans e').trans e2), fun c S2 dd H2 e2 => kE c S2 dd H2 ((e1.trans e').trans e2)⟩
      | false => exact iteF (k _ S' _ H' (e1.trans e') st' (dv_bl.mpr rfl) ((if_neg Bool.false_ne_true).mp z))
    | _ => exact z.elim
  · refine thn (ho pins s1 σ H1 v y u w' _ I1 ru r1 q1) fun d s2 ⟨z, H2, I2, r2, c, ez, dvy2, q2⟩ => ?_
    subst ez
    cases r2
    refine wpAny_truthy_bool ?_
    cases c with
    | true => exact ite_tt (hc W tk pos pins s2 σ H2 yd y w' Q I2 dvy2 r1 ((if_pos rfl).mp q2))
    | false => exact ite_ff ⟨.bl false, H2, I2, rfl, (if_neg Bool.false_ne_true).mp q2⟩
theorem pdcht_1 (ho : OpD X Z (compareOp op) r) (he : PD X Z e te) : PDChT X Z [op] [e] (dCh1 r te) := fun W tk pos pins s σ H x v u Q I dx ru h => by
  obtain ⟨p, S, Q0, E0, R, q, k, kE⟩ := h
  show wpAny _ _ (testChain pos u [op] [eval e X.env]) _ _ s
  refine test_last (thn ((he W tk).run pins s σ H (fun y H1 => liftR X.K Z r v y H1 fun z H2 => ∃ c, z = .bl c ∧ Q c H2) I ⟨p, S, _, E0, R, q, fun y S1 w H1 e1 st1 dv1 q1 => ?_, kE⟩) fun w' s1 ⟨y, H1, I1, r1, q1⟩ => thn (ho pins s1 σ H1 v y u w' _ I1 ru r1 q1) fun d s2 ⟨z, H2, I2, r2, c, ez, q2⟩ => ?_)
  · refine ⟨x, y, S1, _, st1, dx.mono e1.evo, dv1, q1, fun d S' v' H' e' st' dv' z => ?_⟩
    cases d with
    | bl c => exact ⟨c, dv_bl.mp dv', k c S' H' (e1.trans e') st' z⟩
    | _ => exact z.elim
  · subst ez
    cases r2
    exact wpAny_truthy_bool ⟨H2, I2, q2⟩
theorem pdcht_c (ho : OpD X Z (compareOp op) r) (he : PD X Z e te) (hc : PDChT X Z (op' :: ops) (b :: es) tc) : PDChT X Z (op :: op' :: ops) (e :: b :: es) (dChC r te tc) := fun W tk pos pins s σ H x v u Q I dx ru h => by
  obtain ⟨p, S, Q0, E0, R, q, k, kE⟩ := h
  show wpAny _ _ (testChain pos u (op :: op' :: ops) (eval e X.env :: eval b X.env :: evalEach es X.env)) _ _ s
  refine test_link (thn ((he W tk).run pins s σ H (fun y H1 => ∃ yd, DV X.K H1 yd y ∧ liftR X.K Z r v y H1 fun z H2 => ∃ c, z = .bl c ∧ DV X.K H2 yd y ∧ if c = true then liftT X.K Z W (dTest (tc yd)) σ H2 Q else Q false H2) I ⟨p, S, _, E0, R, q, fun y S1 w H1 e1 st1 dv1 q1 => ⟨y, dv1, ?_⟩, kE⟩) fun w' s1 ⟨y, H1, I1, r1, yd, dvy, q1⟩ => ?_)
  · refine ⟨x, y, S1, _, st1, dx.mono e1.evo, dv1, q1, fun d S' v' H' e' st' dv' z => ?_⟩
    cases d with
    | bl c =>
      refine ⟨c, dv_bl.mp dv', dv1.mono e'.evo, ?_⟩
      cases c with
      | true => exact iteT ⟨p, S', Q0, E0, R.go (e1.trans e') st', (if_pos rfl).mp z, fun d2 S2 H2 e2 => k d2 S2 H2 ((e1.trans e').trans e2), fun c S2 dd H2 e2 => kE c S2 dd H2 ((e1.trans e').trans e2)⟩
      | false => exact iteF (k _ S' H' (e1.trans e') st' ((if_neg Bool.false_ne_true).mp z))
    | _ => exact z.elim
  · refine thn (ho pins s1 σ H1 v y u w' _ I1 ru r1 q1) fun d s2 ⟨z, H2, I2, r2, c, ez, dvy2, q2⟩ => ?_
    subst ez
    cases r2
    refine wpAny_truthy_bool ?_
    cases c with
    | true => exact ite_tt (hc W tk pos pins s2 σ H2 yd y w' Q I2 dvy2 r1 ((if_pos rfl).mp q2))
    | false => exact ite_ff ⟨H2, I2, (if_neg Bool.false_ne_true).mp q2⟩
def dChain (ta : TD) (tc : D → TD) : TD := fun p S Q E => ta p S (fun x S1 => tc x p S1 Q E) E
theorem pd_chain (ha : PD X Z a ta) (hc : PDCh X Z (op :: op' :: ops) (b :: e :: es) tc) (hm : lastMarks (op :: op' :: ops) (b :: e :: es) = false := by with_unfolding_all rfl) : PD X Z (.Compare a (op :: op' :: ops) (b :: e :: es) pos) (dChain ta tc) := fun W tk => by
  refine ⟨fun pins s σ H Q I h => ?_⟩
  obtain ⟨p, S, Q0, E0, R, q, k, kE⟩ := h
  refine Compare_chain (thn ((ha W tk).run pins s σ H (fun v H1 => ∃ x, DV X.K H1 x v ∧ lift X.K Z W (tc x) σ H1 Q) I ⟨p, S, _, E0, R, q, fun x S1 v H1 e1 st1 dv1 q1 => ⟨x, dv1, ?_⟩, kE⟩) fun u s1 ⟨v, H1, I1, r1, x, dx, q1⟩ => hc W tk pos pins s1 σ H1 x v u Q I1 dx r1 q1) hm
  exact ⟨p, S1, Q0, E0, R.go e1 st1, q1, fun d2 S2 v2 H2 e2 => k d2 S2 v2 H2 (e1.trans e2), fun c S2 dd H2 e2 => kE c S2 dd H2 (e1.trans e2)⟩
theorem pdt_chain (ha : PD X Z a ta) (hc : PDChT X Z (op :: op' :: ops) (b :: e :: es) tc) (hm : lastMarks (op :: op' :: ops) (b :: e :: es) = false := by with_unfolding_all rfl) : PDT X Z (.Compare a (op :: op' :: ops) (b :: e :: es) pos) (dTest (dChain ta tc)) := fun W tk => by
  refine ⟨fun pins s σ H Q I h => ?_⟩
  obtain ⟨p, S, Q0, E0, R, q, k, kE⟩ := h
  refine isTrue_chain (thn ((ha W tk).run pins s σ H (fun v H1 => ∃ x, DV X.K H1 x v ∧ liftT X.K Z W (dTest (tc x)) σ H1 Q) I ⟨p, S, _, E0, R, q, fun x S1 v H1 e1 st1 dv1 q1 => ⟨x, dv1, ?_⟩, kE⟩) fun u s1 ⟨v, H1, I1, r1, x, dx, q1⟩ => hc W tk pos pins s1 σ H1 x v u Q I1 dx r1 q1) hm
  exact ⟨p, S1, Q0, E0, R.go e1 st1, q1, fun d2 S2 H2 e2 => k d2 S2 H2 (e1.trans e2), fun c S2 dd H2 e2 => kE c S2 dd H2 (e1.trans e2)⟩
end
end G

set_option Elab.async false
set_option linter.all false
set_option maxRecDepth 100000
set_option maxHeartbeats 4000000
/-! GD: displays, subscripts, slices, calls of defs, classes, methods, built-ins. -/
namespace G
open PySem PySem.Spec PyProof.Rows L2
section
variable {X : Cx} {Z : Zt} {K : PySem.W.Frag} {W : WX} {a b e : Expr} {es : List Expr} {ta tb te : TD} {pos : Pos}
/-! ### arguments, displays -/
def dNil : TDA := fun _ S Q _ => Q [] S
def dCons (t : TD) (u : TDA) : TDA := fun p S Q E => t p S (fun x S1 => u p S1 (fun xs S2 => Q (x :: xs) S2) E) E
theorem pda_nil : PDA X Z [] dNil := fun W tk => by
  refine PA.imp pa_nil fun σ H Q h => ?_
  obtain ⟨p, S, Q0, E0, R, q, k, kE⟩ := h
  exact k [] S [] H Go.r R.st (dvs_nil.mpr rfl) q
theorem pda_cons {t : TD} {u : TDA} (he : PD X Z e t) (hr : PDA X Z es u) (hs : starEach (e :: es) X.env = (false, eval e X.env) :: starEach es X.env := by rfl) : PDA X Z (e :: es) (dCons t u) := fun W tk => by
  refine PA.imp (pa_cons (he W tk) (hr W tk) hs) fun σ H Q h => ?_
  obtain ⟨p, S, Q0, E0, R, q, k, kE⟩ := h
  refine ⟨p, S, _, E0, R, q, fun x S1 v H1 e1 st1 dv1 q1 => ?_, kE⟩
  exact ⟨p, S1, _, E0, R.go e1 st1, q1, fun xs S2 vs H2 e2 st2 dv2 q2 => k _ S2 _ H2 (e1.trans e2) st2 (DVs.cons (dv1.mono e2.evo) dv2) q2, fun c S2 dd H2 e2 => kE c S2 dd H2 (e1.trans e2)⟩
def dTup (t : TDA) : TD := fun p S Q E => t p S (fun ds S1 => ds.length ≤ sizeLine ∧ Q (.tup ds) S1) E
def dLst (t : TDA) : TD := fun p S Q E => t p S (fun ds S1 => ds.length ≤ sizeLine ∧ ∀ l, S1 l = none → Q (.ref l) (put S1 l (.lst ds))) E
theorem pd_tup {t : TDA} {x1} (h : PDA X Z es t) : PD X Z (.Tuple es x1 pos) (dTup t) := fun W tk => by
  refine PE.imp (pe_tup (h W tk)) fun σ H Q h => ?_
  obtain ⟨p, S, Q0, E0, R, q, k, kE⟩ := h
  refine ⟨p, S, _, E0, R, q, fun ds S1 vs H1 e1 st1 dv1 q1 => ⟨by rw [← dv1.len]; exact q1.1, fun l hl => ?_⟩, kE⟩
  exact k _ S1 _ _ (e1.trans (Go.new hl)) (st1.new hl) (dv_tup.mpr ⟨l, vs, rfl, .inl (.inl upd_same), dv1.mono (Evo.new hl)⟩) q1.2
theorem pd_lst {t : TDA} (h : PDA X Z es t) : PD X Z (.List es pos) (dLst t) := fun W tk => by
  refine PE.imp (pe_lst (h W tk)) fun σ H Q h => ?_
  obtain ⟨p, S, Q0, E0, R, q, k, kE⟩ := h
  refine ⟨p, S, _, E0, R, q, fun ds S1 vs H1 e1 st1 dv1 q1 => ⟨by rw [← dv1.len]; exact q1.1, fun l hl => ?_⟩, kE⟩
  exact k _ _ _ _ (e1.trans (Go.made hl)) (st1.made (o := .lst ds) hl ⟨vs, upd_same, dv1.mono (Evo.new hl)⟩) (dv_ref.mpr rfl) (q1.2 l (st1.free hl))

/-! ### subscripts -/
theorem DVs.at {H : Hp} {ds : List D} {vs : List V} {i : Int} {d : D} (h : DVs K H ds vs) (q : atI ds i = some d) : ∃ v, atI vs i = some v ∧ DV K H d v := by
  unfold atI at q ⊢
  rw [← h.len]
  cases e : ixN ds.length i with
  | none => rw [e] at q; cases q
  | some j =>
    rw [e] at q
    exact h.get q
def opIx : RD2 := fun x y S Q => match x, y with
  | .tup ds, .int i => ∃ d, atI ds i = some d ∧ Q d S
  | .rol ds, .int i => ∃ d, atI ds i = some d ∧ Q d S
  | .str z, .int i => z.length ≤ sizeLine ∧ ∃ c, atI z.cps.toList i = some c ∧ Q (.str ⟨#[c]⟩) S
  | .ref l, .int i => ∃ ds d, S l = some (.lst ds) ∧ atI ds i = some d ∧ Q d S
  | _, _ => False
theorem ixd : IxR X (liftR X.K Z opIx) := by
  intro value slice pins s σ H v w u u' Q I rx ry h hs
  obtain ⟨x, y, S, Q0, st, hx, hy, h, k⟩ := h
  cases y with
  | int i =>
    rw [dv_int.mp hy] at ry
    cases x with
    | tup ds =>
      obtain ⟨d, ha, q⟩ : ∃ d, atI ds i = some d ∧ Q0 d S := h
      obtain ⟨p, vs, e1, h1, d1⟩ := dv_tup.mp hx
      rw [e1] at rx
      obtain ⟨v', a1, a2⟩ := d1.at ha
      exact ix_tup value slice pins s σ H _ _ u u' Q I rx ry ⟨p, vs, i, v', rfl, rfl, h1, a1, k _ S _ H Go.r st a2 q⟩ hs
    | rol ds =>
      obtain ⟨d, ha, q⟩ : ∃ d, atI ds i = some d ∧ Q0 d S := h
      obtain ⟨p, vs, e1, h1, d1⟩ := dv_rol.mp hx
      rw [e1] at rx
      obtain ⟨v', a1, a2⟩ := d1.at ha
      exact ix_list value slice pins s σ H _ _ u u' Q I rx ry ⟨p, vs, i, v', rfl, rfl, h1.sq, a1, k _ S _ H Go.r st a2 q⟩ hs
    | str z =>
      obtain ⟨hz, c, ha, q⟩ : z.length ≤ sizeLine ∧ ∃ c, atI z.cps.toList i = some c ∧ Q0 (.str ⟨#[c]⟩) S := h
      rw [dv_str.mp hx] at rx
      exact ix_str value slice pins s σ H _ _ u u' Q I rx ry ⟨z, i, c, rfl, rfl, hz, ha, k _ S _ H Go.r st (dv_str.mpr rfl) q⟩ hs
    | ref l =>
      obtain ⟨ds, d, s1, ha, q⟩ : ∃ ds d, S l = some (.lst ds) ∧ atI ds i = some d ∧ Q0 d S := h
      rw [dv_ref.mp hx] at rx
      obtain ⟨vs, h1, d1⟩ := sr_lst st s1
      obtain ⟨v', a1, a2⟩ := d1.at ha
      exact ix_list value slice pins s σ H _ _ u u' Q I rx ry ⟨l, vs, i, v', rfl, rfl, SqL.of h1, a1, k _ S _ H Go.r st a2 q⟩ hs
    | _ => exact h.elim
  | _ => cases x <;> exact h.elim
theorem pd_ix (ha : PD X Z a ta) (hb : PD X Z b tb) (hs : PlainIx b := by exact fun _ _ => rfl) : PD X Z (.Subscript a b pos) (dOp opIx ta tb) := fun W tk =>
  PE.imp (pe_ix ixd (ha W tk) (hb W tk) hs) fun _ _ _ h => lift_op h
/-- an item's place as a whole number that is known -/
theorem ix_at {ds : List D} {i : Int} {d : D} {S : DS} {Q : QD} (h : atI ds i = some d) (q : Q d S) : opIx (.tup ds) (.int i) S Q := ⟨d, h, q⟩

/-! ### slices -/
abbrev TDO := Env_ → DS → (Option Int → DS → Prop) → XD → Prop
def liftO (K : PySem.W.Frag) (Z : Zt) (W : WX) (t : TDO) : TO := fun σ H Q => ∃ r S Q0 E0, Rel K Z r S σ H ∧ t r S Q0 E0 ∧
  (∀ o S' H', Go H S H' S' → ST K Z S' H' → Q0 o S' → Q o H') ∧ ∀ c S' dd H', Go H S H' S' → ST K Z S' H' → E0 c S' → W (Z.ex c) dd σ H'
def PDO (X : Cx) (Z : Zt) (o : Option Expr) (t : TDO) : Prop := ∀ W, Takes X W → PO X o (liftO X.K Z W t)
def dNoPart : TDO := fun _ S Q _ => Q none S
def dPart (t : TD) : TDO := fun p S Q E => t p S (fun d S1 => match d with | .int i => Q (some i) S1 | _ => False) E
theorem PO.imp {o : Option Expr} {t t' : TO} (h : PO X o t) (i : ∀ σ H Q, t' σ H Q → t σ H Q) : PO X o t' := ⟨fun pins s σ H Q I q => h.run pins s σ H Q I (i σ H Q q)⟩
theorem pdo_none : PDO X Z none dNoPart := fun W tk => by
  refine PO.imp po_none fun σ H Q h => ?_
  obtain ⟨p, S, Q0, E0, R, q, k, kE⟩ := h
  exact k none S H Go.r R.st q
theorem pdo_some (h : PD X Z e te) : PDO X Z (some e) (dPart te) := fun W tk => by
  refine PO.imp (po_some (h W tk)) fun σ H Q h => ?_
  obtain ⟨p, S, Q0, E0, R, q, k, kE⟩ := h
  refine ⟨p, S, _, E0, R, q, fun d S1 v H1 e1 st1 dv1 q1 => ?_, kE⟩
  cases d with
  | int i => exact ⟨i, dv_int.mp dv1, k _ S1 H1 e1 st1 q1⟩
  | _ => exact q1.elim
def cutD {α : Type} (xs : List α) (lo hi : Option Int) : List α := (xs.drop (HT.sIx xs.length 0 lo)).take (HT.sIx xs.length xs.length hi - HT.sIx xs.length 0 lo)
theorem DVs.cut {H : Hp} {ds : List D} {vs : List V} (h : DVs K H ds vs) (lo hi : Option Int) : DVs K H (cutD ds lo hi) (cutV vs lo hi) := by
  unfold cutD cutV
  rw [← h.len]
  exact (h.drop _).take _
def slD (x : D) (lo hi : Option Int) (S : DS) (Q : QD) : Prop := match x with
  | .tup ds => Q (.tup (cutD ds lo hi)) S
  | .str z => z.length ≤ sizeLine ∧ Q (.str (cutS z lo hi)) S
  | .rol ds => ∀ l, S l = none → Q (.ref l) (put S l (.lst (cutD ds lo hi)))
  | .ref l => ∃ ds, S l = some (.lst ds) ∧ ∀ p, S p = none → Q (.ref p) (put S p (.lst (cutD ds lo hi)))
  | _ => False
def dSl (te : TD) (tl th : TDO) : TD := fun p S Q E => te p S (fun x S1 => tl p S1 (fun lo S2 => th p S2 (fun hi S3 => slD x lo hi S3 Q) E) E) E
def liftSl (K : PySem.W.Frag) (Z : Zt) : V → Option Int → Option Int → Hp → VK → Prop := fun v lo hi H Q => ∃ x S Q0, ST K Z S H ∧ DV K H x v ∧ slD x lo hi S Q0 ∧ ∀ d S' v' H', Go H S H' S' → ST K Z S' H' → DV K H' d v' → Q0 d S' → Q v' H'
theorem sld : SlR X (liftSl X.K Z) := by
  intro pins s σ H x v vl vu lo hi sl Q I rx hs pl pu h
  obtain ⟨d, S, Q0, st, hx, h, k⟩ := h
  cases d with
  | tup ds =>
    obtain ⟨p, vs, e1, h1, d1⟩ := dv_tup.mp hx
    subst e1
    refine sl_tupA pins s σ H _ v vl vu lo hi sl Q I rx hs pl pu ⟨p, vs, rfl, h1, fun z => ?_, fun _ l hl => ?_⟩
    · have e : cutD ds lo hi = ds := by
        unfold cutD
        rw [d1.len, z.1, z.2]
        simp [← d1.len]
      have h' : Q0 (.tup (cutD ds lo hi)) S := h
      rw [e] at h'
      exact k _ S _ H Go.r st (dv_tup.mpr ⟨p, vs, rfl, h1, d1⟩) h'
    · exact k _ S _ _ (Go.new hl) (st.new hl) (dv_tup.mpr ⟨l, _, rfl, .inl (.inl upd_same), (d1.cut lo hi).mono (Evo.new hl)⟩) h
  | str z =>
    rw [dv_str.mp hx] at rx
    exact sl_str pins s σ H _ v vl vu lo hi sl Q I rx hs pl pu ⟨z, rfl, h.1, k _ S _ H Go.r st (dv_str.mpr rfl) h.2⟩
  | rol ds =>
    obtain ⟨p, vs, e1, h1, d1⟩ := dv_rol.mp hx
    subst e1
    exact sl_list pins s σ H _ v vl vu lo hi sl Q I rx hs pl pu ⟨p, vs, rfl, h1.sq, fun l hl => k _ _ _ _ (Go.made hl) (st.made (o := .lst (cutD ds lo hi)) hl ⟨_, upd_same, (d1.cut lo hi).mono (Evo.new hl)⟩) (dv_ref.mpr rfl) (h l (st.free hl))⟩
  | ref l =>
    rw [dv_ref.mp hx] at rx
    obtain ⟨ds, s1, h⟩ : ∃ ds, S l = some (.lst ds) ∧ ∀ p, S p = none → Q0 (.ref p) (put S p (.lst (cutD ds lo hi))) := h
    obtain ⟨vs, h1, d1⟩ := sr_lst st s1
    exact sl_list pins s σ H _ v vl vu lo hi sl Q I rx hs pl pu ⟨l, vs, rfl, SqL.of h1, fun l hl => k _ _ _ _ (Go.made hl) (st.made (o := .lst (cutD ds lo hi)) hl ⟨_, upd_same, (d1.cut lo hi).mono (Evo.new hl)⟩) (dv_ref.mpr rfl) (h l (st.free hl))⟩
  | _ => exact h.elim
theorem pd_slice {lo hi : Option Expr} {tl th : TDO} {p2 : Pos} (he : PD X Z e te) (hl : PDO X Z lo tl) (hu : PDO X Z hi th) : PD X Z (.Subscript e (.Slice lo hi none p2) pos) (dSl te tl th) := fun W tk => by
  refine PE.imp (pe_slice (sld (Z := Z)) (he W tk) (hl W tk) (hu W tk)) fun σ H Q h => ?_
  obtain ⟨p, S, Q0, E0, R, q, k, kE⟩ := h
  refine ⟨p, S, _, E0, R, q, fun x S1 v H1 e1 st1 dv1 q1 => ?_, kE⟩
  refine ⟨p, S1, _, E0, R.go e1 st1, q1, fun lo S2 H2 e2 st2 q2 => ?_, fun c S2 dd H2 e2 => kE c S2 dd H2 (e1.trans e2)⟩
  refine ⟨p, S2, _, E0, R.go (e1.trans e2) st2, q2, fun hi S3 H3 e3 st3 q3 => ?_, fun c S2 dd H2 e3 => kE c S2 dd H2 ((e1.trans e2).trans e3)⟩
  exact ⟨x, S3, _, st3, dv1.mono (e2.trans e3).evo, q3, fun d S' v' H' e' => k d S' v' H' (((e1.trans e2).trans e3).trans e')⟩
end

/-! ### what a def promises by data -/
abbrev SpD := List D → DS → QD → XD → Prop
def liftSp (K : PySem.W.Frag) (Z : Zt) (sp : SpD) : Sp := fun vs H Q E => ∃ ds S Q0 E0, ST K Z S H ∧ DVs K H ds vs ∧ sp ds S Q0 E0 ∧
  (∀ d S' v H', Go H S H' S' → ST K Z S' H' → DV K H' d v → Q0 d S' → Q v H') ∧ ∀ c S' dd H', Go H S H' S' → ST K Z S' H' → E0 c S' → E (Z.ex c) dd H'
/-- a def: its promise, how many parameters, the defaults of the last ones, its level -/
structure Ent where
  sp : SpD
  ar : Nat
  dfl : List D
  lv : Nat
  la : Option Nat := none
/-- the def at f keeps the promise, by level L -/
structure FnD (P : Program) (w : World) (K : PySem.W.Frag) (mg : Str → Option Value) (base : Heap) (Z : Zt) (L : Nat) (f : Addr) (e : Ent) : Prop where
  ok : ∃ (fd : FuncData) (ps : List Str), FnOk P w K mg base (L2.CX P w) L f fd ps (liftSp K Z e.sp) ∧ ps.length = e.ar ∧
    ∀ m, m ≤ e.dfl.length → ∃ (dvs : List V) (ds : List Value), Binds K fd ps ds ∧ Vals dvs ds ∧ ∀ H, DVs K H (e.dfl.drop m) dvs
theorem FnD.mono {P : Program} {w : World} {K : PySem.W.Frag} {mg : Str → Option Value} {base : Heap} {Z : Zt} {L L' : Nat} {f : Addr} {e : Ent} (h : FnD P w K mg base Z L f e) (l : L ≤ L') : FnD P w K mg base Z L' f e :=
  let ⟨fd, ps, a, b, c⟩ := h.ok
  ⟨fd, ps, a.mono l, b, c⟩
/-- the program's names by numbers -/
structure Tx where
  gn : Nat → Option Str
  cn : Nat → Option Str
  fl : Nat → Nat → Bool
  mt : Nat → Nat → Option Nat
  it : Nat → Option Nat
  va : Nat → Option (Str × D)
  bl : Nat → Option Str
  xn : Nat → Option Str
  sb : Nat → Nat → Option Bool
/-- no parameter, no name of its own, none captured -/
structure Lam0 (scope : Scope) : Prop where
  kind : scope.kind = .function
  co : scope.isCoroutine = false
  gen : scope.isGenerator = false
  own : ∀ y ∈ scope.names, y.2 ≠ .local ∧ y.2 ≠ .cell ∧ y.2 ≠ .free
abbrev lamEnv0 (q : Str) (scope : Scope) (L f c' : Addr) : Env := PySem.W.envX q scope L f (.ref c') []
/-- the context of such a lambda's body, entered at s from the frames outer -/
def lamCx0 (P : Program) (w : World) (K : PySem.W.Frag) (mg : Str → Option Value) (base : Heap) (A : Around) (outer : List Env) (s : Shared) (H : Hp) (E : XK) (q : Str) (scope : Scope) (f c' : Addr) : Cx where
  prog := P
  w := w
  K := K
  mg := mg
  base := base
  A := A.deeper (lamEnv0 q scope s.heap.objs.size f c')
  N := []
  s_0 := s
  H_0 := H
  env := lamEnv0 q scope s.heap.objs.size f c'
  outer := outer
  stack := lamEnv0 q scope s.heap.objs.size f c' :: outer
  ex := []
  fn := fun _ => false
  calm := true
  pn := []
  xe := fun e s' => wpAny (model P w) (A.deeper (lamEnv0 q scope s.heap.objs.size f c')) (leaving (lamEnv0 q scope s.heap.objs.size f c') e) (fun _ s'' => L2.CX P w outer H s E e s'') (fun e' s'' => L2.CX P w outer H s E e' s'') s'
/-- what calling the lambda does, by level L -/
structure LamOk (P : Program) (w : World) (K : PySem.W.Frag) (mg : Str → Option Value) (base : Heap) (Z : Zt) (L : Nat) (l : LamR) (sp : SpD) : Prop where
  sc : Lam0 l.scope
  bind : ∀ pm cv ctv : Value, bindArgs (PySem.W.kla_fn "<lambda>" l.q l.params l.body l.scope [] pm cv ctv) ⟨[], []⟩ = pure []
  body : ∃ t : TD, (∀ (A : Around) (outer : List Env) (s : Shared) (H : Hp) (E : XK) (f c' : Addr), Room L (A.deeper (lamEnv0 l.q l.scope s.heap.objs.size f c')) → PD (lamCx0 P w K mg base A outer s H E l.q l.scope f c') Z l.body t) ∧ ∀ S (Q : QD) (E : XD), sp [] S Q E → t [] S (fun d S' => ∃ S0, Sub S0 S' ∧ Q d S0) (fun c S' => ∃ S0, Sub S0 S' ∧ E c S0)
/-- an error's class as the top has made it -/
structure ExcOk (K : PySem.W.Frag) (mg : Str → Option Value) (x : Str) (u : Value) : Prop where
  ok : ∃ (C : Addr) (bmB : List Value) (B newId initId : String), u = .ref C ∧ mg x = some (.ref C) ∧ ExcBaseFacts B newId initId bmB ∧ PySem.W.excIn K C bmB newId = true ∧ PySem.W.keepIn K (.ref C) = true ∧
    PySem.W.subIn K (.ref C) (.type "BaseException") = some true ∧ PySem.W.typeIn K (.ref C) = some (.type "type")
/-- the top's facts, and the promises that are shown so far -/
structure TxOk (P : Program) (w : World) (K : PySem.W.Frag) (mg : Str → Option Value) (base : Heap) (Z : Zt) (tx : Tx) (M : List Ent) : Prop where
  fn : ∀ i x e, tx.gn i = some x → M[i]? = some e → e.la = none → ∃ f, mg x = some (.ref f) ∧ PySem.W.keepIn K (.ref f) = true ∧ FnD P w K mg base Z e.lv f e
  mt : ∀ c m i e, tx.mt c m = some i → M[i]? = some e → e.la = none → ∃ f, Cls K (Z.cm c) ∧ Meth K (Z.cm c) (Z.fn m) f ∧ FnD P w K mg base Z e.lv f e
  it : ∀ c x i e, tx.cn c = some x → tx.it c = some i → M[i]? = some e → e.la = none → ∃ f, mg x = some (.ref (Z.cm c)) ∧ Mk K (Z.cm c) f ∧ FnD P w K mg base Z e.lv f e
  fl : ∀ c i, tx.fl c i = true → Cls K (Z.cm c) ∧ NoAttr K (Z.cm c) (Z.fn i)
  va : ∀ i x d, tx.va i = some (x, d) → ∃ u v, mg x = some u ∧ RelV v u ∧ ∀ H, DV K H d v
  bl : ∀ i x, tx.bl i = some x → mg x = none
  xn : ∀ i x, tx.xn i = some x → ExcOk K mg x (Z.ex i)
  lm : ∀ (j i : Nat) (e : Ent), M[i]? = some e → e.la = some j → ∃ l, Z.lm j = some l ∧ LamOk P w K mg base Z e.lv l e.sp
  sb : ∀ i j b, tx.sb i j = some b → PySem.W.exmOne K (Z.ex i) (Z.ex j) = some b
end G

set_option Elab.async false
set_option linter.all false
set_option maxRecDepth 100000
set_option maxHeartbeats 4000000
/-! GE: calls of defs, methods, classes; fields; constants; built-ins by data. -/
namespace G
open PySem PySem.Spec PyProof.Rows L2
section
variable {X : Cx} {Z : Zt} {tx : Tx} {M : List Ent} {L : Nat} {a b e o : Expr} {es : List Expr} {ta tb te to : TD} {t : TDA} {pos p apos : Pos} {x m : Str}
/-! ### calls of defs -/
/-- the defaults that fill up behind n written arguments -/
def fill (e : Ent) (n : Nat) : List D := e.dfl.drop (n + e.dfl.length - e.ar)
def fits (e : Ent) (n L : Nat) : Prop := e.lv ≤ L ∧ n ≤ e.ar ∧ e.ar ≤ n + e.dfl.length ∧ e.la = none
/-- the i-th def, n arguments: the defaults fill up -/
def dCall (M : List Ent) (L i n : Nat) (ta : TDA) : TD := fun r S Q E => ∃ e, M[i]? = some e ∧ fits e n L ∧ ta r S (fun ds S1 => e.sp (ds ++ fill e n) S1 Q E) E
theorem liftSp_of {K : PySem.W.Frag} {W : WX} {σ : L2.St} {r : Env_} {S S1 : DS} {H H1 : Hp} {Q0 : QD} {E0 : XD} {Q : VK} {sp : SpD} {ds es : List D} {vs ws : List V} (e1 : Go H S H1 S1) (st : ST K Z S1 H1) (dv : DVs K H1 ds vs) (dw : DVs K H1 es ws) (h : sp (ds ++ es) S1 Q0 E0)
    (k : ∀ d S' v H', Go H S H' S' → ST K Z S' H' → DV K H' d v → Q0 d S' → Q v H') (kE : ∀ c S' dd H', Go H S H' S' → ST K Z S' H' → E0 c S' → W (Z.ex c) dd σ H') : liftSp K Z sp (vs ++ ws) H1 Q (WE W σ) :=
  ⟨_, S1, Q0, E0, st, dv.append dw, h, fun d S' v H' e => k d S' v H' (e1.trans e), fun c S' dd H' e => kE c S' dd H' (e1.trans e)⟩
theorem fill_ok {e : Ent} {n L : Nat} (h : fits e n L) : n + e.dfl.length - e.ar ≤ e.dfl.length := by
  obtain ⟨_, h1, h2, _⟩ := h
  omega
theorem pd_call (hM : TxOk X.prog X.w X.K X.mg X.base Z tx M) (hr : Room L X.A) (i : Nat) (n : Nat) (hN : tx.gn i = some x) (hg : Gl X x) (ha : PDA X Z (e :: es) t)
    (hdb : (x == ("__debug__" : Str)) = false := by decide) (he : starEach (e :: es) X.env = (false, eval e X.env) :: starEach es X.env := by rfl) (hpl : (backTo pos (starEach es X.env)).any (·.1) = false := by rfl) :
    PD X Z (.Call (.Name x p) (e :: es) [] pos) (dCall M L i n t) := fun W tk => by
  refine ⟨fun pins s σ H Q I h => ?_⟩
  obtain ⟨r, S, Q0, E0, R, ⟨en, hi, hf, q⟩, k, kE⟩ := h
  obtain ⟨f, hm, hk, F⟩ := hM.fn i x en hN hi hf.2.2.2
  obtain ⟨fd, ps, F, hl, hb⟩ := F.ok
  obtain ⟨dvs, ds, hb, hd, hv⟩ := hb _ (fill_ok hf)
  refine (pe_callSD (E := WE W) F (hr.mono hf.1) hg hm hk hb hd (fun σ => passAt tk σ) (ha W tk) hdb he hpl).run pins s σ H Q I ?_
  exact ⟨r, S, _, E0, R, q, fun ds S1 vs H1 e1 st1 dv1 q1 => liftSp_of (r := r) e1 st1 dv1 (hv H1) q1 k kE, kE⟩
theorem pd_call0 (hM : TxOk X.prog X.w X.K X.mg X.base Z tx M) (hr : Room L X.A) (i : Nat) (hN : tx.gn i = some x) (hg : Gl X x) (hdb : (x == ("__debug__" : Str)) = false := by decide) :
    PD X Z (.Call (.Name x p) [] [] pos) (dCall M L i 0 dNil) := fun W tk => by
  refine ⟨fun pins s σ H Q I h => ?_⟩
  obtain ⟨r, S, Q0, E0, R, ⟨en, hi, hf, q⟩, k, kE⟩ := h
  obtain ⟨f, hm, hk, F⟩ := hM.fn i x en hN hi hf.2.2.2
  obtain ⟨fd, ps, F, hl, hb⟩ := F.ok
  obtain ⟨dvs, ds, hb, hd, hv⟩ := hb _ (fill_ok hf)
  refine wpAny_Call_Name_kw (ld_glob I hg hm ?_ hdb)
  refine PySem.W.callWith_K0 I.kIn hk (run_fnSD (vs := []) (us := []) (E := WE W) F (hr.mono hf.1) hb hd (passAt tk σ) I .nil ?_)
  exact liftSp_of (r := r) (ds := []) (Go.r) R.st (dvs_nil.mpr rfl) (hv H) q k kE

/-! ### methods of own classes -/
def dMeth (tx : Tx) (M : List Ent) (L m n : Nat) (to : TD) (ta : TDA) : TD := fun r S Q E => to r S (fun x S1 => ∃ a c fs i e, x = .ref a ∧ S1 a = some (.ins c fs) ∧ tx.mt c m = some i ∧ M[i]? = some e ∧ fits e (n + 1) L ∧ lk fs m = none ∧
  ta r S1 (fun ds S2 => e.sp (.ref a :: ds ++ fill e (n + 1)) S2 Q E) E) E
theorem fv_none {K : PySem.W.Frag} {H : Hp} {fs : List (Nat × D)} {vs : List (Str × V)} {m : Nat} (h : FV K Z H fs vs) (e : lk fs m = none) : vs.lookup (Z.fn m) = none := h.2.2 _ fun i d q z => by
  rw [Z.inj i m z, e] at q
  cases q
theorem pd_meth {pl : Sem Bool} (hM : TxOk X.prog X.w X.K X.mg X.base Z tx M) (hr : Room L X.A) (mi n : Nat) (hm : Z.fn mi = m) (ho : PD X Z o to) (ha : PDA X Z (e :: es) t)
    (hst : starEach (e :: es) X.env = (false, eval e X.env) :: starEach es X.env := by rfl) (hpl : (backTo pos (starEach es X.env)).any (·.1) = false := by rfl)
    (ht : eval (.Call (.Attribute o m apos) (e :: es) [] pos) X.env = (do
      let ov ← eval o X.env
      standAt apos.atName
      let (f, first) ← holding [ov] (getMethod ov m pl)
      callWith pos f first (backTo pos (starEach (e :: es) X.env)) (backToKw pos (keywordEach [] X.env))) := by rfl) :
    PD X Z (.Call (.Attribute o m apos) (e :: es) [] pos) (dMeth tx M L mi n to t) := fun W tk => by
  refine ⟨fun pins s σ H Q I h => ?_⟩
  subst hm
  obtain ⟨r, S, Q0, E0, R, q, k, kE⟩ := h
  refine PySem.W.methodCall_KW (pl := pl) (thn ((ho W tk).run pins s σ H (fun v H1 => ∃ x S1, Go H S H1 S1 ∧ ST X.K Z S1 H1 ∧ DV X.K H1 x v ∧ ∃ a c fs i e, x = .ref a ∧ S1 a = some (.ins c fs) ∧ tx.mt c mi = some i ∧ M[i]? = some e ∧ fits e (n + 1) L ∧ lk fs mi = none ∧
    t r S1 (fun ds S2 => e.sp (.ref a :: ds ++ fill e (n + 1)) S2 Q0 E0) E0) I ⟨r, S, _, E0, R, q, fun x S1 v H1 e1 st1 dv1 q1 => ⟨x, S1, e1, st1, dv1, q1⟩, kE⟩) fun u s1 ⟨v, H1, I1, rx, x, S1, e1, st1, dv1, a, c, fs, i, en, ex, sa, hmt, hi, hf, hl, q1⟩ => ?_) ht
  subst ex
  rw [dv_ref.mp dv1] at rx
  obtain rfl : u = Value.ref a := rx
  obtain ⟨dx, vs, ha', fv⟩ := st1.sr a _ sa
  obtain ⟨f, hc, hmm, F⟩ := hM.mt c mi i en hmt hi hf.2.2.2
  obtain ⟨fd, ps, F, hlen, hb⟩ := F.ok
  obtain ⟨dvs, dsv, hb, hd, hv⟩ := hb _ (fill_ok hf)
  refine getmeth_ok I1 ha' hc hmm (fv_none fv hl) ?_
  refine PySem.W.callWith_K (first := [.ref a]) (h₀ := X.base) I.ok.mod.kin hmm.kp (thn ((ha W tk).run pos pins s1 σ H1 (fun vs H2 => liftSp X.K Z en.sp ((.ref a :: vs) ++ dvs) H2 Q (WE W σ)) I1 ⟨r, S1, _, E0, R.go e1 st1, q1, fun ds S2 vs H2 e2 st2 dv2 q2 => ?_, fun c S' dd H' e2 => kE c S' dd H' (e1.trans e2)⟩) fun us s2 ⟨vs2, H2, I2, rr, q2⟩ => ⟨I2.kIn, ?_⟩) hst hpl
  · exact liftSp_of (r := r) (ds := .ref a :: ds) (vs := .ref a :: vs) (e1.trans e2) st2 (DVs.cons (dv_ref.mpr rfl) dv2) (hv H2) q2 k kE
  · exact run_fnSD (us := .ref a :: us) (vs := .ref a :: vs2) (E := WE W) F (hr.mono hf.1) hb hd (passAt tk σ) I2 (.cons rfl rr) q2
theorem pd_meth0 {pl : Sem Bool} (hM : TxOk X.prog X.w X.K X.mg X.base Z tx M) (hr : Room L X.A) (mi : Nat) (hm : Z.fn mi = m) (ho : PD X Z o to)
    (ht : eval (.Call (.Attribute o m apos) [] [] pos) X.env = (do
      let ov ← eval o X.env
      standAt apos.atName
      let (f, first) ← holding [ov] (getMethod ov m pl)
      callWith pos f first (backTo pos (starEach [] X.env)) (backToKw pos (keywordEach [] X.env))) := by rfl) :
    PD X Z (.Call (.Attribute o m apos) [] [] pos) (dMeth tx M L mi 0 to dNil) := fun W tk => by
  refine ⟨fun pins s σ H Q I h => ?_⟩
  subst hm
  obtain ⟨r, S, Q0, E0, R, q, k, kE⟩ := h
  refine PySem.W.methodCall_KW (pl := pl) (thn ((ho W tk).run pins s σ H (fun v H1 => ∃ x S1, Go H S H1 S1 ∧ ST X.K Z S1 H1 ∧ DV X.K H1 x v ∧ ∃ a c fs i e, x = .ref a ∧ S1 a = some (.ins c fs) ∧ tx.mt c mi = some i ∧ M[i]? = some e ∧ fits e (0 + 1) L ∧ lk fs mi = none ∧
    e.sp (D.ref a :: [] ++ fill e (0 + 1)) S1 Q0 E0) I ⟨r, S, _, E0, R, q, fun x S1 v H1 e1 st1 dv1 q1 => ⟨x, S1, e1, st1, dv1, q1⟩, kE⟩) fun u s1 ⟨v, H1, I1, rx, x, S1, e1, st1, dv1, a, c, fs, i, en, ex, sa, hmt, hi, hf, hl, q1⟩ => ?_) ht
  subst ex
  rw [dv_ref.mp dv1] at rx
  obtain rfl : u = Value.ref a := rx
  obtain ⟨dx, vs, ha', fv⟩ := st1.sr a _ sa
  obtain ⟨f, hc, hmm, F⟩ := hM.mt c mi i en hmt hi hf.2.2.2
  obtain ⟨fd, ps, F, hlen, hb⟩ := F.ok
  obtain ⟨dvs, dsv, hb, hd, hv⟩ := hb _ (fill_ok hf)
  refine getmeth_ok I1 ha' hc hmm (fv_none fv hl) ?_
  refine PySem.W.callWith_K0 (first := [.ref a]) I1.kIn hmm.kp (run_fnSD (us := [.ref a]) (vs := [.ref a]) (E := WE W) F (hr.mono hf.1) hb hd (passAt tk σ) I1 (.cons rfl .nil) ?_)
  exact liftSp_of (r := r) (ds := [.ref a]) (vs := [.ref a]) e1 st1 (DVs.cons (dv_ref.mpr rfl) (dvs_nil.mpr rfl)) (hv H1) q1 k kE

/-! ### classes -/
def dMake (tx : Tx) (M : List Ent) (L c n : Nat) (ta : TDA) : TD := fun r S Q E => ∃ i e, tx.it c = some i ∧ M[i]? = some e ∧ fits e (n + 1) L ∧
  ta r S (fun ds S1 => ∀ a, S1 a = none → e.sp (.ref a :: ds ++ fill e (n + 1)) (put S1 a (.ins c [])) (fun d S2 => d = .non ∧ Q (.ref a) S2) E) E
theorem run_makeS {CX : CXT} {f C : Addr} {fd : FuncData} {ps : List Str} {sp : Sp} {dvs : List V} {ds : List Value} {k : Nat} {E : L2.St → XK} {pins : List (Addr × Obj)} {σ : L2.St} {H : Hp} {s : Shared} {Q : VK} {us : List Value} {vs : List V} (M : Mk X.K C f) (F : FnOk X.prog X.w X.K X.mg X.base CX k f fd ps sp) (hr : Room (k + 1) X.A) (hb : Binds X.K fd ps ds) (hd : Vals dvs ds)
    (hx : PassesAt CX X σ (E σ)) (I : Inv X pins σ H s) (r : Vals vs us)
    (h : ∀ x dx, H x = none → H dx = none → dx ≠ x → sp (.ref x :: (vs ++ dvs)) (upd (upd H dx (.own x)) x (.ins C dx [])) (fun v H2 => v = .non ∧ Q (.ref x) H2) (E σ)) :
    wpAny (model X.prog X.w) X.A (call (.ref C) us) (EP X pins σ Q) X.xe s := by
  have hq := h (s.heap.objs.size + 1) s.heap.objs.size (I.hok.fresh (Nat.le_succ _)) (I.hok.fresh (Nat.le_refl _)) (Nat.ne_of_lt (Nat.lt_succ_self _))
  have I2 := Inv.made (C := C) I
  have r2 : Vals (V.ref (s.heap.objs.size + 1) :: (vs ++ dvs)) (Value.ref (s.heap.objs.size + 1) :: (us ++ ds)) := .cons rfl (r.append hd)
  have hl : (Value.ref (s.heap.objs.size + 1) :: us ++ ds).length = ps.length := by
    have e := r2.length
    rw [F.len _ _ _ _ hq] at e
    exact e.symm
  refine wpAny_call (make_map (f := f) I.kIn M.makes M.init (beq_iff_eq.mp M.fn) (codeAny_mono (F.run _ X.stack _ _ ⟨Value.ref (s.heap.objs.size + 1) :: us, []⟩ (Value.ref (s.heap.objs.size + 1) :: (us ++ ds)) _ _ (E σ) (hr.make C us [])
    (I2.env0.make C us []) (hb _ (Value.ref (s.heap.objs.size + 1) :: us) I2.kIn hl) r2 hq) fun r s' hq' => ?_))
  cases r with
  | error e => exact hx pins _ _ e s' I2 hq'
  | ok fl =>
    cases fl with
    | ret u =>
      obtain ⟨v, H', I3, rv, ev, q3⟩ := I2.after hq'
      subst ev
      exact ⟨rv, ⟨V.ref (s.heap.objs.size + 1), H', I3, rfl, q3⟩⟩
    | next => exact False.elim hq'
    | brk => exact False.elim hq'
    | cont => exact False.elim hq'
theorem make_st {K : PySem.W.Frag} {H : Hp} {S : DS} {c : Nat} {a dx : Addr} (st : ST K Z S H) (ha : H a = none) (hdx : H dx = none) (ne : dx ≠ a) :
    Go H S (upd (upd H dx (.own a)) a (.ins (Z.cm c) dx [])) (put S a (.ins c [])) ∧ ST K Z (put S a (.ins c [])) (upd (upd H dx (.own a)) a (.ins (Z.cm c) dx [])) := by
  have h1 : upd H dx (.own a) a = none := by rw [upd_ne ne.symm]; exact ha
  refine ⟨(Go.new hdx).trans (Go.made h1), (st.new hdx).made h1 (o := .ins c []) ⟨dx, [], upd_same, Nat.zero_le _, fun i d q => (nomatch (show (none : Option D) = some d from q)), fun _ _ => rfl⟩⟩
theorem pd_make (hM : TxOk X.prog X.w X.K X.mg X.base Z tx M) (hr : Room (L + 1) X.A) (c n : Nat) (hN : tx.cn c = some x) (hg : Gl X x) (ha : PDA X Z (e :: es) t)
    (hdb : (x == ("__debug__" : Str)) = false := by decide) (he : starEach (e :: es) X.env = (false, eval e X.env) :: starEach es X.env := by rfl) (hpl : (backTo pos (starEach es X.env)).any (·.1) = false := by rfl) :
    PD X Z (.Call (.Name x p) (e :: es) [] pos) (dMake tx M L c n t) := fun W tk => by
  refine ⟨fun pins s σ H Q I h => ?_⟩
  obtain ⟨r, S, Q0, E0, R, ⟨i, en, hit, hi, hf, q⟩, k, kE⟩ := h
  obtain ⟨f, hm, mk, F⟩ := hM.it c x i en hN hit hi hf.2.2.2
  obtain ⟨fd, ps, F, hlen, hb⟩ := F.ok
  obtain ⟨dvs, dsv, hb, hd, hv⟩ := hb _ (fill_ok hf)
  refine wpAny_Call_Name_kw (ld_glob I hg hm ?_ hdb)
  refine PySem.W.callWith_K (h₀ := X.base) I.ok.mod.kin mk.kp (thn ((ha W tk).run pos pins s σ H (fun vs H1 => ∃ ds S1, Go H S H1 S1 ∧ ST X.K Z S1 H1 ∧ DVs X.K H1 ds vs ∧ ∀ a, S1 a = none → en.sp (.ref a :: ds ++ fill en (n + 1)) (put S1 a (.ins c [])) (fun d S2 => d = .non ∧ Q0 (.ref a) S2) E0) I
    ⟨r, S, _, E0, R, q, fun ds S1 vs H1 e1 st1 dv1 q1 => ⟨ds, S1, e1, st1, dv1, q1⟩, kE⟩) fun us s1 ⟨vs, H1, I1, rr, ds, S1, e1, st1, dv1, q1⟩ => ⟨I1.kIn, ?_⟩) he hpl
  refine run_makeS (E := WE W) mk (F.mono hf.1) hr hb hd (passAt tk σ) I1 rr fun a dx hna hndx hne => ?_
  obtain ⟨g1, st2⟩ := make_st (c := c) st1 hna hndx hne
  exact liftSp_of (r := r) (W := W) (σ := σ) (ds := .ref a :: ds) (vs := .ref a :: vs) (e1.trans g1) st2 (DVs.cons (dv_ref.mpr rfl) (dv1.mono g1.evo)) (hv _) (q1 a (st1.free hna))
    (fun d S' v H' g st dv q2 => ⟨by rw [q2.1] at dv; exact dv_non.mp dv, k _ S' _ H' g st (dv_ref.mpr rfl) q2.2⟩) kE
theorem pd_make0 (hM : TxOk X.prog X.w X.K X.mg X.base Z tx M) (hr : Room (L + 1) X.A) (c : Nat) (hN : tx.cn c = some x) (hg : Gl X x) (hdb : (x == ("__debug__" : Str)) = false := by decide) :
    PD X Z (.Call (.Name x p) [] [] pos) (dMake tx M L c 0 dNil) := fun W tk => by
  refine ⟨fun pins s σ H Q I h => ?_⟩
  obtain ⟨r, S, Q0, E0, R, ⟨i, en, hit, hi, hf, q⟩, k, kE⟩ := h
  obtain ⟨f, hm, mk, F⟩ := hM.it c x i en hN hit hi hf.2.2.2
  obtain ⟨fd, ps, F, hlen, hb⟩ := F.ok
  obtain ⟨dvs, dsv, hb, hd, hv⟩ := hb _ (fill_ok hf)
  refine wpAny_Call_Name_kw (ld_glob I hg hm ?_ hdb)
  refine PySem.W.callWith_K0 I.kIn mk.kp (run_makeS (us := []) (vs := []) (E := WE W) mk (F.mono hf.1) hr hb hd (passAt tk σ) I .nil fun a dx hna hndx hne => ?_)
  obtain ⟨g1, st2⟩ := make_st (c := c) R.st hna hndx hne
  exact liftSp_of (r := r) (W := W) (σ := σ) (ds := [.ref a]) (vs := [.ref a]) g1 st2 (DVs.cons (dv_ref.mpr rfl) (dvs_nil.mpr rfl)) (hv _) (q a (R.st.free hna))
    (fun d S' v H' g st dv q2 => ⟨by rw [q2.1] at dv; exact dv_non.mp dv, k _ S' _ H' g st (dv_ref.mpr rfl) q2.2⟩) kE

/-! ### fields, constants -/
def dFld (tx : Tx) (f : Nat) (to : TD) : TD := fun r S Q E => to r S (fun x S1 => ∃ a c fs d, x = .ref a ∧ S1 a = some (.ins c fs) ∧ tx.fl c f = true ∧ lk fs f = some d ∧ Q d S1) E
theorem pd_fld (hM : TxOk X.prog X.w X.K X.mg X.base Z tx M) (f : Nat) (hf : Z.fn f = m) (ho : PD X Z o to) (hb : attributeBase o m X.env (eval o X.env) = eval o X.env := by rfl) : PD X Z (.Attribute o m pos) (dFld tx f to) := fun W tk => by
  subst hf
  refine PE.imp (pe_fld (ho W tk) hb) fun σ H Q h => ?_
  obtain ⟨r, S, Q0, E0, R, q, k, kE⟩ := h
  refine ⟨r, S, _, E0, R, q, fun x S1 v H1 e1 st1 dv1 q1 => ?_, kE⟩
  obtain ⟨a, c, fs, d, ex, sa, hfl, hl, q2⟩ := q1
  subst ex
  obtain ⟨dx, vs, ha, fv⟩ := st1.sr a _ sa
  obtain ⟨hc, hn⟩ := hM.fl c f hfl
  obtain ⟨v', h1, h2⟩ := fv.2.1 f d hl
  exact ⟨a, Z.cm c, dx, vs, v', dv_ref.mp dv1, ha, hc, hn, h1, k d S1 v' H1 e1 st1 h2 q2⟩
theorem pd_glob (hM : TxOk X.prog X.w X.K X.mg X.base Z tx M) (i : Nat) {d : D} (hv : tx.va i = some (x, d)) (hg : Gl X x) (hdb : (x == ("__debug__" : Str)) = false := by decide) : PD X Z (.Name x pos) (dC d) := by
  obtain ⟨u, v, h1, h2, h3⟩ := hM.va i x d hv
  exact pd_c (pe_glob hg h1 h2 hdb) h3

/-! ### built-ins by data -/
abbrev RDC := List D → DS → QD → Prop
def liftC (K : PySem.W.Frag) (Z : Zt) (r : RDC) : List V → Hp → VK → Prop := fun vs H Q => ∃ ds S Q0, ST K Z S H ∧ DVs K H ds vs ∧ r ds S Q0 ∧ ∀ d S' v H', Go H S H' S' → ST K Z S' H' → DV K H' d v → Q0 d S' → Q v H'
def CallD (X : Cx) (Z : Zt) (f : Value) (r : RDC) : Prop := CallR X f (liftC X.K Z r)
def dBi (r : RDC) (ta : TDA) : TD := fun p S Q E => ta p S (fun ds S1 => r ds S1 Q) E
theorem lift_bi {K : PySem.W.Frag} {W : WX} {r : RDC} {σ : L2.St} {H : Hp} {Q : VK} (h : lift K Z W (dBi r t) σ H Q) : tCB (liftC K Z r) (liftA K Z W t) σ H Q := by
  obtain ⟨p, S, Q0, E0, R, q, k, kE⟩ := h
  exact ⟨p, S, _, E0, R, q, fun ds S1 vs H1 e1 st1 dv1 q1 => ⟨ds, S1, Q0, st1, dv1, q1, fun d S' v H' e => k d S' v H' (e1.trans e)⟩, kE⟩
theorem pd_bi {r : RDC} {id : String} (hM : TxOk X.prog X.w X.K X.mg X.base Z tx M) (hc : CallD X Z (.builtin id) r) (i : Nat) (hN : tx.bl i = some x) (hg : Gl X x) (hv : bootBuiltins x = some (.builtin id)) (ha : PDA X Z (e :: es) t)
    (hn : x ≠ "__name__" := by decide) (hdb : (x == ("__debug__" : Str)) = false := by decide) (he : starEach (e :: es) X.env = (false, eval e X.env) :: starEach es X.env := by rfl) (hpl : (backTo pos (starEach es X.env)).any (·.1) = false := by rfl) :
    PD X Z (.Call (.Name x p) (e :: es) [] pos) (dBi r t) := fun W tk =>
  PE.imp (pe_callB hc hg (hM.bl i x hN) hv (ha W tk) hn hdb he hpl) fun _ _ _ h => lift_bi h
theorem pd_ty {r : RDC} {T : String} (hM : TxOk X.prog X.w X.K X.mg X.base Z tx M) (hc : CallD X Z (.type T) r) (i : Nat) (hN : tx.bl i = some x) (hg : Gl X x) (hv : bootBuiltins x = some (.type T)) (ha : PDA X Z (e :: es) t)
    (hn : x ≠ "__name__" := by decide) (hdb : (x == ("__debug__" : Str)) = false := by decide) (he : starEach (e :: es) X.env = (false, eval e X.env) :: starEach es X.env := by rfl) (hpl : (backTo pos (starEach es X.env)).any (·.1) = false := by rfl) :
    PD X Z (.Call (.Name x p) (e :: es) [] pos) (dBi r t) := fun W tk =>
  PE.imp (pe_callTy hc hg (hM.bl i x hN) hv (ha W tk) hn hdb he hpl) fun _ _ _ h => lift_bi h
end
end G

set_option Elab.async false
set_option linter.all false
set_option maxRecDepth 100000
set_option maxHeartbeats 4000000
/-! GF: statements, targets, loops, comprehensions, errors. -/
namespace G
open PySem PySem.Spec PyProof.Rows L2
/-- what is wanted behind a statement -/
structure EndsD where
  nx : Env_ → DS → Prop
  rt : QD
  bk : Env_ → DS → Prop := fun _ _ => False
  ct : Env_ → DS → Prop := fun _ _ => False
  ex : Nat → Env_ → DS → Prop := fun _ _ _ => False
abbrev TDS := EndsD → Env_ → DS → Prop
section
variable (K : PySem.W.Frag) (Z : Zt) (W : WX)
structure Meant (r : Env_) (S : DS) (σ : L2.St) (H : Hp) (D0 : EndsD) (D : Ends) : Prop where
  nx : ∀ r' S' σ' H', Go H S H' S' → Rel K Z r' S' σ' H' → D0.nx r' S' → D.nx σ' H'
  rt : ∀ d S' v H', Go H S H' S' → ST K Z S' H' → DV K H' d v → D0.rt d S' → D.rt v H'
  bk : ∀ r' S' σ' H', Go H S H' S' → Rel K Z r' S' σ' H' → D0.bk r' S' → D.bk σ' H'
  ct : ∀ r' S' σ' H', Go H S H' S' → Rel K Z r' S' σ' H' → D0.ct r' S' → D.ct σ' H'
  ex : ∀ c r' S' dd σ' H', Go H S H' S' → Rel K Z r' S' σ' H' → D0.ex c r' S' → W (Z.ex c) dd σ' H'
def liftS (t : TDS) : TS := fun D σ H => ∃ r S D0, Rel K Z r S σ H ∧ t D0 r S ∧ Meant K Z W r S σ H D0 D
end
def PDS (X : Cx) (Z : Zt) (st : Stmt) (t : TDS) : Prop := ∀ W, Takes X W → PS X st (liftS X.K Z W t)
def PDSs (X : Cx) (Z : Zt) (st : List Stmt) (t : TDS) : Prop := ∀ W, Takes X W → PSs X st (liftS X.K Z W t)
section
variable {X : Cx} {Z : Zt} {tx : Tx} {M : List Ent} {L : Nat} {a b e o : Expr} {es : List Expr} {te to ti : TD} {t u : TDS} {tc : TDT} {pos pos' : Pos} {x m : Str} {st : Stmt} {rest : List Stmt}
theorem PSs.imp {st : List Stmt} {t t' : TS} (h : PSs X st t) (i : ∀ D σ H, t' D σ H → t D σ H) : PSs X st t' := ⟨fun pins s σ H D I q => h.run pins s σ H D I (i D σ H q)⟩
/-- later ends from earlier ones -/
theorem Meant.go {K : PySem.W.Frag} {W : WX} {r r' : Env_} {S S' : DS} {σ σ' : L2.St} {H H' : Hp} {D0 : EndsD} {D : Ends} (h : Meant K Z W r S σ H D0 D) (g : Go H S H' S') : Meant K Z W r' S' σ' H' D0 D :=
  ⟨fun r2 S2 σ2 H2 e => h.nx r2 S2 σ2 H2 (g.trans e), fun d S2 v H2 e => h.rt d S2 v H2 (g.trans e), fun r2 S2 σ2 H2 e => h.bk r2 S2 σ2 H2 (g.trans e), fun r2 S2 σ2 H2 e => h.ct r2 S2 σ2 H2 (g.trans e), fun c r2 S2 dd σ2 H2 e => h.ex c r2 S2 dd σ2 H2 (g.trans e)⟩
theorem Meant.exx {K : PySem.W.Frag} {W : WX} {r : Env_} {S : DS} {σ : L2.St} {H : Hp} {D0 : EndsD} {D : Ends} (h : Meant K Z W r S σ H D0 D) (R : Rel K Z r S σ H) : ∀ c S' dd H', Go H S H' S' → ST K Z S' H' → D0.ex c r S' → W (Z.ex c) dd σ H' :=
  fun c S' dd H' e st q => h.ex c r S' dd σ H' e (R.go e st) q
/-! ### blocks, small statements -/
def dNext : TDS := fun D r S => D.nx r S
def dSeq (t u : TDS) : TDS := fun D r S => t { D with nx := u D } r S
theorem pdss_nil : PDSs X Z [] dNext := fun W tk => PSs.imp pss_nil fun D σ H ⟨r, S, D0, R, q, k⟩ => k.nx r S σ H Go.r R q
theorem pdss_cons (h1 : PDS X Z st t) (h2 : PDSs X Z rest u) : PDSs X Z (st :: rest) (dSeq t u) := fun W tk => by
  refine PSs.imp (pss_cons (h1 W tk) (h2 W tk)) fun D σ H h => ?_
  obtain ⟨r, S, D0, R, q, k⟩ := h
  exact ⟨r, S, _, R, q, ⟨fun r' S' σ' H' e R' q' => ⟨r', S', D0, R', q', k.go e⟩, k.rt, k.bk, k.ct, k.ex⟩⟩
theorem pdss_one (h1 : PDS X Z st t) : PDSs X Z [st] t := fun W tk => pss_one (h1 W tk)
theorem pds_pass : PDS X Z (.Pass pos) dNext := fun W tk => PS.imp ps_pass fun D σ H ⟨r, S, D0, R, q, k⟩ => k.nx r S σ H Go.r R q
def dBreak : TDS := fun D r S => D.bk r S
def dCont : TDS := fun D r S => D.ct r S
theorem pds_break : PDS X Z (.Break pos) dBreak := fun W tk => PS.imp ps_break fun D σ H ⟨r, S, D0, R, q, k⟩ => k.bk r S σ H Go.r R q
theorem pds_continue : PDS X Z (.Continue pos) dCont := fun W tk => PS.imp ps_continue fun D σ H ⟨r, S, D0, R, q, k⟩ => k.ct r S σ H Go.r R q
def dDrop (te : TD) : TDS := fun D r S => te r S (fun _ S1 => D.nx r S1) (fun c S1 => D.ex c r S1)
theorem pds_expr (he : PD X Z e te) (hs : swapsWith e none pos.line X.env = pure false := by rfl) : PDS X Z (.Expr e pos) (dDrop te) := fun W tk => by
  refine PS.imp (ps_expr (he W tk) hs) fun D σ H h => ?_
  obtain ⟨r, S, D0, R, q, k⟩ := h
  exact ⟨r, S, _, _, R, q, fun d S' v H' e st dv q' => k.nx r S' σ H' e (R.go e st) q', k.exx R⟩
def dRet (te : TD) : TDS := fun D r S => te r S D.rt (fun c S1 => D.ex c r S1)
theorem pds_ret (he : PD X Z e te) : PDS X Z (.Return (some e) pos) (dRet te) := fun W tk => by
  refine PS.imp (ps_ret (he W tk)) fun D σ H h => ?_
  obtain ⟨r, S, D0, R, q, k⟩ := h
  exact ⟨r, S, _, _, R, q, k.rt, k.exx R⟩
def dRetN : TDS := fun D _ S => D.rt .non S
theorem pds_retN : PDS X Z (.Return none pos) dRetN := fun W tk => PS.imp ps_retN fun D σ H ⟨r, S, D0, R, q, k⟩ => k.rt .non S .non H Go.r R.st (dv_non.mpr rfl) q
def dIfS (c : TDT) (t u : TDS) : TDS := fun D r S => c r S (fun b S1 => if b = true then t D r S1 else u D r S1) (fun c S1 => D.ex c r S1)
theorem pds_if {c : Expr} {sa sb : List Stmt} (hc : PDT X Z c tc) (ha : PDSs X Z sa t) (hb : PDSs X Z sb u) : PDS X Z (.If c sa sb pos) (dIfS tc t u) := fun W tk => by
  refine PS.imp (ps_if (hc W tk) (ha W tk) (hb W tk)) fun D σ H h => ?_
  obtain ⟨r, S, D0, R, q, k⟩ := h
  refine ⟨r, S, _, _, R, q, fun b S' H' e st q' => ?_, k.exx R⟩
  cases b with
  | true => exact iteT ⟨r, S', D0, R.go e st, (if_pos rfl).mp q', k.go e⟩
  | false => exact iteF ⟨r, S', D0, R.go e st, (if_neg Bool.false_ne_true).mp q', k.go e⟩

/-! ### targets -/
abbrev TDG := D → Env_ → DS → (Env_ → DS → Prop) → XD → Prop
abbrev TDGs := List D → Env_ → DS → (Env_ → DS → Prop) → XD → Prop
/-- slots but those of the list stay -/
def Keep (ts : List Nat) (σ σ' : L2.St) : Prop := σ'.length = σ.length ∧ ∀ j, j ∉ ts → σ'[j]? = σ[j]?
theorem Keep.refl {ts : List Nat} {σ : L2.St} : Keep ts σ σ := ⟨rfl, fun _ _ => rfl⟩
theorem Keep.trans {ts us : List Nat} {σ σ1 σ2 : L2.St} (a : Keep ts σ σ1) (b : Keep us σ1 σ2) : Keep (ts ++ us) σ σ2 :=
  ⟨b.1.trans a.1, fun j hj => (b.2 j fun z => hj (List.mem_append_right _ z)).trans (a.2 j fun z => hj (List.mem_append_left _ z))⟩
def liftG (K : PySem.W.Frag) (Z : Zt) (W : WX) (ts : List Nat) (g : TDG) : TG := fun v σ H Q => ∃ d r S Q0 E0, Rel K Z r S σ H ∧ DV K H d v ∧ g d r S Q0 E0 ∧
  (∀ r' S' σ' H', Go H S H' S' → Rel K Z r' S' σ' H' → Keep ts σ σ' → Q0 r' S' → Q σ' H') ∧ ∀ c S' dd H', Go H S H' S' → ST K Z S' H' → E0 c S' → W (Z.ex c) dd σ H'
def liftGs (K : PySem.W.Frag) (Z : Zt) (W : WX) (ts : List Nat) (g : TDGs) : TGs := fun vs σ H Q => ∃ ds r S Q0 E0, Rel K Z r S σ H ∧ DVs K H ds vs ∧ g ds r S Q0 E0 ∧
  (∀ r' S' σ' H', Go H S H' S' → Rel K Z r' S' σ' H' → Keep ts σ σ' → Q0 r' S' → Q σ' H') ∧ ∀ c S' dd H', Go H S H' S' → ST K Z S' H' → E0 c S' → W (Z.ex c) dd σ H'
def PDG (X : Cx) (Z : Zt) (tg : Expr) (ts : List Nat) (g : TDG) : Prop := ∀ W, Takes X W → PG X tg (liftG X.K Z W ts g)
def PDGs (X : Cx) (Z : Zt) (tg : List Expr) (ts : List Nat) (g : TDGs) : Prop := ∀ W, Takes X W → PGs X tg (liftGs X.K Z W ts g)
theorem PG.imp {tg : Expr} {t t' : TG} (h : PG X tg t) (i : ∀ v σ H Q, t' v σ H Q → t v σ H Q) : PG X tg t' := ⟨fun pins s σ H v u Q I r q => h.run pins s σ H v u Q I r (i v σ H Q q)⟩
theorem PGs.imp {tg : List Expr} {t t' : TGs} (h : PGs X tg t) (i : ∀ v σ H Q, t' v σ H Q → t v σ H Q) : PGs X tg t' := ⟨fun pins s σ H v u Q I r q => h.run pins s σ H v u Q I r (i v σ H Q q)⟩
def gN (i : Nat) : TDG := fun d r S Q _ => Q (r.set i (some d)) S
theorem pdg_name {i : Nat} (hN : X.N.Nodup) (hi : X.N[i]? = some x := by rfl) (hx : Loc X.env.scope x := by first | exact .inl rfl | exact .inr rfl) (hf : X.fn x = true ∨ X.env.scope.names.lookup x = some .local := by first | exact .inl rfl | exact .inr rfl) : PDG X Z (.Name x pos) [i] (gN i) := fun W tk => by
  refine PG.imp (pg_name hN hi hx hf) fun v σ H Q h => ?_
  obtain ⟨d, r, S, Q0, E0, R, dv, q, k, _⟩ := h
  exact k _ S _ H Go.r ⟨R.sl.set i dv, R.st⟩ ⟨List.length_set, fun j hj => List.getElem?_set_ne (fun z => hj (by rw [z]; exact List.mem_singleton.mpr rfl))⟩ q
def gNl : TDGs := fun ds r S Q _ => ds = [] ∧ Q r S
def gCs (g : TDG) (h : TDGs) : TDGs := fun ds r S Q E => match ds with
  | d :: rest => g d r S (fun r' S' => h rest r' S' Q (fun _ _ => False)) (fun _ _ => False)
  | [] => False
theorem pdgs_nil : PDGs X Z [] [] gNl := fun W tk => by
  refine PGs.imp pgs_nil fun v σ H Q h => ?_
  obtain ⟨ds, r, S, Q0, E0, R, dv, q, k, _⟩ := h
  rw [q.1] at dv
  exact ⟨dvs_nil.mp dv, k r S σ H Go.r R Keep.refl q.2⟩
theorem pdgs_cons {ts us : List Nat} {g : TDG} {h : TDGs} (h1 : PDG X Z e ts g) (h2 : PDGs X Z es us h) (hs : (assignEach (e :: es) X.env).map (·.2) = assign e X.env :: (assignEach es X.env).map (·.2) := by rfl) : PDGs X Z (e :: es) (ts ++ us) (gCs g h) := fun W tk => by
  refine PGs.imp (pgs_cons (h1 W tk) (h2 W tk) hs) fun v σ H Q h => ?_
  obtain ⟨ds, r, S, Q0, E0, R, dv, q, k, kE⟩ := h
  cases ds with
  | nil => exact q.elim
  | cons d rest =>
    obtain ⟨v', vr, e1, dv1, dv2⟩ := dvs_cons.mp dv
    refine ⟨v', vr, e1, d, r, S, _, _, R, dv1, q, fun r' S' σ' H' e R' kp q' => ?_, fun _ _ _ _ _ _ z => z.elim⟩
    exact ⟨rest, r', S', _, _, R', dv2.mono e.evo, q', fun r2 S2 σ2 H2 e2 R2 kp2 q2 => k r2 S2 σ2 H2 (e.trans e2) R2 (kp.trans kp2) q2, fun _ _ _ _ _ _ z => z.elim⟩
def gT (n : Nat) (g : TDGs) : TDG := fun d r S Q E => match d with
  | .tup ds => ds.length = n ∧ g ds r S Q E
  | _ => False
theorem pdg_tup {ts : List Nat} {g : TDGs} {k n : Nat} (hc : X.calm = true) (h : PDGs X Z es ts g) (hn : (assignEach es X.env).length = n := by rfl) (hst : (assignEach es X.env).findIdx? (·.1) = none := by rfl) : PDG X Z (.Tuple es k pos) ts (gT n g) := fun W tk => by
  refine PG.imp (pg_tup hc (h W tk) hn hst) fun v σ H Q h => ?_
  obtain ⟨d, r, S, Q0, E0, R, dv, q, k, kE⟩ := h
  cases d with
  | tup ds =>
    obtain ⟨p, vs, e1, h1, d1⟩ := dv_tup.mp dv
    exact ⟨p, vs, e1, h1, by rw [← d1.len]; exact q.1, ds, r, S, Q0, E0, R, d1, q.2, k, kE⟩
  | _ => exact q.elim
/-- o[i] = .. of a list -/
def gIx (to ti : TD) : TDG := fun d r S Q E => to r S (fun x S1 => ti r S1 (fun y S2 => match x, y with
  | .ref a, .int i => ∃ ds j, S2 a = some (.lst ds) ∧ ixN ds.length i = some j ∧ Q r (put S2 a (.lst (ds.set j d)))
  | _, _ => False) E) E
theorem pdg_ix (ho : PD X Z o to) (hi : PD X Z a ti) (ha : ∀ v, assign (.Subscript o a pos) X.env v = (do
      let ov ← holding [v] (eval o X.env)
      let iv ← holding [v, ov] (eval a X.env)
      standAt pos
      holding [v, ov, iv] (setItem ov iv v)
      release [v, ov, iv] []) := by intro _; rfl) : PDG X Z (.Subscript o a pos) [] (gIx to ti) := fun W tk => by
  refine PG.imp (pg_sub (ho W tk) (hi W tk) set_list ha) fun v σ H Q h => ?_
  obtain ⟨d, r, S, Q0, E0, R, dv, q, k, kE⟩ := h
  refine ⟨r, S, _, E0, R, q, fun x S1 ov H1 e1 st1 dv1 q1 => ?_, kE⟩
  refine ⟨r, S1, _, E0, R.go e1 st1, q1, fun y S2 iv H2 e2 st2 dv2 q2 => ?_, fun c S2 dd H2 e2 => kE c S2 dd H2 (e1.trans e2)⟩
  cases x with
  | ref l =>
    cases y with
    | int i =>
      obtain ⟨ds, j, sa, hj, q3⟩ : ∃ ds j, S2 l = some (.lst ds) ∧ ixN ds.length i = some j ∧ Q0 r (put S2 l (.lst (ds.set j d))) := q2
      obtain ⟨vs, h1, d1⟩ := sr_lst st2 sa
      have ev : Evo H2 (upd H2 l (.lst (vs.set j v))) := mut_evo h1 trivial
      refine ⟨l, vs, i, j, (dv_ref.mp (dv1.mono e2.evo)), dv_int.mp dv2, h1, by rw [← d1.len]; exact hj, ?_⟩
      have st3 : ST X.K Z (put S2 l (.lst (ds.set j d))) (upd H2 l (.lst (vs.set j v))) := st2.wrote h1 trivial ⟨_, upd_same, (DVs.set (dv.mono (e1.trans e2).evo) j d1).mono ev⟩
      have g3 := (e1.trans e2).trans (Go.wrote (u' := .lst (ds.set j d)) ev sa)
      exact k r _ σ _ g3 (R.go g3 st3) Keep.refl q3
    | _ => exact q2.elim
  | _ => cases y <;> exact q2.elim
/-- target = e -/
def dAsg (te : TD) (g : TDG) : TDS := fun D r S => te r S (fun d S1 => g d r S1 D.nx (fun c S2 => D.ex c r S2)) (fun c S1 => D.ex c r S1)
theorem lift_asg {K : PySem.W.Frag} {W : WX} {te : TD} {g : TDG} {ts : List Nat} {D : Ends} {σ : L2.St} {H : Hp} (h : liftS K Z W (dAsg te g) D σ H) : tAsg (lift K Z W te) (liftG K Z W ts g) D σ H := by
  obtain ⟨r, S, D0, R, q, k⟩ := h
  refine ⟨r, S, _, _, R, q, fun d S1 v H1 e1 st1 dv1 q1 => ?_, k.exx R⟩
  exact ⟨d, r, S1, _, _, R.go e1 st1, dv1, q1, fun r' S' σ' H' e' R' _ q' => k.nx r' S' σ' H' (e1.trans e') R' q', fun c S' dd H' e' st' q' => k.ex c r S' dd σ H' (e1.trans e') (R.go (e1.trans e') st') q'⟩
theorem pds_asg {tg : Expr} {g : TDG} {ts : List Nat} (he : PD X Z e te) (hg : PDG X Z tg ts g) (hs : swapsWithSole [tg] e pos.line X.env = pure false := by rfl) (hw : swappedStores [tg] e X.env = pure none := by rfl)
    (h1 : (assignEach [tg] X.env).map (·.2) = [assign tg X.env] := by rfl) : PDS X Z (.Assign [tg] e pos) (dAsg te g) := fun W tk =>
  PS.imp (ps_asg (he W tk) (hg W tk) hs hw h1) fun _ _ _ h => lift_asg h
theorem pds_set {i : Nat} (hN : X.N.Nodup) (he : PD X Z e te) (hi : X.N[i]? = some x := by rfl) (hx : Loc X.env.scope x := by first | exact .inl rfl | exact .inr rfl) (hs : swapsWith e (some (.Name x pos')) pos.line X.env = pure false := by rfl) (hf : X.fn x = true ∨ X.env.scope.names.lookup x = some .local := by first | exact .inl rfl | exact .inr rfl) :
    PDS X Z (.Assign [.Name x pos'] e pos) (dAsg te (gN i)) := fun W tk => by
  refine PS.imp (ps_set hN hi hx (he W tk) hs hf) fun D σ H h => ?_
  obtain ⟨r, S, D0, R, q, k⟩ := h
  refine ⟨r, S, _, _, R, q, fun d S1 v H1 e1 st1 dv1 q1 => ?_, k.exx R⟩
  exact k.nx _ S1 _ H1 e1 ⟨(R.sl.mono e1.evo).set i dv1, st1⟩ q1
/-- o.f = e -/
def putD (f : Nat) (d : D) : List (Nat × D) → List (Nat × D)
  | [] => [(f, d)]
  | (g, y) :: r => if g = f then (g, d) :: r else (g, y) :: putD f d r
theorem lk_putD (f i : Nat) (d : D) : ∀ fs : List (Nat × D), lk (putD f d fs) i = if i = f then some d else lk fs i
  | [] => by
    show (if i = f then some d else none) = _
    rfl
  | (g, y) :: r => by
    by_cases h : g = f
    · subst h
      show lk (if g = g then (g, d) :: r else (g, y) :: putD g d r) i = _
      rw [if_pos rfl]
      show (if i = g then some d else lk r i) = if i = g then some d else (if i = g then some y else lk r i)
      split <;> rfl
    · show lk (if g = f then (g, d) :: r else (g, y) :: putD f d r) i = _
      rw [if_neg h]
      show (if i = g then some y else lk (putD f d r) i) = if i = f then some d else (if i = g then some y else lk r i)
      rw [lk_putD f i d r]
      by_cases hg : i = g
      · rw [if_pos hg, if_pos hg, if_neg (fun z => h (hg.symm.trans z))]
      · rw [if_neg hg, if_neg hg]
theorem len_putD (f : Nat) (d : D) : ∀ fs : List (Nat × D), (putD f d fs).length = if (lk fs f).isSome then fs.length else fs.length + 1
  | [] => rfl
  | (g, y) :: r => by
    have ih := len_putD f d r
    by_cases h : g = f
    · subst h
      simp [putD, lk]
    · have h' : ¬ f = g := fun z => h z.symm
      simp only [putD, lk, if_neg h, if_neg h', List.length_cons, ih]
      split <;> rfl
theorem len_putF_has (f : Str) (v : V) : ∀ fs : List (Str × V), (fs.lookup f).isSome → (putF f v fs).length = fs.length
  | [], h => by simp at h
  | (g, y) :: r, h => by
    show (if g = f then (g, v) :: r else (g, y) :: putF f v r).length = r.length + 1
    by_cases hg : g = f
    · rw [if_pos hg]; rfl
    · rw [if_neg hg, List.length_cons, len_putF_has f v r]
      have : (f == g) = false := by simp [Ne.symm hg]
      simpa [List.lookup, this] using h
theorem FV.put {K : PySem.W.Frag} {H : Hp} {fs : List (Nat × D)} {vs : List (Str × V)} {f : Nat} {d : D} {v : V} (h : FV K Z H fs vs) (dv : DV K H d v) : FV K Z H (putD f d fs) (putF (Z.fn f) v vs) := by
  refine ⟨?_, fun i d' q => ?_, fun y hy => ?_⟩
  · rw [len_putD]
    cases e : lk fs f with
    | none =>
      have := length_putF (Z.fn f) v vs
      have := h.1
      simp
      omega
    | some d0 =>
      obtain ⟨v0, h1, _⟩ := h.2.1 f d0 e
      rw [len_putF_has _ _ _ (by rw [h1]; rfl)]
      exact h.1
  · rw [lk_putD] at q
    rw [lookup_putF]
    by_cases hi : i = f
    · rw [if_pos hi] at q
      cases q
      exact ⟨v, by rw [if_pos (by rw [hi])], dv⟩
    · rw [if_neg hi] at q
      rw [if_neg (fun z => hi (Z.inj _ _ z))]
      exact h.2.1 i d' q
  · rw [lookup_putF]
    have hf : Z.fn f ≠ y := hy f d (by rw [lk_putD, if_pos rfl])
    rw [if_neg (fun z => hf z.symm)]
    refine h.2.2 y fun i d' q => ?_
    by_cases hi : i = f
    · rw [hi]; exact hf
    · exact hy i d' (by rw [lk_putD, if_neg hi]; exact q)
def dFldS (tx : Tx) (f : Nat) (to te : TD) : TDS := fun D r S => te r S (fun d S1 => to r S1 (fun x S2 => ∃ a c fs, x = .ref a ∧ S2 a = some (.ins c fs) ∧ tx.fl c f = true ∧ fs.length < 900 ∧ D.nx r (put S2 a (.ins c (putD f d fs)))) (fun c S2 => D.ex c r S2)) (fun c S1 => D.ex c r S1)
theorem pds_fld (hM : TxOk X.prog X.w X.K X.mg X.base Z tx M) (f : Nat) (hf : Z.fn f = m) (ho : PD X Z o to) (he : PD X Z e te) (hs : swapsWith e (some (.Attribute o m pos')) pos.line X.env = pure false := by rfl) : PDS X Z (.Assign [.Attribute o m pos'] e pos) (dFldS tx f to te) := fun W tk => by
  subst hf
  refine PS.imp (ps_fld (ho W tk) (he W tk) hs) fun D σ H h => ?_
  obtain ⟨r, S, D0, R, q, k⟩ := h
  refine ⟨r, S, _, _, R, q, fun d S1 v H1 e1 st1 dv1 q1 => ?_, k.exx R⟩
  refine ⟨r, S1, _, _, R.go e1 st1, q1, fun x S2 w H2 e2 st2 dv2 q2 => ?_, fun c S' dd H' e' => k.exx R c S' dd H' (e1.trans e')⟩
  obtain ⟨a, c, fs, ex, sa, hfl, hl, q3⟩ := q2
  subst ex
  obtain ⟨dx, vs, ha, fv⟩ := st2.sr a _ sa
  obtain ⟨hc, hn⟩ := hM.fl c f hfl
  have ev : Evo H2 (upd H2 a (.ins (Z.cm c) dx (putF (Z.fn f) v vs))) := mut_evo ha trivial
  refine ⟨a, Z.cm c, dx, vs, dv_ref.mp dv2, ha, hc, hn, by have := fv.1; omega, ?_⟩
  have st3 : ST X.K Z (put S2 a (.ins c (putD f d fs))) (upd H2 a (.ins (Z.cm c) dx (putF (Z.fn f) v vs))) := st2.wrote ha trivial ⟨dx, _, upd_same, (fv.put (dv1.mono e2.evo)).mono ev⟩
  have g3 := (e1.trans e2).trans (Go.wrote (u' := .ins c (putD f d fs)) ev sa)
  exact k.nx r _ σ _ g3 (R.go g3 st3) q3
end
end G

set_option Elab.async false
set_option linter.all false
set_option maxRecDepth 100000
set_option maxHeartbeats 4000000
/-! GG: op=, while, for, what is walked, comprehensions, errors, tries, several names at once. -/
namespace G
open PySem PySem.Spec PyProof.Rows L2
section
variable {X : Cx} {Z : Zt} {tx : Tx} {M : List Ent} {L : Nat} {a b c e o : Expr} {es : List Expr} {te to ti : TD} {t u tb : TDS} {tc : TDT} {ta : TDA} {pos pos' p : Pos} {x m : Str} {st : Stmt} {rest body : List Stmt}
/-! ### name op= e -/
def IpD (X : Cx) (Z : Zt) (op : Operator) (r : RD2) : Prop := PIp X op (liftR X.K Z r)
def opIAdd : RD2 := fun x y S Q => match x, y with
  | .int i, .int j => Q (.int (i + j)) S
  | .str a, .str b => a.length + b.length ≤ sizeLine ∧ Q (.str (a ++ b)) S
  | _, _ => False
theorem id_add : IpD X Z .Add opIAdd := by
  intro pins s σ H v w u u' Q I rx ry h
  obtain ⟨x, y, S, Q0, st, hx, hy, h, k⟩ := h
  cases x with
  | int i =>
    cases y with
    | int j =>
      rw [dv_int.mp hx] at rx
      rw [dv_int.mp hy] at ry
      exact iop_add pins s σ H _ _ _ _ Q I rx ry ⟨i, j, rfl, rfl, k _ S _ H Go.r st (dv_int.mpr rfl) h⟩
    | _ => exact h.elim
  | str a =>
    cases y with
    | str b =>
      rw [dv_str.mp hx] at rx
      rw [dv_str.mp hy] at ry
      exact iop_add_str pins s σ H _ _ _ _ Q I rx ry ⟨a, b, rfl, rfl, h.1, k _ S _ H Go.r st (dv_str.mpr rfl) h.2⟩
    | _ => exact h.elim
  | _ => cases y <;> exact h.elim
theorem id_sub : IpD X Z .Sub opSub := opII iop_sub (fun x y S Q h => by cases x <;> cases y <;> first | exact ⟨_, _, rfl, rfl⟩ | exact h.elim)
  fun i j S Q0 H Q h k => ⟨i, j, rfl, rfl, k _ h _ fun _ _ => dv_int.mpr rfl⟩
def opIMul : RD2 := fun x y S Q => match x, y with
  | .int i, .int j => CMul i j ∧ Q (.int (i * j)) S
  | _, _ => False
theorem id_mul : IpD X Z .Mult opIMul := opII iop_mul (fun x y S Q h => by cases x <;> cases y <;> first | exact ⟨_, _, rfl, rfl⟩ | exact h.elim)
  fun i j S Q0 H Q h k => ⟨i, j, rfl, rfl, h.1, k _ h.2 _ fun _ _ => dv_int.mpr rfl⟩
def dAug (i : Nat) (te : TD) (r2 : RD2) : TDS := fun D r S => ∃ x, r[i]? = some (some x) ∧ te r S (fun y S1 => r2 x y S1 fun z S2 => D.nx (r.set i (some z)) S2) (fun c S1 => D.ex c r S1)
theorem pds_aug {op : Operator} {r2 : RD2} {i : Nat} (hN : X.N.Nodup) (he : PD X Z e te) (ho : IpD X Z op r2) (hi : X.N[i]? = some x := by rfl) (hx : Loc X.env.scope x := by first | exact .inl rfl | exact .inr rfl) (hf : X.fn x = true ∨ X.env.scope.names.lookup x = some .local := by first | exact .inl rfl | exact .inr rfl) :
    PDS X Z (.AugAssign (.Name x pos') op e pos) (dAug i te r2) := fun W tk => by
  refine PS.imp (ps_aug hN hi hx (he W tk) ho hf) fun D σ H h => ?_
  obtain ⟨r, S, D0, R, ⟨d, hd, q⟩, k⟩ := h
  obtain ⟨v, h1, h2⟩ := R.sl.get i d hd
  refine ⟨v, h1, r, S, _, _, R, q, fun y S1 w H1 e1 st1 dv1 q1 => ?_, k.exx R⟩
  refine ⟨d, y, S1, _, st1, h2.mono e1.evo, dv1, q1, fun z S2 v2 H2 e2 st2 dv2 q2 => ?_⟩
  exact k.nx _ S2 _ H2 (e1.trans e2) ⟨(R.sl.mono (e1.trans e2).evo).set i dv2, st2⟩ q2

/-! ### while -/
def dWhile (c : TDT) (tb : TDS) : TDS := fun D r S => ∃ Wv : Nat → Env_ → DS → Prop, (∃ m, Wv m r S) ∧ ∀ m r S, Wv m r S →
  c r S (fun b S1 => if b = true then tb { D with nx := fun r' S' => ∃ S0 m', Sub S0 S' ∧ m' < m ∧ Wv m' r' S0, ct := fun r' S' => ∃ S0 m', Sub S0 S' ∧ m' < m ∧ Wv m' r' S0, bk := D.nx } r S1 else D.nx r S1) (fun c S1 => D.ex c r S1)
theorem pds_while {sts : List Stmt} (hp : PassesOwn (model X.prog X.w) X.A X.env X.xe) (hc : PDT X Z c tc) (hb : PDSs X Z body tb) : PDS X Z (.While c body [] pos) (dWhile tc tb) := fun W tk => by
  refine PS.imp (ps_while hp (hc W tk) (hb W tk)) fun D σ H h => ?_
  obtain ⟨r, S, D0, R, ⟨Wv, ⟨m0, w0⟩, turn⟩, k⟩ := h
  refine ⟨fun m σ' H' => ∃ r' S', Go H S H' S' ∧ Rel X.K Z r' S' σ' H' ∧ Wv m r' S', ⟨m0, r, S, Go.r, R, w0⟩, fun m σ1 H1 ⟨r1, S1, g1, R1, w1⟩ => ?_⟩
  have k1 : Meant X.K Z W r1 S1 σ1 H1 D0 D := k.go g1
  refine ⟨r1, S1, _, _, R1, turn m r1 S1 w1, fun b S2 H2 e2 st2 q2 => ?_, k1.exx R1⟩
  cases b with
  | true =>
    refine iteT ⟨fun σ' H' => ∃ m', m' < m ∧ ∃ r' S', Go H S H' S' ∧ Rel X.K Z r' S' σ' H' ∧ Wv m' r' S', fun σ' H' h => h, r1, S2, _, R1.go e2 st2, (if_pos rfl).mp q2, ?_⟩
    have g2 := g1.trans e2
    refine ⟨fun r' S' σ' H' e R' ⟨S0, m', hs, hm, w'⟩ => ⟨m', hm, r', S0, (g2.trans e).sub hs, ⟨R'.sl, R'.st.sub hs⟩, w'⟩, fun d S' v H' e => k.rt d S' v H' (g2.trans e), fun r' S' σ' H' e => k.nx r' S' σ' H' (g2.trans e), fun r' S' σ' H' e R' ⟨S0, m', hs, hm, w'⟩ => ⟨m', hm, r', S0, (g2.trans e).sub hs, ⟨R'.sl, R'.st.sub hs⟩, w'⟩,
      fun c r' S' dd σ' H' e => k.ex c r' S' dd σ' H' (g2.trans e)⟩
  | false => exact iteF (k1.nx r1 S2 σ1 H2 e2 (R1.go e2 st2) ((if_neg Bool.false_ne_true).mp q2))

/-! ### what is walked -/
/-- J gives ds, one by one, as long as ok holds of the store -/
def Yields (K : PySem.W.Frag) (Z : Zt) (H0 : Hp) (J : It) (ds : List D) (ok : DS → Prop) : Prop := ∀ i S H, Evo H0 H → ST K Z S H → ok S →
  (∀ d, ds[i]? = some d → J.go i H ∧ ∀ x H', J.yld i H x H' → DV K H' d x ∧ Go H S H' S ∧ ST K Z S H') ∧ (ds.length ≤ i → J.stop i H)
abbrev TDI := Env_ → DS → (List D → (DS → Prop) → DS → Prop) → XD → Prop
def liftI (K : PySem.W.Frag) (Z : Zt) (W : WX) (wi : TDI) : TI := fun σ H R => ∃ r S Q0 E0, Rel K Z r S σ H ∧ wi r S Q0 E0 ∧
  (∀ ds ok S' J H', Go H S H' S' → ST K Z S' H' → Yields K Z H' J ds ok → Q0 ds ok S' → R J H') ∧ ∀ c S' dd H', Go H S H' S' → ST K Z S' H' → E0 c S' → W (Z.ex c) dd σ H'
def PDI (X : Cx) (Z : Zt) (tg iter : Expr) (wi : TDI) : Prop := ∀ W, Takes X W → PI X tg iter (liftI X.K Z W wi)
theorem PI.imp {tg it : Expr} {t t' : TI} (h : PI X tg it t) (i : ∀ σ H R, t' σ H R → t σ H R) : PI X tg it t' := ⟨fun pins s σ H R I q => h.run pins s σ H R I (i σ H R q)⟩
section
variable {K : PySem.W.Frag} {H0 : Hp}
theorem Evo.put_go {H : Hp} {S : DS} {T : Addr} {u : HO} (h : H T = none) (st : ST K Z S H) : Go H S (upd H T u) S ∧ ST K Z S (upd H T u) := ⟨Go.new h, st.new h⟩
theorem y_list {l : Addr} {ds : List D} : Yields K Z H0 (Itl K l) ds (fun S => S l = some (.lst ds)) := fun i S H _ st ok => by
  obtain ⟨vs, h1, d1⟩ := sr_lst st ok
  refine ⟨fun d hd => ?_, fun hi => ⟨vs, SqL.of h1, by rw [← d1.len]; exact hi⟩⟩
  obtain ⟨v, hv, dv⟩ := d1.get hd
  refine ⟨⟨vs, v, SqL.of h1, hv⟩, fun x H' y => ?_⟩
  obtain ⟨e, y⟩ := y
  subst e
  have := y vs (SqL.of h1)
  rw [hv] at this
  cases this
  exact ⟨dv, Go.r, st⟩
theorem y_tup {l : Addr} {ds : List D} {vs : List V} (h : SqT K H0 l vs) (dv : DVs K H0 ds vs) : Yields K Z H0 (Itt K l) ds (fun _ => True) := fun i S H e st _ => by
  have h1 := e.sqT h
  have d1 := dv.mono e
  refine ⟨fun d hd => ?_, fun hi => ⟨vs, h1, by rw [← d1.len]; exact hi⟩⟩
  obtain ⟨v, hv, dv⟩ := d1.get hd
  refine ⟨⟨vs, v, h1, hv⟩, fun x H' y => ?_⟩
  obtain ⟨e, y⟩ := y
  subst e
  have := y vs h1
  rw [hv] at this
  cases this
  exact ⟨dv, Go.r, st⟩
theorem y_rol {l : Addr} {ds : List D} {vs : List V} (h : RoL K H0 l vs) (dv : DVs K H0 ds vs) : Yields K Z H0 (Itl K l) ds (fun _ => True) := fun i S H e st _ => by
  have h1 := (e.roL h).sq
  have d1 := dv.mono e
  refine ⟨fun d hd => ?_, fun hi => ⟨vs, h1, by rw [← d1.len]; exact hi⟩⟩
  obtain ⟨v, hv, dv⟩ := d1.get hd
  refine ⟨⟨vs, v, h1, hv⟩, fun x H' y => ?_⟩
  obtain ⟨e, y⟩ := y
  subst e
  have := y vs h1
  rw [hv] at this
  cases this
  exact ⟨dv, Go.r, st⟩
def signs (z : Str) : List D := z.cps.toList.map fun c => D.str ⟨#[c]⟩
theorem y_str {z : Str} : Yields K Z H0 (Its z) (signs z) (fun _ => True) := fun i S H e st _ => by
  refine ⟨fun d hd => ?_, fun hi => ?_⟩
  · unfold signs at hd
    rw [List.getElem?_map, Array.getElem?_toList] at hd
    cases hc : z.cps[i]? with
    | none => rw [hc] at hd; cases hd
    | some c =>
      rw [hc] at hd
      cases hd
      refine ⟨(Array.getElem?_eq_some_iff.mp hc).1, fun x H' y => ?_⟩
      obtain ⟨e, c', h1, h2⟩ := y
      subst e
      rw [hc] at h1
      cases h1
      exact ⟨dv_str.mpr h2, Go.r, st⟩
  · unfold signs at hi
    rw [List.length_map, Array.length_toList] at hi
    exact hi
def rngD (lo : Int) (n : Nat) : List D := (List.range n).map fun i => D.int (lo + (i : Nat))
theorem rngD_get {lo : Int} {n i : Nat} {d : D} (h : (rngD lo n)[i]? = some d) : i < n ∧ d = .int (lo + i) := by
  unfold rngD at h
  rw [List.getElem?_map] at h
  by_cases hi : i < n
  · rw [List.getElem?_range hi] at h
    cases h
    exact ⟨hi, rfl⟩
  · rw [List.getElem?_eq_none (by rw [List.length_range]; omega)] at h
    cases h
theorem rngD_len (lo : Int) (n : Nat) : (rngD lo n).length = n := by unfold rngD; rw [List.length_map, List.length_range]
theorem y_rng {lo : Int} {n : Nat} : Yields K Z H0 (Itr lo n) (rngD lo n) (fun _ => True) := fun i S H e st _ => by
  refine ⟨fun d hd => ?_, fun hi => by rw [rngD_len] at hi; exact hi⟩
  obtain ⟨h1, h2⟩ := rngD_get hd
  subst h2
  exact ⟨h1, fun x H' y => ⟨by rw [y.2]; exact dv_int.mpr rfl, by rw [y.1]; exact Go.r, by rw [y.1]; exact st⟩⟩
end
/-- a list, a tuple, a text that is walked -/
def iAny (te : TD) : TDI := fun r S Q E => te r S (fun x S1 => match x with
  | .ref l => ∃ ds, S1 l = some (.lst ds) ∧ Q ds (fun S => S l = some (.lst ds)) S1
  | .tup ds => Q ds (fun _ => True) S1
  | .rol ds => Q ds (fun _ => True) S1
  | .str z => Q (signs z) (fun _ => True) S1
  | _ => False) E
theorem it_list {tg : Expr} {pins : List (Addr × Obj)} {σ : L2.St} {H : Hp} {s : Shared} {R : It → Hp → Prop} {l : Addr} {vs : List V} (I : Inv X pins σ H s) (h : SqL X.K H l vs) (q : R (Itl X.K l) H) : wpAny (model X.prog X.w) X.A (pyIter (.ref l)) (PIE X pins σ tg R) X.xe s := by
  obtain ⟨its, rv, p, hz⟩ := I.list h
  refine wpAny_pyIter_list p.isList ?_
  refine ⟨s.heap.objs.size, [s.heap.objs.size], _, _, H, rfl, I.kept (t' := s.toks) fun b o e => Heap.get?_push_of_some _ e, turn_list l _, ⟨_, Heap.get?_push_size _ rfl, rfl, rfl⟩, fun b hb => ?_, q⟩
  have e : b = s.heap.objs.size := by simpa using hb
  subst e
  exact I.fpOk (Nat.le_refl _) (I.hok.fresh (Nat.le_refl _))
theorem it_tup {tg : Expr} {pins : List (Addr × Obj)} {σ : L2.St} {H : Hp} {s : Shared} {R : It → Hp → Prop} {l : Addr} {vs : List V} (I : Inv X pins σ H s) (h : SqT X.K H l vs) (q : R (Itt X.K l) H) : wpAny (model X.prog X.w) X.A (pyIter (.ref l)) (PIE X pins σ tg R) X.xe s := by
  obtain ⟨its, rv, p, hz⟩ := I.tuple h
  refine wpAny_pyIter_tuple (show s.heap.IsTuple l its.toArray from p) ?_
  refine ⟨s.heap.objs.size, [s.heap.objs.size], _, _, H, rfl, I.kept (t' := s.toks) fun b o e => Heap.get?_push_of_some _ e, turn_tuple l _, ⟨_, Heap.get?_push_size _ rfl, rfl, rfl⟩, fun b hb => ?_, q⟩
  have e : b = s.heap.objs.size := by simpa using hb
  subst e
  exact I.fpOk (Nat.le_refl _) (I.hok.fresh (Nat.le_refl _))
theorem it_str {tg : Expr} {pins : List (Addr × Obj)} {σ : L2.St} {H : Hp} {s : Shared} {R : It → Hp → Prop} {z : Str} {t : Tok} (I : Inv X pins σ H s) (q : R (Its z) H) : wpAny (model X.prog X.w) X.A (pyIter (.str z t)) (PIE X pins σ tg R) X.xe s := by
  cases ha : z.cps.all (· < 128)
  · exact wpAny_pyIter_wide ha (pi_one (tk := s.toks) I _ (turn_str _ z t "str_iterator" (.inr rfl)) ⟨_, Heap.get?_push_size _ rfl, rfl, rfl⟩ q)
  · exact wpAny_pyIter_ascii ha (pi_one (tk := s.toks) I _ (turn_str _ z t "str_ascii_iterator" (.inl rfl)) ⟨_, Heap.get?_push_size _ rfl, rfl, rfl⟩ q)
theorem pdi_any {tg : Expr} (he : PD X Z e te) : PDI X Z tg e (iAny te) := fun W tk => by
  refine ⟨fun pins s σ H R I h => ?_⟩
  obtain ⟨r, S, Q0, E0, RR, q, k, kE⟩ := h
  refine thn ((he W tk).run pins s σ H (fun v H1 => ∃ x S1, Go H S H1 S1 ∧ ST X.K Z S1 H1 ∧ DV X.K H1 x v ∧ (match x with
    | .ref l => ∃ ds, S1 l = some (.lst ds) ∧ Q0 ds (fun S => S l = some (.lst ds)) S1
    | .tup ds => Q0 ds (fun _ => True) S1
    | .rol ds => Q0 ds (fun _ => True) S1
    | .str z => Q0 (signs z) (fun _ => True) S1
    | _ => False)) I ⟨r, S, _, E0, RR, q, fun x S1 v H1 e1 st1 dv1 q1 => ⟨x, S1, e1, st1, dv1, q1⟩, kE⟩) fun u s1 ⟨v, H1, I1, rv, x, S1, e1, st1, dv1, q1⟩ => ?_
  cases x with
  | ref l =>
    obtain ⟨ds, sa, q2⟩ := q1
    rw [dv_ref.mp dv1] at rv
    obtain rfl : u = Value.ref l := rv
    obtain ⟨vs, h1, d1⟩ := sr_lst st1 sa
    exact it_list I1 (SqL.of h1) (k ds _ S1 _ H1 e1 st1 y_list q2)
  | tup ds =>
    obtain ⟨l, vs, ev, h1, d1⟩ := dv_tup.mp dv1
    rw [ev] at rv
    obtain rfl : u = Value.ref l := rv
    exact it_tup I1 h1 (k ds _ S1 _ H1 e1 st1 (y_tup h1 d1) q1)
  | rol ds =>
    obtain ⟨l, vs, ev, h1, d1⟩ := dv_rol.mp dv1
    rw [ev] at rv
    obtain rfl : u = Value.ref l := rv
    exact it_list I1 h1.sq (k ds _ S1 _ H1 e1 st1 (y_rol h1 d1) q1)
  | str z =>
    rw [dv_str.mp dv1] at rv
    obtain ⟨t, rfl⟩ := rv
    exact it_str I1 (k _ _ S1 _ H1 e1 st1 y_str q1)
  | _ => exact q1.elim
def RgOk (j : Int) : Prop := -(2 ^ 62) ≤ j ∧ j < 2 ^ 62
def iRg1 (ta : TDA) : TDI := fun r S Q E => ta r S (fun ds S1 => match ds with
  | [.int j] => RgOk j ∧ Q (rngD 0 j.toNat) (fun _ => True) S1
  | _ => False) E
def iRg2 (ta : TDA) : TDI := fun r S Q E => ta r S (fun ds S1 => match ds with
  | [.int i, .int j] => RgOk i ∧ RgOk j ∧ Q (rngD i (j - i).toNat) (fun _ => True) S1
  | _ => False) E
theorem pdi_range1 {tg : Expr} (hM : TxOk X.prog X.w X.K X.mg X.base Z tx M) (i : Nat) (hN : tx.bl i = some ("range" : Str)) (ha : PDA X Z [a] ta) (hg : Gl X "range" := by rfl) (hs : starEach [a] X.env = [(false, eval a X.env)] := by rfl) : PDI X Z tg (.Call (.Name "range" p) [a] [] pos) (iRg1 ta) := fun W tk => by
  refine PI.imp (pi_range1 hg (hM.bl i _ hN) (ha W tk) hs) fun σ H R h => ?_
  obtain ⟨r, S, Q0, E0, RR, q, k, kE⟩ := h
  refine ⟨r, S, _, E0, RR, q, fun ds S1 vs H1 e1 st1 dv1 q1 => ?_, kE⟩
  match ds, q1, dv1 with
  | [.int j], q1, dv1 =>
    exact ⟨j, dvs_intsE (ns := [j]) dv1, q1.1.1, q1.1.2, k _ _ S1 _ H1 e1 st1 y_rng q1.2⟩
theorem pdi_range2 {tg : Expr} (hM : TxOk X.prog X.w X.K X.mg X.base Z tx M) (i : Nat) (hN : tx.bl i = some ("range" : Str)) (ha : PDA X Z [a, b] ta) (hg : Gl X "range" := by rfl) (hs : starEach [a, b] X.env = [(false, eval a X.env), (false, eval b X.env)] := by rfl) (hs2 : starEach [b] X.env = [(false, eval b X.env)] := by rfl) : PDI X Z tg (.Call (.Name "range" p) [a, b] [] pos) (iRg2 ta) := fun W tk => by
  refine PI.imp (pi_range2 hg (hM.bl i _ hN) (ha W tk) hs hs2) fun σ H R h => ?_
  obtain ⟨r, S, Q0, E0, RR, q, k, kE⟩ := h
  refine ⟨r, S, _, E0, RR, q, fun ds S1 vs H1 e1 st1 dv1 q1 => ?_, kE⟩
  match ds, q1, dv1 with
  | [.int i, .int j], q1, dv1 =>
    exact ⟨i, j, dvs_intsE (ns := [i, j]) dv1, ⟨q1.1.1, q1.1.2, q1.2.1.1, q1.2.1.2⟩, k _ _ S1 _ H1 e1 st1 y_rng q1.2.2⟩

/-! ### for -/
def dFor (wi : TDI) (g : TDG) (tb : TDS) : TDS := fun D r S => wi r S (fun ds ok S1 => ∃ Pv : Nat → Env_ → DS → Prop, Pv 0 r S1 ∧ (∀ i r S, Pv i r S → ok S) ∧
  (∀ i d r S, ds[i]? = some d → Pv i r S → g d r S (fun r2 S2 => tb { D with nx := fun r' S' => ∃ S0, Sub S0 S' ∧ Pv (i + 1) r' S0, ct := fun r' S' => ∃ S0, Sub S0 S' ∧ Pv (i + 1) r' S0, bk := D.nx } r2 S2) (fun _ _ => False)) ∧
  ∀ r S, Pv ds.length r S → D.nx r S) (fun c S1 => D.ex c r S1)
theorem pds_for {tg iter : Expr} {wi : TDI} {g : TDG} {ts : List Nat} (hp : PassesOwn (model X.prog X.w) X.A X.env X.xe) (hc : X.calm = true) (hi : PDI X Z tg iter wi) (hg : PDG X Z tg ts g) (hb : PDSs X Z body tb)
    (hs : ∀ x, foldedSetIterable iter X.env x = pure x := by intro _; rfl) : PDS X Z (.For tg iter body [] pos) (dFor wi g tb) := fun W tk => by
  refine PS.imp (ps_for hp hc (hi W tk) (hg W tk) (hb W tk) hs) fun D σ H h => ?_
  obtain ⟨r, S, D0, R, q, k⟩ := h
  refine ⟨r, S, _, _, R, q, fun ds ok S1 J H1 e1 st1 yy q1 => ?_, k.exx R⟩
  obtain ⟨Pv, p0, pok, pt, pe⟩ := q1
  refine ⟨fun i m σ' H' => m = ds.length - i ∧ i ≤ ds.length ∧ ∃ r' S', Go H S H' S' ∧ Evo H1 H' ∧ Rel X.K Z r' S' σ' H' ∧ Pv i r' S', ⟨ds.length, by simp, Nat.zero_le _, r, S1, e1, Evo.refl _, R.go e1 st1, p0⟩, ?_⟩
  rintro i m σ' H' ⟨rfl, hi, r', S', g', ev', R', p'⟩
  obtain ⟨y1, y2⟩ := yy i S' H' ev' R'.st (pok i r' S' p')
  by_cases hlt : i < ds.length
  · have hd : ds[i]? = some ds[i] := List.getElem?_eq_getElem hlt
    obtain ⟨go, y1⟩ := y1 _ hd
    refine .inr ⟨go, fun σ2 H2 => ∃ r2 S2, Go H S H2 S2 ∧ Evo H1 H2 ∧ Rel X.K Z r2 S2 σ2 H2 ∧ Pv (i + 1) r2 S2, fun σ2 H2 h2 => ⟨ds.length - (i + 1), by omega, rfl, hlt, h2⟩, fun x H2 y => ?_⟩
    obtain ⟨dx, g2, st2⟩ := y1 x H2 y
    refine ⟨ds[i], r', S', _, _, R'.go g2 st2, dx, pt i _ r' S' hd p', fun r3 S3 σ3 H3 e3 R3 _ q3 => ?_, fun _ _ _ _ _ _ z => z.elim⟩
    have g3 := (g'.trans g2).trans e3
    have ev3 := (ev'.trans g2.evo).trans e3.evo
    refine ⟨r3, S3, _, R3, q3, ?_⟩
    refine ⟨fun r4 S4 σ4 H4 e4 R4 ⟨S0, hs, p4⟩ => ⟨r4, S0, (g3.trans e4).sub hs, ev3.trans e4.evo, ⟨R4.sl, R4.st.sub hs⟩, p4⟩, fun d S4 v H4 e4 => k.rt d S4 v H4 (g3.trans e4), fun r4 S4 σ4 H4 e4 => k.nx r4 S4 σ4 H4 (g3.trans e4),
      fun r4 S4 σ4 H4 e4 R4 ⟨S0, hs, p4⟩ => ⟨r4, S0, (g3.trans e4).sub hs, ev3.trans e4.evo, ⟨R4.sl, R4.st.sub hs⟩, p4⟩, fun c r4 S4 dd σ4 H4 e4 => k.ex c r4 S4 dd σ4 H4 (g3.trans e4)⟩
  · have e : i = ds.length := by omega
    subst e
    exact .inl ⟨y2 (Nat.le_refl _), k.nx r' S' σ' H' g' R' (pe r' S' p')⟩
end
end G

set_option Elab.async false
set_option linter.all false
set_option maxRecDepth 100000
set_option maxHeartbeats 4000000
/-! GH: comprehensions, errors, tries, several names at once, a def's promise from its body. -/
namespace G
open PySem PySem.Spec PyProof.Rows L2
section
variable {X : Cx} {Z : Zt} {tx : Tx} {M : List Ent} {L : Nat} {a b c e o : Expr} {es : List Expr} {te to ti : TD} {t u tb : TDS} {tt tt1 : TDT} {ta : TDA} {pos pos' p np : Pos} {x m : Str} {st : Stmt} {rest body suite : List Stmt}
/-! ### comprehensions -/
def PDTs (X : Cx) (Z : Zt) (ifs : List Expr) (t : TDT) : Prop := ∀ W, Takes X W → PTs X ifs (liftT X.K Z W t)
def dYes : TDT := fun _ S Q _ => Q true S
theorem PTs.imp {ifs : List Expr} {t t' : TT} (h : PTs X ifs t) (i : ∀ σ H Q, t' σ H Q → t σ H Q) : PTs X ifs t' := ⟨fun pins s σ H Q I q => h.run pins s σ H Q I (i σ H Q q)⟩
theorem pdts_nil : PDTs X Z [] dYes := fun W tk => PTs.imp pts_nil fun σ H Q h => by
  obtain ⟨r, S, Q0, E0, R, q, k, _⟩ := h
  exact k true S H Go.r R.st q
theorem pdts_one (h : PDT X Z c tt) : PDTs X Z [c] tt := fun W tk => pts_one (h W tk)
def wipeD (r : Env_) : List Nat → Env_
  | [] => r
  | v :: vs => (wipeD r vs).set v none
theorem SL.wipe {K : PySem.W.Frag} {H : Hp} {r : Env_} {σ : L2.St} (h : SL K H r σ) : ∀ vs, SL K H (wipeD r vs) (L2.wipe σ vs)
  | [] => h
  | v :: vs => by
    have ih := h.wipe vs
    refine ⟨by unfold wipeD L2.wipe; rw [List.length_set, List.length_set]; exact ih.len, fun i d q => ?_⟩
    unfold wipeD at q
    unfold L2.wipe
    by_cases hi : v = i
    · subst hi
      by_cases hv : v < (wipeD r vs).length
      · rw [List.getElem?_set_self hv] at q; cases q
      · rw [List.getElem?_eq_none (by simpa using hv)] at q; cases q
    · rw [List.getElem?_set_ne hi] at q ⊢
      exact ih.get i d q
theorem Keep.wipe {ts vs : List Nat} {σ σ' : L2.St} (h : Keep ts (L2.wipe σ vs) σ') (hs : ∀ i ∈ ts, i ∈ vs) : L2.wipe σ' vs = L2.wipe σ vs := by
  apply List.ext_getElem?
  intro j
  by_cases hj : j ∈ vs
  · have e : ∀ {τ : L2.St} {us : List Nat}, j ∈ us → (L2.wipe τ us)[j]? = if j < τ.length then some none else none := by
      intro τ us
      induction us with
      | nil => intro z; cases z
      | cons v us ih =>
        intro z
        unfold L2.wipe
        by_cases hv : v = j
        · subst hv
          by_cases hl : v < (L2.wipe τ us).length
          · rw [List.getElem?_set_self hl]
            rw [wipe_length] at hl
            rw [if_pos hl]
          · rw [List.getElem?_eq_none (by simpa using hl)]
            rw [wipe_length] at hl
            rw [if_neg hl]
        · rw [List.getElem?_set_ne hv]
          exact ih ((List.mem_cons.mp z).resolve_left fun q => hv q.symm)
    rw [e hj, e hj, h.1, wipe_length]
  · rw [wipe_out hj, h.2 j (fun z => hj (hs j z))]
def nofl : XD := fun _ _ => False
/-- the new list isn't told before it is whole: acc holds what is made so far -/
def dLc (wi : TDI) (g : TDG) (tt : TDT) (te : TD) (vs : List Nat) : TD := fun r S Q E => wi r S (fun ds ok S1 => ds.length ≤ sizeLine ∧ ∃ Pv : Nat → List D → DS → Prop, Pv 0 [] S1 ∧ (∀ i acc S, Pv i acc S → ok S) ∧
  (∀ i d acc S, ds[i]? = some d → Pv i acc S → g d (wipeD r vs) S (fun r2 S2 => tt r2 S2 (fun b S3 =>
    if b = true then te r2 S3 (fun y S4 => ∃ S0, Sub S0 S4 ∧ Pv (i + 1) (acc ++ [y]) S0) nofl else ∃ S0, Sub S0 S3 ∧ Pv (i + 1) acc S0) nofl) nofl) ∧
  ∀ acc S l, Pv ds.length acc S → S l = none → Q (.ref l) (put S l (.lst acc))) E
variable {elt tg iter tg1 iter1 : Expr} {ifs ifs1 : List Expr} {scope : Scope} {own : List (Str × Nat)} {wi wi1 : TDI} {g g1 : TDG} {ts ts1 : List Nat}
/-- what holds ahead of a turn -/
structure Turn0 (K : PySem.W.Frag) (Z : Zt) (r : Env_) (σ : L2.St) (H0 : Hp) (S0 : DS) (H1 : Hp) (Dl : Addr) (acc : List D) (S : DS) (H : Hp) : Prop where
  go : Go H0 S0 H S
  ev : Evo H1 H
  st : ST K Z S H
  sl : SL K H r σ
  no : S Dl = none
  at_ : ∃ vs, H Dl = some (.lst vs) ∧ DVs K H acc vs
theorem Turn0.step {K : PySem.W.Frag} {r : Env_} {σ : L2.St} {H0 : Hp} {S0 : DS} {H1 : Hp} {Dl : Addr} {acc : List D} {S S' S'' : DS} {H H' : Hp} (h : Turn0 K Z r σ H0 S0 H1 Dl acc S H) (g : Go H S H' S') (st : ST K Z S' H') (s : Sub S'' S') : Turn0 K Z r σ H0 S0 H1 Dl acc S'' H' := by
  obtain ⟨vs, e, d⟩ := h.at_
  refine ⟨(h.go.trans g).sub s, h.ev.trans g.evo, st.sub s, h.sl.mono g.evo, (g.sub s).fr Dl (by rw [e]; exact fun z => nomatch z) h.no, vs, g.un Dl _ e h.no (fun ps z => nomatch z), d.mono g.evo⟩
theorem Turn0.app {K : PySem.W.Frag} {r : Env_} {σ : L2.St} {H0 : Hp} {S0 : DS} {H1 : Hp} {Dl : Addr} {acc : List D} {S : DS} {H : Hp} {y : D} {v : V} (h : Turn0 K Z r σ H0 S0 H1 Dl acc S H) (n0 : H0 Dl = none) (dv : DV K H y v) :
    ∃ vs, H Dl = some (.lst vs) ∧ vs.length = acc.length ∧ Turn0 K Z r σ H0 S0 H1 Dl (acc ++ [y]) S (upd H Dl (.lst (vs ++ [v]))) := by
  obtain ⟨vs, e, d⟩ := h.at_
  have ev : Evo H (upd H Dl (.lst (vs ++ [v]))) := mut_evo e trivial
  refine ⟨vs, e, d.len.symm, ⟨⟨h.go.evo.trans ev, h.go.fr, fun b o e1 e2 e3 => ?_⟩, h.ev.trans ev, ⟨fun b o eb => ?_, h.st.tb.wrote e trivial (fun _ z => nomatch z)⟩, h.sl.mono ev, h.no, vs ++ [v], upd_same, (d.append (DVs.cons dv (dvs_nil.mpr rfl))).mono ev⟩⟩
  · rw [upd_ne (ne_of_none e1 n0)]
    exact h.go.un b o e1 e2 e3
  · exact (h.st.sr b o eb).mono ev (upd_ne fun z => by rw [z, h.no] at eb; cases eb)
theorem lift_lc {K : PySem.W.Frag} {W : WX} {te : TD} {vs : List Nat} {σ : L2.St} {H : Hp} {Q : VK} (hts : ∀ i ∈ ts, i ∈ vs) (h : lift K Z W (dLc wi g tt te vs) σ H Q) :
    tLc (liftI K Z W wi) (liftG K Z (fun _ _ _ _ => False) ts g) (liftT K Z (fun _ _ _ _ => False) tt) (lift K Z (fun _ _ _ _ => False) te) vs σ H Q := by
  obtain ⟨r, S, Q0, E0, R, q, k, kE⟩ := h
  refine ⟨r, S, _, E0, R, q, fun ds ok S1 J H1 e1 st1 yy q1 => ?_, kE⟩
  obtain ⟨hsz, Pv, p0, pok, pt, pe⟩ := q1
  intro Dl hDl
  have nS : S1 Dl = none := st1.free hDl
  have n0 : H Dl = none := by
    cases z : H Dl with
    | none => rfl
    | some o => exact absurd hDl (e1.evo.dom Dl (by rw [z]; exact fun z => nomatch z))
  refine ⟨fun i m H' => m = ds.length - i ∧ i ≤ ds.length ∧ ∃ acc S', acc.length ≤ i ∧ Turn0 K Z (wipeD r vs) (wipe σ vs) H S H1 Dl acc S' H' ∧ Pv i acc S',
    ⟨ds.length, by simp, Nat.zero_le _, [], S1, Nat.le_refl _, ⟨e1.trans (Go.new hDl), Evo.new hDl, st1.new hDl, ((R.sl.mono e1.evo).wipe vs).mono (Evo.new hDl), nS, [], upd_same, dvs_nil.mpr rfl⟩, p0⟩, ?_⟩
  rintro i m H' ⟨rfl, hi, acc, S', hacc, T', p'⟩
  obtain ⟨y1, y2⟩ := yy i S' H' T'.ev T'.st (pok i acc S' p')
  by_cases hlt : i < ds.length
  · have hd : ds[i]? = some ds[i] := List.getElem?_eq_getElem hlt
    obtain ⟨go, y1⟩ := y1 _ hd
    refine .inr ⟨go, fun H2 => ∃ acc2 S2, acc2.length ≤ i + 1 ∧ Turn0 K Z (wipeD r vs) (wipe σ vs) H S H1 Dl acc2 S2 H2 ∧ Pv (i + 1) acc2 S2, fun H2 ⟨acc2, S2, h1, h2, h3⟩ => ⟨ds.length - (i + 1), by omega, rfl, hlt, acc2, S2, h1, h2, h3⟩, fun x H2 y => ?_⟩
    obtain ⟨dx, g2, st2⟩ := y1 x H2 y
    have T2 := T'.step g2 st2 (Sub.refl _)
    refine ⟨ds[i], wipeD r vs, S', _, _, ⟨T2.sl, st2⟩, dx, pt i _ acc S' hd p', fun r3 S3 σ3 H3 e3 R3 kp q3 => ⟨kp.wipe hts, ?_⟩, fun _ _ _ _ _ _ z => z.elim⟩
    have T3 := T2.step e3 R3.st (Sub.refl _)
    refine ⟨r3, S3, _, _, R3, q3, fun b S4 H4 e4 st4 q4 => ?_, fun _ _ _ _ _ _ z => z.elim⟩
    have T4 := T3.step e4 st4 (Sub.refl _)
    cases b with
    | true =>
      refine iteT ⟨r3, S4, _, _, R3.go e4 st4, (if_pos rfl).mp q4, fun y' S5 v H5 e5 st5 dv5 ⟨S6, hs, p6⟩ => ?_, fun _ _ _ _ _ _ z => z.elim⟩
      obtain ⟨ws, h1, h2, T6⟩ := (T4.step e5 st5 hs).app n0 dv5
      exact ⟨ws, h1, by omega, acc ++ [y'], S6, by rw [List.length_append]; simp; omega, T6, p6⟩
    | false =>
      obtain ⟨S6, hs, p6⟩ := (if_neg Bool.false_ne_true).mp q4
      exact iteF ⟨acc, S6, by omega, T3.step e4 st4 hs, p6⟩
  · have e : i = ds.length := by omega
    subst e
    obtain ⟨ws, h1, h2⟩ := T'.at_
    refine .inl ⟨y2 (Nat.le_refl _), k (.ref Dl) (put S' Dl (.lst acc)) _ _ ⟨T'.go.evo, fun b h3 h4 => ?_, T'.go.un⟩ ⟨fun b o eb => ?_, T'.st.tb⟩ (dv_ref.mpr rfl) (pe acc S' Dl p' T'.no)⟩
    · rw [put_ne (fun z => h3 (by rw [z]; exact n0))]
      exact T'.go.fr b h3 h4
    · by_cases hb : b = Dl
      · subst hb
        rw [put_same] at eb
        cases eb
        exact ⟨ws, h1, h2⟩
      · rw [put_ne hb] at eb
        exact T'.st.sr b o eb
theorem takesF {X : Cx} : Takes X (fun _ _ _ _ => False) := L2.takes0
theorem pd_lc {te : TD} (hc : X.calm = true) (hN : X.N.Nodup) (hi : PDI X Z tg iter wi) (own : List (Str × Nat)) (ok : BlkOk X.N X.env.scope scope own) (hts : ∀ i ∈ ts, i ∈ own.map (·.2))
    (hg : ∀ (s : Shared) (H : Hp) (C : Addr) (cl : List (Str × Addr)) (fp : List Addr), PDG (X.blk s H scope (compEnvC scope cl C X.env) fp) Z tg ts g) (ht : ∀ (s : Shared) (H : Hp) (C : Addr) (cl : List (Str × Addr)) (fp : List Addr), PDTs (X.blk s H scope (compEnvC scope cl C X.env) fp) Z ifs tt)
    (he : ∀ (s : Shared) (H : Hp) (C : Addr) (cl : List (Str × Addr)) (fp : List Addr), PD (X.blk s H scope (compEnvC scope cl C X.env) fp) Z elt te) (hs : ∀ x, foldedSetIterable iter X.env x = pure x := by intro _; rfl) :
    PD X Z (.ListComp elt [⟨tg, iter, ifs, 0⟩] scope pos) (dLc wi g tt te (own.map (·.2))) := fun W tk =>
  PE.imp (pe_lc (g := liftG X.K Z (fun _ _ _ _ => False) ts g) (tt := liftT X.K Z (fun _ _ _ _ => False) tt) (te := lift X.K Z (fun _ _ _ _ => False) te) hc hN (hi W tk) ok (fun s H C cl fp => hg s H C cl fp _ takesF) (fun s H C cl fp => ht s H C cl fp _ takesF) (fun s H C cl fp => he s H C cl fp _ takesF) hs) fun _ _ _ h => lift_lc hts h
/-- name = [..] on one line -/
theorem pds_setLc {te : TD} {i : Nat} {y : Str} {py spos : Pos} (hc : X.calm = true) (hN : X.N.Nodup) (hi : PDI X Z tg iter wi) (own : List (Str × Nat)) (ok : BlkOk X.N X.env.scope scope own) (hts : ∀ i ∈ ts, i ∈ own.map (·.2))
    (hg : ∀ (s : Shared) (H : Hp) (C : Addr) (cl : List (Str × Addr)) (fp : List Addr), PDG (X.blk s H scope (compEnvC scope cl C X.env) fp) Z tg ts g) (ht : ∀ (s : Shared) (H : Hp) (C : Addr) (cl : List (Str × Addr)) (fp : List Addr), PDTs (X.blk s H scope (compEnvC scope cl C X.env) fp) Z ifs tt)
    (he : ∀ (s : Shared) (H : Hp) (C : Addr) (cl : List (Str × Addr)) (fp : List Addr), PD (X.blk s H scope (compEnvC scope cl C X.env) fp) Z elt te)
    (hsw : swapsWith (.ListComp elt [⟨tg, iter, ifs, 0⟩] scope pos) (some (.Name y py)) spos.line X.env = pure true) (hy : X.N[i]? = some y := by rfl) (hyl : X.env.scope.names.lookup y = some .local := by rfl) (hs : ∀ x, foldedSetIterable iter X.env x = pure x := by intro _; rfl) :
    PDS X Z (.Assign [.Name y py] (.ListComp elt [⟨tg, iter, ifs, 0⟩] scope pos) spos) (dAsg (dLc wi g tt te (own.map (·.2))) (gN i)) := fun W tk => by
  refine PS.imp (ps_setLc (g := liftG X.K Z (fun _ _ _ _ => False) ts g) (tt := liftT X.K Z (fun _ _ _ _ => False) tt) (te := lift X.K Z (fun _ _ _ _ => False) te) hc hN hy hyl hsw (hi W tk) ok (fun s H C cl fp => hg s H C cl fp _ takesF) (fun s H C cl fp => ht s H C cl fp _ takesF) (fun s H C cl fp => he s H C cl fp _ takesF) hs) fun D σ H h => ?_
  obtain ⟨r, S, D0, R, q, k⟩ := h
  refine lift_lc (W := W) hts ⟨r, S, _, _, R, q, fun d S1 v H1 e1 st1 dv1 q1 => ?_, k.exx R⟩
  exact k.nx _ S1 _ H1 e1 ⟨(R.sl.mono e1.evo).set i dv1, st1⟩ q1

/-! ### errors -/
def dRaise (i : Nat) : TDS := fun D r S => D.ex i r S
theorem pds_raise {mm : Str} {j : Nat} {p2 p1 : Pos} (hM : TxOk X.prog X.w X.K X.mg X.base Z tx M) (i : Nat) (hN : tx.xn i = some x) (hc : X.calm = true) (hg : Gl X x) (hdb : (x == ("__debug__" : Str)) = false := by decide) :
    PDS X Z (.Raise (some (.Call (.Name x p1) [.Constant (.str mm) j p2] [] p)) none pos) (dRaise i) := fun W tk => by
  obtain ⟨C, bmB, B, newId, initId, eu, hm, F, q, kC, hb, ht⟩ := (hM.xn i x hN).ok
  refine PS.imp (ps_raise hc tk (pmk_own F q hm kC (raises_own hb ht) hg hdb)) fun D σ H h => ?_
  obtain ⟨r, S, D0, R, q, k⟩ := h
  have z := k.ex i r S none σ H Go.r R q
  rw [eu] at z
  exact z
def dTry (tx : Tx) (i : Nat) (t u : TDS) : TDS := fun D r S => t { D with ex := fun c r' S' => ∃ b, tx.sb c i = some b ∧ (b = true → u { D with ex := fun _ _ _ => False } r' S') ∧ (b = false → D.ex c r' S') } r S
theorem pds_try {b₀ : Stmt} (hM : TxOk X.prog X.w X.K X.mg X.base Z tx M) (i : Nat) (hN : tx.xn i = some x) (hg : Gl X x)
    (hb : ∀ (pn : List (Addr × Obj)) (xe : Value → Shared → Prop), PassesOwn (model X.prog X.w) X.A X.env xe → PDSs (X.tr pn xe) Z body t)
    (hsu : ∀ (a : Addr) (oe : Obj) (pn : List (Addr × Obj)), PDSs (X.suite a ((a, oe) :: pn)) Z (b₀ :: suite) u)
    (hs : X.stack = X.env :: X.outer := by rfl) (hf : X.env.frame = some X.env.locals := by rfl) (hdb : (x == ("__debug__" : Str)) = false := by decide) :
    PDS X Z (.Try body [.ExceptHandler (some (.Name x np)) none (b₀ :: suite) pos'] [] [] pos) (dTry tx i t u) := fun W tk => by
  obtain ⟨C, bmB, B, newId, initId, eu, hm, F, q, kC, _, ht⟩ := (hM.xn i x hN).ok
  refine PS.imp (ps_try_only (c := .ref C) (tb := fun W => liftS X.K Z W t) (ts := fun _ _ _ => liftS X.K Z (fun _ _ _ _ => False) u) (Wout := W) hs hf ⟨hg, hdb, .inl hm⟩ tk (fun W pn xe tk' hp => hb pn xe hp W tk') (fun a oe cls d pn _ _ => hsu a oe pn _ takesF)) fun D σ H h => ?_
  obtain ⟨r, S, D0, R, q, k⟩ := h
  refine ⟨r, S, _, R, q, k.nx, k.rt, k.bk, k.ct, fun c r' S' dd σ' H' e R' ⟨b, h1, h2, h3⟩ => ⟨b, ?_, fun hb a na => ?_, fun hb => k.ex c r' S' dd σ' H' e R' (h3 hb)⟩⟩
  · rw [← eu]
    exact hM.sb c i b h1
  · have k' : Meant X.K Z W r' S' σ' H' D0 D := k.go e
    exact ⟨r', S', _, R', h2 hb, k'.nx, k'.rt, k'.bk, k'.ct, fun _ _ _ _ _ _ _ _ z => z.elim⟩

/-! ### several names at once -/
def dPar2 (i j : Nat) (ta : TDA) : TDS := fun D r S => ta r S (fun ds S1 => match ds with
  | [d, e] => D.nx ((r.set i (some d)).set j (some e)) S1
  | _ => False) (fun c S1 => D.ex c r S1)
theorem pds_par2 {i j : Nat} {x y : Str} {a b : Expr} {px py pt : Pos} {kt k2 pt2} (hc : X.calm = true) (hN : X.N.Nodup) (ha : PDA X Z [a, b] ta) (hw : swappedStores [.Tuple [.Name x px, .Name y py] kt pt] (.Tuple [a, b] k2 pt2) X.env = pure (some [x, y])) (hij : i ≠ j := by decide) (hi : X.N[i]? = some x := by rfl) (hj : X.N[j]? = some y := by rfl)
    (hx : X.env.scope.names.lookup x = some .local := by rfl) (hy : X.env.scope.names.lookup y = some .local := by rfl)
    (hs : swapsWithSole [.Tuple [.Name x px, .Name y py] kt pt] (.Tuple [a, b] k2 pt2) pos.line X.env = pure false := by rfl) :
    PDS X Z (.Assign [.Tuple [.Name x px, .Name y py] kt pt] (.Tuple [a, b] k2 pt2) pos) (dPar2 i j ta) := fun W tk => by
  refine PS.imp (ps_par hc hN hi hj hij hx hy (ha W tk) hw hs) fun D σ H h => ?_
  obtain ⟨r, S, D0, R, q, k⟩ := h
  refine ⟨r, S, _, _, R, q, fun ds S1 vs H1 e1 st1 dv1 q1 => ?_, k.exx R⟩
  match ds, q1, dv1 with
  | [d, e], q1, dv1 =>
    obtain ⟨v, r1, ev1, h1, h2⟩ := dvs_cons.mp dv1
    obtain ⟨w, r2, ev2, h3, h4⟩ := dvs_cons.mp h2
    rw [dvs_nil.mp h4] at ev2
    rw [ev2] at ev1
    exact ⟨v, w, ev1, k.nx _ S1 _ H1 e1 ⟨((R.sl.mono e1.evo).set i h1).set j h3, st1⟩ q1⟩
theorem ps_par3 {i j l : Nat} {x y z : Str} {a b c : Expr} {ta : TA} {px py pz pt : Pos} {kt k2 pt2} (hc : X.calm = true) (hN : X.N.Nodup) (hi : X.N[i]? = some x) (hj : X.N[j]? = some y) (hl : X.N[l]? = some z) (hij : i ≠ j) (hil : i ≠ l) (hjl : j ≠ l)
    (hx : X.env.scope.names.lookup x = some .local) (hy : X.env.scope.names.lookup y = some .local) (hz : X.env.scope.names.lookup z = some .local) (ha : PA X [a, b, c] ta)
    (hw : swappedStores [.Tuple [.Name x px, .Name y py, .Name z pz] kt pt] (.Tuple [a, b, c] k2 pt2) X.env = pure (some [x, y, z]))
    (hs : swapsWithSole [.Tuple [.Name x px, .Name y py, .Name z pz] kt pt] (.Tuple [a, b, c] k2 pt2) pos.line X.env = pure false := by rfl) :
    PS X (.Assign [.Tuple [.Name x px, .Name y py, .Name z pz] kt pt] (.Tuple [a, b, c] k2 pt2) pos) (fun D σ H => ta σ H fun vs H1 => ∃ v w u, vs = [v, w, u] ∧ D.nx (((σ.set i (some v)).set j (some w)).set l (some u)) H1) := by
  refine ⟨fun pins s σ H D I h => ?_⟩
  rw [exec_Assign_arm]
  refine wpAny_bind (wpAny_standAt ?_)
  rw [hs]
  refine wpAny_bind (wpAny_pure ?_)
  rw [if_neg (by decide)]
  refine wpAny_bind (Tuple_ (thn (ha.run _ pins s σ H _ I h) fun us s1 ⟨vs, H1, I1, r1, q1⟩ => ?_))
  obtain ⟨v, w, u, e1, q1⟩ := q1
  subst e1
  obtain ⟨u1, u2, u3, rfl, rv, rw', ru⟩ : ∃ u1 u2 u3, us = [u1, u2, u3] ∧ RelV v u1 ∧ RelV w u2 ∧ RelV u u3 := by
    cases r1 with
    | cons p q =>
      cases q with
      | cons p' q' =>
        cases q' with
        | cons p2 q2 =>
          cases q2
          exact ⟨_, _, _, rfl, p, p', p2⟩
  refine wpAny_newObj_type ?_ (by show 3 ≤ sizeLine; decide)
  have I2 : Inv X pins σ H1 { s1 with heap := s1.heap.push { cls := .type "tuple", data := .seq [u1, u2, u3].toArray } } := I1.kept (t' := s1.toks) fun b o e => Heap.get?_push_of_some _ e
  rw [hw]
  refine wpAny_bind (wpAny_pure ?_)
  show wpAny (model X.prog X.w) X.A (do rule "assign.swapped-stores"; let items ← unpackItems (.ref s1.heap.objs.size) 3 none; assignInOrder [fun v => bindName X.env z v, fun v => bindName X.env y v, fun v => bindName X.env x v] items.reverse; pure Flow.next) _ _ _
  refine wpAny_bind (wpAny_rule (wpAny_bind (unpackItems_tuple (items := #[u1, u2, u3]) (I.ok.hd hc) (IsTup.new s1.heap _) fun h' hx' => ?_)))
  have I3 := I2.kept (h' := h') (t' := s1.toks) fun b o e => hx' b o (Nat.ne_of_lt (Heap.lt_size e)) e
  show wpAny _ _ (assignInOrder [fun v => bindName X.env z v, fun v => bindName X.env y v, fun v => bindName X.env x v] [u3, u2, u1] >>= fun _ => pure Flow.next) _ _ _
  refine wpAny_bind (assignInOrder_cons (wpAny_bindName (store_ok I3 hN hl (.inl hz) ru (fun s2 I4 => ?_) (.inr hz))))
  refine assignInOrder_cons (wpAny_bindName (store_ok I4 hN hj (.inl hy) rw' (fun s3 I5 => ?_) (.inr hy)))
  refine assignInOrder_cons (wpAny_bindName (store_ok I5 hN hi (.inl hx) rv (fun s4 I6 => assignInOrder_nil (wpAny_pure ?_)) (.inr hx)))
  have e2 : ((σ.set l (some u)).set j (some w)).set i (some v) = ((σ.set i (some v)).set j (some w)).set l (some u) := by
    rw [List.set_comm _ _ (Ne.symm hjl), List.set_comm _ _ (Ne.symm hil), List.set_comm _ _ (Ne.symm hij)]
  rw [e2] at I6
  exact ⟨_, H1, I6, q1⟩
def dPar3 (i j l : Nat) (ta : TDA) : TDS := fun D r S => ta r S (fun ds S1 => match ds with
  | [d, e, f] => D.nx (((r.set i (some d)).set j (some e)).set l (some f)) S1
  | _ => False) (fun c S1 => D.ex c r S1)
theorem pds_par3 {i j l : Nat} {x y z : Str} {a b c : Expr} {px py pz pt : Pos} {kt k2 pt2} (hc : X.calm = true) (hN : X.N.Nodup) (ha : PDA X Z [a, b, c] ta) (hw : swappedStores [.Tuple [.Name x px, .Name y py, .Name z pz] kt pt] (.Tuple [a, b, c] k2 pt2) X.env = pure (some [x, y, z])) (hij : i ≠ j := by decide) (hil : i ≠ l := by decide) (hjl : j ≠ l := by decide)
    (hi : X.N[i]? = some x := by rfl) (hj : X.N[j]? = some y := by rfl) (hl : X.N[l]? = some z := by rfl)
    (hx : X.env.scope.names.lookup x = some .local := by rfl) (hy : X.env.scope.names.lookup y = some .local := by rfl) (hz : X.env.scope.names.lookup z = some .local := by rfl)
    (hs : swapsWithSole [.Tuple [.Name x px, .Name y py, .Name z pz] kt pt] (.Tuple [a, b, c] k2 pt2) pos.line X.env = pure false := by rfl) :
    PDS X Z (.Assign [.Tuple [.Name x px, .Name y py, .Name z pz] kt pt] (.Tuple [a, b, c] k2 pt2) pos) (dPar3 i j l ta) := fun W tk => by
  refine PS.imp (ps_par3 hc hN hi hj hl hij hil hjl hx hy hz (ha W tk) hw hs) fun D σ H h => ?_
  obtain ⟨r, S, D0, R, q, k⟩ := h
  refine ⟨r, S, _, _, R, q, fun ds S1 vs H1 e1 st1 dv1 q1 => ?_, k.exx R⟩
  match ds, q1, dv1 with
  | [d, e, f], q1, dv1 =>
    obtain ⟨v, r1, ev1, h1, h2⟩ := dvs_cons.mp dv1
    obtain ⟨w, r2, ev2, h3, h4⟩ := dvs_cons.mp h2
    obtain ⟨w3, r3, ev3, h5, h6⟩ := dvs_cons.mp h4
    rw [dvs_nil.mp h6] at ev3
    rw [ev3] at ev2
    rw [ev2] at ev1
    exact ⟨v, w, w3, ev1, k.nx _ S1 _ H1 e1 ⟨(((R.sl.mono e1.evo).set i h1).set j h3).set l h5, st1⟩ q1⟩
end

/-! ### a def's promise from its body -/
def startD (N : List Str) (ds : List D) : Env_ := ds.map some ++ List.replicate (N.length - ds.length) none
theorem sl_start {K : PySem.W.Frag} {H : Hp} {N : List Str} {ds : List D} {vs : List V} (h : DVs K H ds vs) : SL K H (startD N ds) (L2.start N vs) := by
  unfold startD L2.start
  rw [← h.len]
  refine ⟨by simp [h.len], fun i d q => ?_⟩
  by_cases hi : i < ds.length
  · rw [List.getElem?_append_left (by simpa using hi), List.getElem?_map] at q
    rw [List.getElem?_append_left (by simpa [← h.len] using hi), List.getElem?_map]
    cases e : ds[i]? with
    | none => rw [e] at q; cases q
    | some d' =>
      rw [e] at q
      cases q
      obtain ⟨v, h1, h2⟩ := h.get e
      exact ⟨v, by rw [h1]; rfl, h2⟩
  · rw [List.getElem?_append_right (by simpa using hi)] at q
    have := List.getElem?_eq_some_iff.mp q
    obtain ⟨h1, h2⟩ := this
    rw [List.getElem_replicate] at h2
    cases h2
/-- what is wanted at a def's end: less may be known -/
def fin (Q0 : QD) (E0 : XD) : EndsD := { nx := fun _ S' => ∃ S0, Sub S0 S' ∧ Q0 .non S0, rt := fun d S' => ∃ S0, Sub S0 S' ∧ Q0 d S0, ex := fun c _ S' => ∃ S0, Sub S0 S' ∧ E0 c S0 }
section
variable {P : Program} {w : World} {K : PySem.W.Frag} {mg : Str → Option Value} {base : Heap} {Z : Zt}
theorem fn_body {x qual : Str} {st : Stmt} {f : Addr} {fd : FuncData} {N ps : List Str} {L : Nat} {sp : SpD} (F : Fun K x qual st f fd) (Sc : FnScope N ps (defScope st)) (len : ∀ ds S Q E, sp ds S Q E → ds.length = ps.length) (t : TDS)
    (hd : ∀ (cdv : Value) (A : Around) (outer : List Env) (s : Shared) (H : Hp) (E : XK), Room L (A.deeper (envOfC qual (defScope st) s.heap.objs.size f cdv)) → PDSs (cxOf (L2.CX P w) P w K mg base N qual (defScope st) f cdv A outer s H E) Z (defBody st) t)
    (hb : ∀ ds S Q0 E0, sp ds S Q0 E0 → t (fin Q0 E0) (startD N ds) S) : FnOk P w K mg base (L2.CX P w) (L + 1) f fd ps (liftSp K Z sp) := by
  refine F.okX Sc (fun vs H Q E h => ?_) (fun cdv A outer s H vs Q E hr h => ?_)
  · obtain ⟨ds, S, Q0, E0, st', dv, h, _⟩ := h
    rw [← dv.len]
    exact len _ _ _ _ h
  · obtain ⟨ds, S, Q0, E0, st', dv, h, k, kE⟩ := h
    refine ⟨_, hd cdv A outer s H E hr _ (takes_of rfl rfl rfl rfl), startD N ds, S, fin Q0 E0, ⟨sl_start dv, st'⟩, hb ds S Q0 E0 h, ?_⟩
    exact ⟨fun r' S' σ' H' g R' ⟨S0, s0, q⟩ => k .non S0 .non H' (g.sub s0) (R'.st.sub s0) (dv_non.mpr rfl) q, fun d S' v H' g st dv ⟨S0, s0, q⟩ => k d S0 v H' (g.sub s0) (st.sub s0) dv q, fun _ _ _ _ _ _ z => z.elim, fun _ _ _ _ _ _ z => z.elim,
      fun c r' S' dd σ' H' g R' ⟨S0, s0, q⟩ => kE c S0 dd H' (g.sub s0) (R'.st.sub s0) q⟩
/-- without defaults -/
theorem FnD.mk0 {f : Addr} {fd : FuncData} {ps : List Str} {L : Nat} {e : Ent} (F : FnOk P w K mg base (L2.CX P w) L f fd ps (liftSp K Z e.sp)) (h : ps.length = e.ar) (hd : e.dfl = []) (b : Binds K fd ps []) : FnD P w K mg base Z L f e :=
  ⟨fd, ps, F, h, fun m hm => ⟨[], [], b, .nil, fun H => by rw [hd, List.drop_nil]; exact dvs_nil.mpr rfl⟩⟩
end
end G

set_option Elab.async false
set_option linter.all false
set_option maxRecDepth 100000
set_option maxHeartbeats 4000000
/-! GI: built-ins and methods of built-in types, by data; two clauses; enumerate, zip. -/
namespace G
open PySem PySem.Spec PyProof.Rows L2
section
variable {X : Cx} {Z : Zt} {tx : Tx} {M : List Ent} {L : Nat} {a b c e o : Expr} {es : List Expr} {te to ti : TD} {ta : TDA} {pos p apos cpos : Pos} {x m : Str}
/-! ### built-ins -/
def rAbs : RDC := fun ds S Q => match ds with
  | [.int i] => Q (.int (if i < 0 then -i else i)) S
  | _ => False
def rInt : RDC := fun ds S Q => match ds with
  | [.int i] => Q (.int i) S
  | [.bl b] => Q (.int (if b then 1 else 0)) S
  | [.str z] => ∃ n, PySem.intText? z = some n ∧ z.length ≤ 640 ∧ Q (.int n) S
  | _ => False
def rStr : RDC := fun ds S Q => match ds with
  | [.int i] => i.natAbs.log2 < 1920 ∧ Q (.str (toString i)) S
  | _ => False
def rLen : RDC := fun ds S Q => match ds with
  | [.str z] => z.length ≤ sizeLine ∧ Q (.int z.length) S
  | [.tup xs] => Q (.int xs.length) S
  | [.rol xs] => Q (.int xs.length) S
  | [.ref l] => ∃ xs, S l = some (.lst xs) ∧ Q (.int xs.length) S
  | _ => False
def rList : RDC := fun ds S Q => match ds with
  | [.tup xs] => ∀ l, S l = none → Q (.ref l) (put S l (.lst xs))
  | [.rol xs] => ∀ l, S l = none → Q (.ref l) (put S l (.lst xs))
  | [.ref p] => ∃ xs, S p = some (.lst xs) ∧ ∀ l, S l = none → Q (.ref l) (put S l (.lst xs))
  | _ => False
def rTuple : RDC := fun ds S Q => match ds with
  | [.tup xs] => Q (.tup xs) S
  | [.rol xs] => Q (.tup xs) S
  | [.ref p] => ∃ xs, S p = some (.lst xs) ∧ Q (.tup xs) S
  | _ => False
def rMax : RDC := fun ds S Q => match ds with
  | [.int i, .int j] => Q (.int (if j > i then j else i)) S
  | [.ref p] => ∃ ns : List Int, S p = some (.lst (ns.map D.int)) ∧ ns ≠ [] ∧ ∀ m, m ∈ ns → (∀ y, y ∈ ns → y ≤ m) → Q (.int m) S
  | _ => False
def rMin : RDC := fun ds S Q => match ds with
  | [.int i, .int j] => Q (.int (if j < i then j else i)) S
  | [.ref p] => ∃ ns : List Int, S p = some (.lst (ns.map D.int)) ∧ ns ≠ [] ∧ ∀ m, m ∈ ns → (∀ y, y ∈ ns → m ≤ y) → Q (.int m) S
  | _ => False
def rSum : RDC := fun ds S Q => match ds with
  | [.ref p] => ∃ ns : List Int, S p = some (.lst (ns.map D.int)) ∧ Q (.int ns.sum) S
  | _ => False
theorem one_of {K : PySem.W.Frag} {H : Hp} {d : D} {vs : List V} (h : DVs K H [d] vs) : ∃ v, vs = [v] ∧ DV K H d v := by
  obtain ⟨v, r, e, h1, h2⟩ := dvs_cons.mp h
  rw [dvs_nil.mp h2] at e
  exact ⟨v, e, h1⟩
theorem two_of {K : PySem.W.Frag} {H : Hp} {d f : D} {vs : List V} (h : DVs K H [d, f] vs) : ∃ v w, vs = [v, w] ∧ DV K H d v ∧ DV K H f w := by
  obtain ⟨v, r, e, h1, h2⟩ := dvs_cons.mp h
  obtain ⟨w, e2, h3⟩ := one_of h2
  rw [e2] at e
  exact ⟨v, w, e, h1, h3⟩
theorem cd_abs : CallD X Z (.builtin "abs") rAbs := by
  intro pins s σ H vs us Q I rv h
  obtain ⟨ds, S, Q0, st, dv, h, k⟩ := h
  match ds, h, dv with
  | [.int i], h, dv =>
    obtain ⟨v, rfl, dq⟩ := one_of dv
    rw [dv_int.mp dq] at rv
    exact call_abs pins s σ H _ us Q I rv ⟨i, rfl, k _ S _ H Go.r st (dv_int.mpr rfl) h⟩
theorem cd_int : CallD X Z (.type "int") rInt := by
  intro pins s σ H vs us Q I rv h
  obtain ⟨ds, S, Q0, st, dv, h, k⟩ := h
  match ds, h, dv with
  | [.int i], h, dv =>
    obtain ⟨v, rfl, dq⟩ := one_of dv
    rw [dv_int.mp dq] at rv
    exact call_int1 pins s σ H _ us Q I rv (.inl ⟨i, rfl, k _ S _ H Go.r st (dv_int.mpr rfl) h⟩)
  | [.bl i], h, dv =>
    obtain ⟨v, rfl, dq⟩ := one_of dv
    rw [dv_bl.mp dq] at rv
    exact call_int1 pins s σ H _ us Q I rv (.inr ⟨i, rfl, k _ S _ H Go.r st (dv_int.mpr rfl) h⟩)
  | [.str z], h, dv =>
    obtain ⟨v, rfl, dq⟩ := one_of dv
    rw [dv_str.mp dq] at rv
    obtain ⟨n, h1, h2, h3⟩ := h
    exact call_int_str pins s σ H _ us Q I rv ⟨z, n, rfl, h1, h2, k _ S _ H Go.r st (dv_int.mpr rfl) h3⟩
theorem cd_str : CallD X Z (.type "str") rStr := by
  intro pins s σ H vs us Q I rv h
  obtain ⟨ds, S, Q0, st, dv, h, k⟩ := h
  match ds, h, dv with
  | [.int i], h, dv =>
    obtain ⟨v, rfl, dq⟩ := one_of dv
    rw [dv_int.mp dq] at rv
    exact call_str_int pins s σ H _ us Q I rv ⟨i, rfl, h.1, k _ S _ H Go.r st (dv_str.mpr rfl) h.2⟩
theorem cd_len : CallD X Z (.builtin "len") rLen := by
  intro pins s σ H vs us Q I rv h
  obtain ⟨ds, S, Q0, st, dv, h, k⟩ := h
  match ds, h, dv with
  | [.str z], h, dv =>
    obtain ⟨v, rfl, dq⟩ := one_of dv
    rw [dv_str.mp dq] at rv
    exact call_len_str pins s σ H _ us Q I rv ⟨z, rfl, h.1, k _ S _ H Go.r st (dv_int.mpr rfl) h.2⟩
  | [.tup xs], h, dv =>
    obtain ⟨v, rfl, dq⟩ := one_of dv
    obtain ⟨q, ws, e1, h1, d1⟩ := dv_tup.mp dq
    rw [e1] at rv
    exact call_len_seq pins s σ H _ us Q I rv ⟨q, ws, rfl, .inr h1, by rw [← d1.len]; exact k _ S _ H Go.r st (dv_int.mpr rfl) h⟩
  | [.rol xs], h, dv =>
    obtain ⟨v, rfl, dq⟩ := one_of dv
    obtain ⟨q, ws, e1, h1, d1⟩ := dv_rol.mp dq
    rw [e1] at rv
    exact call_len_seq pins s σ H _ us Q I rv ⟨q, ws, rfl, .inl h1.sq, by rw [← d1.len]; exact k _ S _ H Go.r st (dv_int.mpr rfl) h⟩
  | [.ref l], h, dv =>
    obtain ⟨v, rfl, dq⟩ := one_of dv
    rw [dv_ref.mp dq] at rv
    obtain ⟨xs, sa, h⟩ := h
    obtain ⟨ws, h1, d1⟩ := sr_lst st sa
    exact call_len_seq pins s σ H _ us Q I rv ⟨l, ws, rfl, .inl (SqL.of h1), by rw [← d1.len]; exact k _ S _ H Go.r st (dv_int.mpr rfl) h⟩
theorem cd_list : CallD X Z (.type "list") rList := by
  intro pins s σ H vs us Q I rv h
  obtain ⟨ds, S, Q0, st, dv, h, k⟩ := h
  match ds, h, dv with
  | [.tup xs], h, dv =>
    obtain ⟨v, rfl, dq⟩ := one_of dv
    obtain ⟨q, ws, e1, h1, d1⟩ := dv_tup.mp dq
    rw [e1] at rv
    exact call_list_of pins s σ H _ us Q I rv ⟨q, ws, rfl, .inr h1, fun l hl => k _ _ _ _ (Go.made hl) (st.made (o := .lst xs) hl ⟨ws, upd_same, d1.mono (Evo.new hl)⟩) (dv_ref.mpr rfl) (h l (st.free hl))⟩
  | [.rol xs], h, dv =>
    obtain ⟨v, rfl, dq⟩ := one_of dv
    obtain ⟨q, ws, e1, h1, d1⟩ := dv_rol.mp dq
    rw [e1] at rv
    exact call_list_of pins s σ H _ us Q I rv ⟨q, ws, rfl, .inl h1.sq, fun l hl => k _ _ _ _ (Go.made hl) (st.made (o := .lst xs) hl ⟨ws, upd_same, d1.mono (Evo.new hl)⟩) (dv_ref.mpr rfl) (h l (st.free hl))⟩
  | [.ref r], h, dv =>
    obtain ⟨v, rfl, dq⟩ := one_of dv
    rw [dv_ref.mp dq] at rv
    obtain ⟨xs, sa, h⟩ := h
    obtain ⟨ws, h1, d1⟩ := sr_lst st sa
    exact call_list_of pins s σ H _ us Q I rv ⟨r, ws, rfl, .inl (SqL.of h1), fun l hl => k _ _ _ _ (Go.made hl) (st.made (o := .lst xs) hl ⟨ws, upd_same, d1.mono (Evo.new hl)⟩) (dv_ref.mpr rfl) (h l (st.free hl))⟩
theorem cd_tuple : CallD X Z (.type "tuple") rTuple := by
  intro pins s σ H vs us Q I rv h
  obtain ⟨ds, S, Q0, st, dv, h, k⟩ := h
  match ds, h, dv with
  | [.tup xs], h, dv =>
    obtain ⟨v, rfl, dq⟩ := one_of dv
    obtain ⟨q, ws, e1, h1, d1⟩ := dv_tup.mp dq
    rw [e1] at rv
    exact call_tuple_of pins s σ H _ us Q I rv ⟨q, ws, rfl, .inr ⟨h1, k _ S _ H Go.r st (dv_tup.mpr ⟨q, ws, rfl, h1, d1⟩) h⟩⟩
  | [.rol xs], h, dv =>
    obtain ⟨v, rfl, dq⟩ := one_of dv
    obtain ⟨q, ws, e1, h1, d1⟩ := dv_rol.mp dq
    rw [e1] at rv
    exact call_tuple_of pins s σ H _ us Q I rv ⟨q, ws, rfl, .inl ⟨h1.sq, fun l hl => k _ S _ _ (Go.new hl) (st.new hl) (dv_tup.mpr ⟨l, ws, rfl, .inl (.inl upd_same), d1.mono (Evo.new hl)⟩) h⟩⟩
  | [.ref r], h, dv =>
    obtain ⟨v, rfl, dq⟩ := one_of dv
    rw [dv_ref.mp dq] at rv
    obtain ⟨xs, sa, h⟩ := h
    obtain ⟨ws, h1, d1⟩ := sr_lst st sa
    exact call_tuple_of pins s σ H _ us Q I rv ⟨r, ws, rfl, .inl ⟨SqL.of h1, fun l hl => k _ S _ _ (Go.new hl) (st.new hl) (dv_tup.mpr ⟨l, ws, rfl, .inl (.inl upd_same), d1.mono (Evo.new hl)⟩) h⟩⟩
theorem cd_max (hc : X.calm = true) : CallD X Z (.builtin "max") rMax := by
  intro pins s σ H vs us Q I rv h
  obtain ⟨ds, S, Q0, st, dv, h, k⟩ := h
  match ds, h, dv with
  | [.int i, .int j], h, dv =>
    obtain ⟨v, w, rfl, d1, d2⟩ := two_of dv
    rw [dv_int.mp d1, dv_int.mp d2] at rv
    exact call_max2 hc pins s σ H _ us Q I rv ⟨i, j, rfl, k _ S _ H Go.r st (dv_int.mpr rfl) h⟩
  | [.ref r], h, dv =>
    obtain ⟨v, rfl, dq⟩ := one_of dv
    rw [dv_ref.mp dq] at rv
    obtain ⟨ns, sa, hne, h⟩ := h
    obtain ⟨ws, h1, d1⟩ := sr_lst st sa
    rw [dvs_intsE d1] at h1
    exact cr_max hc pins s σ H _ us Q I rv ⟨r, ns, rfl, SqL.of h1, List.length_pos_iff.mpr hne, fun m hm hy => k _ S _ H Go.r st (dv_int.mpr rfl) (h m hm hy)⟩
theorem cd_min (hc : X.calm = true) : CallD X Z (.builtin "min") rMin := by
  intro pins s σ H vs us Q I rv h
  obtain ⟨ds, S, Q0, st, dv, h, k⟩ := h
  match ds, h, dv with
  | [.int i, .int j], h, dv =>
    obtain ⟨v, w, rfl, d1, d2⟩ := two_of dv
    rw [dv_int.mp d1, dv_int.mp d2] at rv
    exact call_min2 hc pins s σ H _ us Q I rv ⟨i, j, rfl, k _ S _ H Go.r st (dv_int.mpr rfl) h⟩
  | [.ref r], h, dv =>
    obtain ⟨v, rfl, dq⟩ := one_of dv
    rw [dv_ref.mp dq] at rv
    obtain ⟨ns, sa, hne, h⟩ := h
    obtain ⟨ws, h1, d1⟩ := sr_lst st sa
    rw [dvs_intsE d1] at h1
    exact cr_min hc pins s σ H _ us Q I rv ⟨r, ns, rfl, SqL.of h1, List.length_pos_iff.mpr hne, fun m hm hy => k _ S _ H Go.r st (dv_int.mpr rfl) (h m hm hy)⟩
theorem cd_sum (hc : X.calm = true) : CallD X Z (.builtin "sum") rSum := by
  intro pins s σ H vs us Q I rv h
  obtain ⟨ds, S, Q0, st, dv, h, k⟩ := h
  match ds, h, dv with
  | [.ref r], h, dv =>
    obtain ⟨v, rfl, dq⟩ := one_of dv
    rw [dv_ref.mp dq] at rv
    obtain ⟨ns, sa, h⟩ := h
    obtain ⟨ws, h1, d1⟩ := sr_lst st sa
    rw [dvs_intsE d1] at h1
    exact cr_sum hc pins s σ H _ us Q I rv ⟨r, ns, rfl, SqL.of h1, k _ S _ H Go.r st (dv_int.mpr rfl) h⟩
/-- list(range(a, b)) -/
def dLRg2 (ta tb : TD) : TD := fun r S Q E => ta r S (fun x S1 => tb r S1 (fun y S2 => match x, y with
  | .int i, .int j => RgOk i ∧ RgOk j ∧ j - i ≤ 1000000 ∧ ∀ l, S2 l = none → Q (.ref l) (put S2 l (.lst (rngD i (j - i).toNat)))
  | _, _ => False) E) E
theorem dvs_rng {K : PySem.W.Frag} {H : Hp} (i : Int) (n : Nat) : DVs K H (rngD i n) ((List.range n).map fun k => V.int (i + (k : Nat))) := by
  have e : rngD i n = ((List.range n).map fun k => i + ((k : Nat) : Int)).map D.int := by
    unfold rngD
    rw [List.map_map]
    rfl
  rw [e]
  have e2 : ((List.range n).map fun k => V.int (i + (k : Nat))) = ((List.range n).map fun k => i + ((k : Nat) : Int)).map V.int := by
    rw [List.map_map]
    rfl
  rw [e2]
  exact dvs_ints _

/-! ### methods of texts and lists -/
abbrev RDM := D → List D → DS → QD → Prop
def liftM (K : PySem.W.Frag) (Z : Zt) (r : RDM) : V → List V → Hp → VK → Prop := fun v vs H Q => ∃ x ds S Q0, ST K Z S H ∧ DV K H x v ∧ DVs K H ds vs ∧ r x ds S Q0 ∧ ∀ d S' v' H', Go H S H' S' → ST K Z S' H' → DV K H' d v' → Q0 d S' → Q v' H'
def MtD (X : Cx) (Z : Zt) (id : String) (r : RDM) : Prop := MtR X id (liftM X.K Z r)
/-- o.m(..) of a text -/
def dSM (r2 : RDM) (to : TD) (ta : TDA) : TD := fun r S Q E => to r S (fun x S1 => (∃ z, x = .str z) ∧ ta r S1 (fun ds S2 => r2 x ds S2 Q) E) E
theorem lift_bm {K : PySem.W.Frag} {W : WX} {T : String} {r2 : RDM} {σ : L2.St} {H : Hp} {Q : VK} (P : D → DS → Prop) (hP : ∀ H S x v, ST K Z S H → DV K H x v → P x S → tyV K T v H)
    (h : lift K Z W (fun r S Q E => to r S (fun x S1 => P x S1 ∧ ta r S1 (fun ds S2 => r2 x ds S2 Q) E) E) σ H Q) : tBM K T (liftM K Z r2) (lift K Z W to) (liftA K Z W ta) σ H Q := by
  obtain ⟨r, S, Q0, E0, R, q, k, kE⟩ := h
  refine ⟨r, S, _, E0, R, q, fun x S1 v H1 e1 st1 dv1 q1 => ⟨hP H1 S1 x v st1 dv1 q1.1, ?_⟩, kE⟩
  exact ⟨r, S1, _, E0, R.go e1 st1, q1.2, fun ds S2 vs H2 e2 st2 dv2 q2 => ⟨x, ds, S2, Q0, st2, dv1.mono e2.evo, dv2, q2, fun d S' v' H' e' => k d S' v' H' ((e1.trans e2).trans e')⟩, fun c S' dd H' e' => kE c S' dd H' (e1.trans e')⟩
theorem pd_sm {name : Str} {id : String} {r2 : RDM} (slot : Slot "str" name id) (hty : typeOf (.builtin id) = pure (.type "method_descriptor")) (hm : MtD X Z id r2) (ho : PD X Z o to) (ha : PDA X Z (e :: es) ta)
    (hbase : attributeBase o name X.env (eval o X.env) = eval o X.env := by rfl)
    (hfew : ((backTo cpos (starEach (e :: es) X.env)).all (fun x => !x.1) && (backToKw cpos (keywordEach [] X.env)).all (fun x => x.1.isSome)
      && decide ((e :: es).length + ([] : List Keyword).length + (if ([] : List Keyword).isEmpty then 0 else 1) < 30)) = true := by rfl)
    (hline : (apos.endLine == cpos.line) = true := by rfl) (hs : starEach (e :: es) X.env = (false, eval e X.env) :: starEach es X.env := by rfl) (hplain : (backTo cpos (starEach es X.env)).any (·.1) = false := by rfl) :
    PD X Z (.Call (.Attribute o name apos) (e :: es) [] cpos) (dSM r2 to ta) := fun W tk =>
  PE.imp (pe_bm PySem.F.plainAttrs_str slot hty hm (ho W tk) (ha W tk) hbase hfew hline hs hplain) fun σ H Q h => lift_bm (T := "str") (fun x _ => ∃ z, x = D.str z) (fun H S x v _ dv hp => by
    obtain ⟨z, rfl⟩ := hp
    rw [dv_str.mp dv]
    rfl) h
/-- o.m(..) of a list -/
def dLM (r2 : RDM) (to : TD) (ta : TDA) : TD := fun r S Q E => to r S (fun x S1 => (∃ l ds, x = .ref l ∧ S1 l = some (.lst ds)) ∧ ta r S1 (fun ds S2 => r2 x ds S2 Q) E) E
theorem pd_lm {name : Str} {id : String} {r2 : RDM} (slot : Slot "list" name id) (hty : typeOf (.builtin id) = pure (.type "method_descriptor")) (hm : MtD X Z id r2) (ho : PD X Z o to) (ha : PDA X Z (e :: es) ta)
    (hbase : attributeBase o name X.env (eval o X.env) = eval o X.env := by rfl)
    (hfew : ((backTo cpos (starEach (e :: es) X.env)).all (fun x => !x.1) && (backToKw cpos (keywordEach [] X.env)).all (fun x => x.1.isSome)
      && decide ((e :: es).length + ([] : List Keyword).length + (if ([] : List Keyword).isEmpty then 0 else 1) < 30)) = true := by rfl)
    (hline : (apos.endLine == cpos.line) = true := by rfl) (hs : starEach (e :: es) X.env = (false, eval e X.env) :: starEach es X.env := by rfl) (hplain : (backTo cpos (starEach es X.env)).any (·.1) = false := by rfl) :
    PD X Z (.Call (.Attribute o name apos) (e :: es) [] cpos) (dLM r2 to ta) := fun W tk =>
  PE.imp (pe_bm PySem.F.plainAttrs_list slot hty hm (ho W tk) (ha W tk) hbase hfew hline hs hplain) fun σ H Q h => lift_bm (T := "list") (fun x S => ∃ l ds, x = D.ref l ∧ S l = some (.lst ds)) (fun H S x v st dv hp => by
    obtain ⟨l, ds, rfl, sa⟩ := hp
    rw [dv_ref.mp dv]
    obtain ⟨ws, h1, _⟩ := sr_lst st sa
    exact .inl ⟨rfl, ws, SqL.of h1⟩) h
def rPart : RDM := fun x ds S Q => match x, ds with
  | .str a, [.str b] => (b.length == 0) = false ∧ a.length ≤ sizeLine ∧ Q (.tup [.str (Txt.partition a b).1, .str (Txt.partition a b).2.1, .str (Txt.partition a b).2.2]) S
  | _, _ => False
theorem md_partition : MtD X Z "str.partition" rPart := by
  intro pins s σ H v vs u us Q I rx rv h
  obtain ⟨x, ds, S, Q0, st, dx, dv, h, k⟩ := h
  match x, ds, h, dx, dv with
  | .str a, [.str b], h, dx, dv =>
    obtain ⟨w, rfl, dw⟩ := one_of dv
    rw [dv_str.mp dx] at rx
    rw [dv_str.mp dw] at rv
    exact mt_partition pins s σ H _ _ u us Q I rx rv ⟨a, b, rfl, rfl, h.1, h.2.1, fun l hl => k _ S _ _ (Go.new hl) (st.new hl) (dv_tup.mpr ⟨l, _, rfl, .inl (.inl upd_same), DVs.cons (dv_str.mpr rfl) (DVs.cons (dv_str.mpr rfl) (DVs.cons (dv_str.mpr rfl) (dvs_nil.mpr rfl)))⟩) h.2.2⟩
def rStarts : RDM := fun x ds S Q => match x, ds with
  | .str a, [.str b] => Q (.bl (Txt.startswith a b)) S
  | _, _ => False
theorem md_startswith : MtD X Z "str.startswith" rStarts := by
  intro pins s σ H v vs u us Q I rx rv h
  obtain ⟨x, ds, S, Q0, st, dx, dv, h, k⟩ := h
  match x, ds, h, dx, dv with
  | .str a, [.str b], h, dx, dv =>
    obtain ⟨w, rfl, dw⟩ := one_of dv
    rw [dv_str.mp dx] at rx
    rw [dv_str.mp dw] at rv
    exact mt_startswith pins s σ H _ _ u us Q I rx rv ⟨a, b, rfl, rfl, k _ S _ H Go.r st (dv_bl.mpr rfl) h⟩
def rSIndex : RDM := fun x ds S Q => match x, ds with
  | .str a, [.str b] => ∃ i rest, Builtin.Str.occurrences a b 0 a.length 1 = i :: rest ∧ Q (.int (i : Nat)) S
  | _, _ => False
theorem md_sindex : MtD X Z "str.index" rSIndex := by
  intro pins s σ H v vs u us Q I rx rv h
  obtain ⟨x, ds, S, Q0, st, dx, dv, h, k⟩ := h
  match x, ds, h, dx, dv with
  | .str a, [.str b], h, dx, dv =>
    obtain ⟨w, rfl, dw⟩ := one_of dv
    rw [dv_str.mp dx] at rx
    rw [dv_str.mp dw] at rv
    obtain ⟨i, rest, h1, h2⟩ := h
    exact mt_sindex pins s σ H _ _ u us Q I rx rv ⟨a, b, i, rest, rfl, rfl, h1, k _ S _ H Go.r st (dv_int.mpr rfl) h2⟩
def rApp : RDM := fun x ds S Q => match x, ds with
  | .ref l, [d] => ∃ xs, S l = some (.lst xs) ∧ xs.length < sizeLine ∧ Q .non (put S l (.lst (xs ++ [d])))
  | _, _ => False
theorem md_append : MtD X Z "list.append" rApp := by
  intro pins s σ H v vs u us Q I rx rv h
  obtain ⟨x, ds, S, Q0, st, dx, dv, h, k⟩ := h
  match x, ds, h, dx, dv with
  | .ref l, [d], h, dx, dv =>
    obtain ⟨w, rfl, dw⟩ := one_of dv
    rw [dv_ref.mp dx] at rx
    obtain ⟨xs, sa, hz, h⟩ := h
    obtain ⟨ws, h1, d1⟩ := sr_lst st sa
    have ev : Evo H (upd H l (.lst (ws ++ [w]))) := mut_evo h1 trivial
    exact mt_append pins s σ H _ _ u us Q I rx rv ⟨l, ws, w, rfl, rfl, h1, by rw [← d1.len]; exact hz, k _ _ _ _ (Go.wrote (u' := .lst (xs ++ [d])) ev sa) (st.wrote h1 trivial ⟨_, upd_same, (d1.append (DVs.cons dw (dvs_nil.mpr rfl))).mono ev⟩) (dv_non.mpr rfl) h⟩

/-! ### in, not in -/
/-- one sign in a text; x in a list or tuple of plain data -/
def flatD : D → Bool
  | .non => true
  | .bl _ => true
  | .int _ => true
  | .str _ => true
  | _ => false
def inD (x : D) (xs : List D) : Bool := xs.any fun y => deq y x
def memIn (neg : Bool) : RD2 := fun x y S Q => match y with
  | .str z => (∃ c, x = .str ⟨#[c]⟩ ∧ Q (.bl (if neg then !decide (c ∈ z.cps.toList) else decide (c ∈ z.cps.toList))) S)
  | .tup ds => flatD x = true ∧ ds.all flatD = true ∧ Q (.bl (if neg then !inD x ds else inD x ds)) S
  | .ref l => ∃ ds, S l = some (.lst ds) ∧ flatD x = true ∧ ds.all flatD = true ∧ Q (.bl (if neg then !inD x ds else inD x ds)) S
  | _ => False
theorem flat_dv {K : PySem.W.Frag} {H : Hp} {x : D} {v : V} (h : DV K H x v) (f : flatD x = true) : flatV v = true := by
  cases x with
  | non => rw [dv_non.mp h]; rfl
  | bl b => rw [dv_bl.mp h]; rfl
  | int b => rw [dv_int.mp h]; rfl
  | str b => rw [dv_str.mp h]; rfl
  | _ => cases f
theorem eqV_dv {K : PySem.W.Frag} {H : Hp} {x y : D} {v w : V} (h : DV K H x v) (h' : DV K H y w) (f : flatD x = true) (f' : flatD y = true) : eqV v w = deq x y := by
  cases x <;> first | (cases f; done) | skip
  all_goals (cases y <;> first | (cases f'; done) | skip)
  all_goals (simp only [DV] at h h'; subst h; subst h'; simp [eqV, deq])
end
end G

set_option Elab.async false
set_option linter.all false
set_option maxRecDepth 100000
set_option maxHeartbeats 4000000
/-! GJ: in, not in; list(range(..)); two clauses; any over a text's signs; lambdas that capture nothing. -/
namespace G
open PySem PySem.Spec PyProof.Rows L2
section
variable {X : Cx} {Z : Zt} {tx : Tx} {M : List Ent} {L : Nat} {a b c e o : Expr} {es : List Expr} {te to ti ta' tb' : TD} {ta : TDA} {pos p apos cpos : Pos} {x m : Str}
/-! ### in, not in -/
theorem flat_dvs {K : PySem.W.Frag} {H : Hp} : ∀ {ds : List D} {vs : List V}, DVs K H ds vs → ds.all flatD = true → vs.all flatV = true
  | [], _, h, _ => by rw [dvs_nil.mp h]; rfl
  | d :: ds, _, h, f => by
    obtain ⟨v, r, rfl, h1, h2⟩ := dvs_cons.mp h
    rw [List.all_cons, Bool.and_eq_true] at f ⊢
    exact ⟨flat_dv h1 f.1, flat_dvs h2 f.2⟩
theorem inV_dv {K : PySem.W.Frag} {H : Hp} {x : D} {v : V} (h : DV K H x v) (f : flatD x = true) : ∀ {ds : List D} {vs : List V}, DVs K H ds vs → ds.all flatD = true → inV v vs = inD x ds
  | [], _, h', _ => by rw [dvs_nil.mp h']; rfl
  | d :: ds, _, h', f' => by
    obtain ⟨w, r, rfl, h1, h2⟩ := dvs_cons.mp h'
    rw [List.all_cons, Bool.and_eq_true] at f'
    have ih := inV_dv h f h2 f'.2
    unfold inV inD at ih ⊢
    rw [List.any_cons, List.any_cons, eqV_dv h1 h f'.1 f, ih]
theorem od_mem {neg : Bool} {op : Value → Value → Sem Value} (o1 : OpR X op (rIn X.K neg)) (o2 : OpR X op (fun x y H Q => ∃ (c : Nat) (z : Str), x = .str ⟨#[c]⟩ ∧ y = .str z ∧ Q (.bl (if neg then !decide (c ∈ z.cps.toList) else decide (c ∈ z.cps.toList))) H)) : OpD X Z op (memIn neg) := by
  intro pins s σ H v w u u' Q I rx ry h
  obtain ⟨x, y, S, Q0, st, hx, hy, h, k⟩ := h
  cases y with
  | str z =>
    obtain ⟨c, rfl, h⟩ : ∃ c, x = .str ⟨#[c]⟩ ∧ Q0 (.bl (if neg then !decide (c ∈ z.cps.toList) else decide (c ∈ z.cps.toList))) S := h
    rw [dv_str.mp hx] at rx
    rw [dv_str.mp hy] at ry
    exact o2 pins s σ H _ _ _ _ Q I rx ry ⟨c, z, rfl, rfl, k _ S _ H Go.r st (dv_bl.mpr rfl) h⟩
  | tup ds =>
    obtain ⟨f1, f2, h⟩ : flatD x = true ∧ ds.all flatD = true ∧ Q0 (.bl (if neg then !inD x ds else inD x ds)) S := h
    obtain ⟨q, vs, e1, h1, d1⟩ := dv_tup.mp hy
    rw [e1] at ry
    exact o1 pins s σ H _ _ _ _ Q I rx ry ⟨q, vs, rfl, .inr h1, flat_dv hx f1, flat_dvs d1 f2, by rw [inV_dv hx f1 d1 f2]; exact k _ S _ H Go.r st (dv_bl.mpr rfl) h⟩
  | ref l =>
    obtain ⟨ds, sa, f1, f2, h⟩ : ∃ ds, S l = some (.lst ds) ∧ flatD x = true ∧ ds.all flatD = true ∧ Q0 (.bl (if neg then !inD x ds else inD x ds)) S := h
    rw [dv_ref.mp hy] at ry
    obtain ⟨vs, h1, d1⟩ := sr_lst st sa
    exact o1 pins s σ H _ _ _ _ Q I rx ry ⟨l, vs, rfl, .inl (SqL.of h1), flat_dv hx f1, flat_dvs d1 f2, by rw [inV_dv hx f1 d1 f2]; exact k _ S _ H Go.r st (dv_bl.mpr rfl) h⟩
  | _ => exact h.elim
theorem od_in : OpD X Z (compareOp .In) (memIn false) := od_mem op_in_seq (by simpa using op_in_sign)
theorem od_notIn : OpD X Z (compareOp .NotIn) (memIn true) := od_mem op_notIn_seq (by simpa using op_notIn_sign)

/-! ### list(range(a, b)) -/
theorem pd_listRg2 {p2 pos2 : Pos} (hM : TxOk X.prog X.w X.K X.mg X.base Z tx M) (hc : X.calm = true) (i j : Nat) (hN : tx.bl i = some ("list" : Str)) (hN2 : tx.bl j = some ("range" : Str)) (hg : Gl X "list") (hg2 : Gl X "range") (ha : PD X Z a ta') (hb : PD X Z b tb')
    (na : starEach [a, b] X.env = (false, eval a X.env) :: starEach [b] X.env := by rfl) (nb : starEach [b] X.env = (false, eval b X.env) :: starEach [] X.env := by rfl) (hp : (backTo pos2 (starEach [b] X.env)).any (·.1) = false := by rfl)
    (nc : starEach [.Call (.Name "range" p2) [a, b] [] pos2] X.env = (false, eval (.Call (.Name "range" p2) [a, b] [] pos2) X.env) :: starEach [] X.env := by rfl) :
    PD X Z (.Call (.Name "list" p) [.Call (.Name "range" p2) [a, b] [] pos2] [] pos) (dLRg2 ta' tb') := fun W tk => by
  refine PE.imp (pe_listRg hc hg (hM.bl i _ hN) (prg_2 hg2 (hM.bl j _ hN2) (ha W tk) (hb W tk) na nb hp) nc) fun σ H Q h => ?_
  obtain ⟨r, S, Q0, E0, R, q, k, kE⟩ := h
  refine ⟨r, S, _, E0, R, q, fun x S1 v H1 e1 st1 dv1 q1 => ?_, kE⟩
  refine ⟨r, S1, _, E0, R.go e1 st1, q1, fun y S2 w H2 e2 st2 dv2 q2 => ?_, fun c S2 dd H2 e2 => kE c S2 dd H2 (e1.trans e2)⟩
  cases x with
  | int i =>
    cases y with
    | int j =>
      obtain ⟨r1, r2, r3, q3⟩ : RgOk i ∧ RgOk j ∧ j - i ≤ 1000000 ∧ ∀ l, S2 l = none → Q0 (.ref l) (put S2 l (.lst (rngD i (j - i).toNat))) := q2
      refine ⟨i, j, dv_int.mp dv1, dv_int.mp dv2, ⟨r1.1, r1.2, r2.1, r2.2, by omega⟩, fun l hl => ?_⟩
      exact k _ _ _ _ ((e1.trans e2).trans (Go.made hl)) (st2.made (o := .lst (rngD i (j - i).toNat)) hl ⟨_, upd_same, dvs_rng i _⟩) (dv_ref.mpr rfl) (q3 l (st2.free hl))
    | _ => exact q2.elim
  | _ => cases y <;> exact q2.elim

/-! ### two clauses -/
/-- [elt for tg in iter if .. for tg1 in iter1 if ..]: Pv ahead of the outer turns, Pw ahead of the inner ones of the i-th -/
def dLc2 (wi : TDI) (g : TDG) (tt : TDT) (wi1 : TDI) (g1 : TDG) (tt1 : TDT) (te : TD) (vs vs1 : List Nat) : TD := fun r S Q E => wi r S (fun ds ok S1 => ds.length ≤ sizeLine ∧ ∃ Pv : Nat → List D → DS → Prop, Pv 0 [] S1 ∧ (∀ i acc S, Pv i acc S → ok S) ∧
  (∀ i d acc S, ds[i]? = some d → Pv i acc S → g d (wipeD r vs) S (fun r2 S2 => tt r2 S2 (fun b S3 =>
    if b = true then wi1 r2 S3 (fun ds1 ok1 S4 => ∃ Pw : Nat → List D → DS → Prop, Pw 0 acc S4 ∧ (∀ j acc S, Pw j acc S → ok1 S ∧ acc.length < sizeLine) ∧
      (∀ j d1 acc S, ds1[j]? = some d1 → Pw j acc S → g1 d1 (wipeD r2 vs1) S (fun r5 S5 => tt1 r5 S5 (fun b S6 =>
        if b = true then te r5 S6 (fun y S7 => ∃ S0, Sub S0 S7 ∧ Pw (j + 1) (acc ++ [y]) S0) nofl else ∃ S0, Sub S0 S6 ∧ Pw (j + 1) acc S0) nofl) nofl) ∧
      ∀ acc S, Pw ds1.length acc S → ∃ S0, Sub S0 S ∧ Pv (i + 1) acc S0) nofl
    else ∃ S0, Sub S0 S3 ∧ Pv (i + 1) acc S0) nofl) nofl) ∧
  ∀ acc S l, Pv ds.length acc S → S l = none → Q (.ref l) (put S l (.lst acc))) E
variable {elt tg iter tg1 iter1 : Expr} {ifs ifs1 : List Expr} {scope : Scope} {own : List (Str × Nat)} {wi wi1 : TDI} {g g1 : TDG} {ts ts1 vs vs1 : List Nat} {tt tt1 : TDT}
theorem lift_lc2 {K : PySem.W.Frag} {W : WX} {te : TD} {σ : L2.St} {H : Hp} {Q : VK} (hts : ∀ i ∈ ts, i ∈ vs) (hts1 : ∀ i ∈ ts1, i ∈ vs1) (h : lift K Z W (dLc2 wi g tt wi1 g1 tt1 te vs vs1) σ H Q) :
    tLc2 (liftI K Z W wi) (liftG K Z (fun _ _ _ _ => False) ts g) (liftT K Z (fun _ _ _ _ => False) tt) (liftI K Z (fun _ _ _ _ => False) wi1) (liftG K Z (fun _ _ _ _ => False) ts1 g1) (liftT K Z (fun _ _ _ _ => False) tt1) (lift K Z (fun _ _ _ _ => False) te) vs vs1 σ H Q := by
  obtain ⟨r, S, Q0, E0, R, q, k, kE⟩ := h
  refine ⟨r, S, _, E0, R, q, fun ds ok S1 J H1 e1 st1 yy q1 => ?_, kE⟩
  obtain ⟨hsz, Pv, p0, pok, pt, pe⟩ := q1
  intro Dl hDl
  have nS : S1 Dl = none := st1.free hDl
  have n0 : H Dl = none := by
    cases z : H Dl with
    | none => rfl
    | some o => exact absurd hDl (e1.evo.dom Dl (by rw [z]; exact fun z => nomatch z))
  refine ⟨fun i m H' => m = ds.length - i ∧ i ≤ ds.length ∧ ∃ acc S', Turn0 K Z (wipeD r vs) (wipe σ vs) H S H1 Dl acc S' H' ∧ Pv i acc S',
    ⟨ds.length, by simp, Nat.zero_le _, [], S1, ⟨e1.trans (Go.new hDl), Evo.new hDl, st1.new hDl, ((R.sl.mono e1.evo).wipe vs).mono (Evo.new hDl), nS, [], upd_same, dvs_nil.mpr rfl⟩, p0⟩, ?_⟩
  rintro i m H' ⟨rfl, hi, acc, S', T', p'⟩
  obtain ⟨y1, y2⟩ := yy i S' H' T'.ev T'.st (pok i acc S' p')
  by_cases hlt : i < ds.length
  · have hd : ds[i]? = some ds[i] := List.getElem?_eq_getElem hlt
    obtain ⟨go, y1⟩ := y1 _ hd
    refine .inr ⟨go, fun H2 => ∃ acc2 S2, Turn0 K Z (wipeD r vs) (wipe σ vs) H S H1 Dl acc2 S2 H2 ∧ Pv (i + 1) acc2 S2, fun H2 ⟨acc2, S2, h2, h3⟩ => ⟨ds.length - (i + 1), by omega, rfl, hlt, acc2, S2, h2, h3⟩, fun x H2 y => ?_⟩
    obtain ⟨dx, g2, st2⟩ := y1 x H2 y
    have T2 := T'.step g2 st2 (Sub.refl _)
    refine ⟨ds[i], wipeD r vs, S', _, _, ⟨T2.sl, st2⟩, dx, pt i _ acc S' hd p', fun r3 S3 σ3 H3 e3 R3 kp q3 => ⟨kp.wipe hts, ?_⟩, fun _ _ _ _ _ _ z => z.elim⟩
    have T3 := T2.step e3 R3.st (Sub.refl _)
    refine ⟨r3, S3, _, _, R3, q3, fun b S4 H4 e4 st4 q4 => ?_, fun _ _ _ _ _ _ z => z.elim⟩
    have T4 := T3.step e4 st4 (Sub.refl _)
    cases b with
    | false =>
      obtain ⟨S6, hs, p6⟩ := (if_neg Bool.false_ne_true).mp q4
      exact iteF ⟨acc, S6, T3.step e4 st4 hs, p6⟩
    | true =>
      have R4 : Rel K Z r3 S4 σ3 H4 := R3.go e4 st4
      refine iteT ⟨r3, S4, _, _, R4, (if_pos rfl).mp q4, fun ds1 ok1 S5 J1 H5 e5 st5 yy1 q5 => ?_, fun _ _ _ _ _ _ z => z.elim⟩
      obtain ⟨Pw, w0, wok, wt, we⟩ := q5
      have T5 := T4.step e5 st5 (Sub.refl _)
      refine ⟨fun j k H' => k = ds1.length - j ∧ j ≤ ds1.length ∧ ∃ acc' S', Evo H5 H' ∧ Turn0 K Z (wipeD r vs) (wipe σ vs) H S H1 Dl acc' S' H' ∧ Pw j acc' S', ⟨ds1.length, by simp, Nat.zero_le _, acc, S5, Evo.refl _, T5, w0⟩, ?_⟩
      rintro j k' H6 ⟨rfl, hj, acc', S6, ev6, T6, w6⟩
      obtain ⟨z1, z2⟩ := yy1 j S6 H6 ev6 T6.st (wok j acc' S6 w6).1
      by_cases hlt1 : j < ds1.length
      · have hd1 : ds1[j]? = some ds1[j] := List.getElem?_eq_getElem hlt1
        obtain ⟨go1, z1⟩ := z1 _ hd1
        refine .inr ⟨go1, fun H7 => ∃ acc2 S2, Evo H5 H7 ∧ Turn0 K Z (wipeD r vs) (wipe σ vs) H S H1 Dl acc2 S2 H7 ∧ Pw (j + 1) acc2 S2, fun H7 ⟨acc2, S2, h1, h2, h3⟩ => ⟨ds1.length - (j + 1), by omega, rfl, hlt1, acc2, S2, h1, h2, h3⟩, fun x1 H7 y7 => ?_⟩
        obtain ⟨dx1, g7, st7⟩ := z1 x1 H7 y7
        have T7 := T6.step g7 st7 (Sub.refl _)
        have sl7 : SL K H7 (wipeD r3 vs1) (wipe σ3 vs1) := (R4.sl.mono (e5.evo.trans (ev6.trans g7.evo))).wipe vs1
        refine ⟨ds1[j], wipeD r3 vs1, S6, _, _, ⟨sl7, st7⟩, dx1, wt j _ acc' S6 hd1 w6, fun r8 S8 σ8 H8 e8 R8 kp8 q8 => ⟨kp8.wipe hts1, ?_⟩, fun _ _ _ _ _ _ z => z.elim⟩
        have T8 := T7.step e8 R8.st (Sub.refl _)
        refine ⟨r8, S8, _, _, R8, q8, fun b S9 H9 e9 st9 q9 => ?_, fun _ _ _ _ _ _ z => z.elim⟩
        have T9 := T8.step e9 st9 (Sub.refl _)
        have ev9 : Evo H5 H9 := ((ev6.trans g7.evo).trans e8.evo).trans e9.evo
        cases b with
        | true =>
          refine iteT ⟨r8, S9, _, _, R8.go e9 st9, (if_pos rfl).mp q9, fun y' Sa v Ha ea sta dva ⟨S0, hs, p6⟩ => ?_, fun _ _ _ _ _ _ z => z.elim⟩
          have Ta := T9.step ea sta hs
          obtain ⟨ws, h1, h2, Tb⟩ := Ta.app n0 dva
          exact ⟨ws, h1, by rw [h2]; exact (wok j acc' S6 w6).2, acc' ++ [y'], S0, (ev9.trans ea.evo).trans (mut_evo h1 trivial), Tb, p6⟩
        | false =>
          obtain ⟨S0, hs, p6⟩ := (if_neg Bool.false_ne_true).mp q9
          exact iteF ⟨acc', S0, ev9, T8.step e9 st9 hs, p6⟩
      · have e : j = ds1.length := by omega
        subst e
        obtain ⟨S0, hs, p6⟩ := we acc' S6 w6
        exact .inl ⟨z2 (Nat.le_refl _), acc', S0, T6.step Go.r T6.st hs, p6⟩
  · have e : i = ds.length := by omega
    subst e
    obtain ⟨ws, h1, h2⟩ := T'.at_
    refine .inl ⟨y2 (Nat.le_refl _), k (.ref Dl) (put S' Dl (.lst acc)) _ _ ⟨T'.go.evo, fun b h3 h4 => ?_, T'.go.un⟩ ⟨fun b o eb => ?_, T'.st.tb⟩ (dv_ref.mpr rfl) (pe acc S' Dl p' T'.no)⟩
    · rw [put_ne (fun z => h3 (by rw [z]; exact n0))]
      exact T'.go.fr b h3 h4
    · by_cases hb : b = Dl
      · subst hb
        rw [put_same] at eb
        cases eb
        exact ⟨ws, h1, h2⟩
      · rw [put_ne hb] at eb
        exact T'.st.sr b o eb
theorem pd_lc2 {te : TD} (hc : X.calm = true) (hN : X.N.Nodup) (hi : PDI X Z tg iter wi) (own : List (Str × Nat)) (ok : BlkOk X.N X.env.scope scope own) (hts : ∀ i ∈ ts, i ∈ own.map (·.2)) (hts1 : ∀ i ∈ ts1, i ∈ vs1) (hv : ∀ i ∈ vs1, i ∈ own.map (·.2))
    (hg : ∀ (s : Shared) (H : Hp) (C : Addr) (cl : List (Str × Addr)) (fp : List Addr), PDG (X.blk s H scope (compEnvC scope cl C X.env) fp) Z tg ts g) (ht : ∀ (s : Shared) (H : Hp) (C : Addr) (cl : List (Str × Addr)) (fp : List Addr), PDTs (X.blk s H scope (compEnvC scope cl C X.env) fp) Z ifs tt)
    (hi1 : ∀ (s : Shared) (H : Hp) (C : Addr) (cl : List (Str × Addr)) (fp : List Addr), PDI (X.blk s H scope (compEnvC scope cl C X.env) fp) Z tg1 iter1 wi1)
    (hg1 : ∀ (s : Shared) (H : Hp) (C : Addr) (cl : List (Str × Addr)) (fp : List Addr), PDG (X.blk s H scope (compEnvC scope cl C X.env) fp) Z tg1 ts1 g1) (ht1 : ∀ (s : Shared) (H : Hp) (C : Addr) (cl : List (Str × Addr)) (fp : List Addr), PDTs (X.blk s H scope (compEnvC scope cl C X.env) fp) Z ifs1 tt1)
    (he : ∀ (s : Shared) (H : Hp) (C : Addr) (cl : List (Str × Addr)) (fp : List Addr), PD (X.blk s H scope (compEnvC scope cl C X.env) fp) Z elt te) (hs : ∀ x, foldedSetIterable iter X.env x = pure x := by intro _; rfl) (hs1 : ∀ env x, foldedSetIterable iter1 env x = pure x := by intro _ _; rfl) :
    PD X Z (.ListComp elt [⟨tg, iter, ifs, 0⟩, ⟨tg1, iter1, ifs1, 0⟩] scope pos) (dLc2 wi g tt wi1 g1 tt1 te (own.map (·.2)) vs1) := fun W tk =>
  PE.imp (pe_lc2 (g := liftG X.K Z (fun _ _ _ _ => False) ts g) (tt := liftT X.K Z (fun _ _ _ _ => False) tt) (g1 := liftG X.K Z (fun _ _ _ _ => False) ts1 g1) (tt1 := liftT X.K Z (fun _ _ _ _ => False) tt1) (wi1 := liftI X.K Z (fun _ _ _ _ => False) wi1) (te := lift X.K Z (fun _ _ _ _ => False) te) hc hN (hi W tk) ok hv (fun s H C cl fp => hg s H C cl fp _ takesF) (fun s H C cl fp => ht s H C cl fp _ takesF)
    (fun s H C cl fp => hi1 s H C cl fp _ takesF) (fun s H C cl fp => hg1 s H C cl fp _ takesF) (fun s H C cl fp => ht1 s H C cl fp _ takesF) (fun s H C cl fp => he s H C cl fp _ takesF) hs hs1) fun _ _ _ h => lift_lc2 hts hts1 h
end
end G

set_option Elab.async false
set_option linter.all false
set_option maxRecDepth 100000
set_option maxHeartbeats 4000000
/-! GK: any over a text's signs, the test may read globals; lambdas that capture nothing. -/
namespace G
open PySem PySem.Spec PyProof.Rows L2 GxR
section
variable {X : Cx} {pins : List (Addr × Obj)} {σ : L2.St} {H : Hp} {s : Shared}
/-- the element: a test of the sign c; globals may be read -/
def EltG (prog : Program) (w : World) (mg : Str → Option Value) (scope : Scope) (x : Str) (elt : Expr) (pb : Nat → Bool) : Prop :=
  ∀ (cenv : Env) (A' : Around) (E' : Value → Shared → Prop) (c : Nat) (t : Tok) (s₂ : Shared) (m₂ : Str → Option Value), cenv.scope = scope → cenv.globals = mainGlobals → s₂.heap.Ns mainGlobals mg → s₂.heap.Ns cenv.locals m₂ → m₂ x = some (.str ⟨#[c]⟩ t) →
    wpAny (model prog w) A' (eval elt cenv) (fun y s₃ => y = .bool (pb c) ∧ Keeps s₂ s₃) E' s₂
/-- x not in NAME, a module's text -/
theorem elt_notIn_glob {prog : Program} {w : World} {mg : Str → Option Value} {scope : Scope} {x y : Str} {z : Str} {tz : Tok} {p1 p2 p3 : Pos} (hm : mg y = some (.str z tz)) (hk : scope.kind = .function) (hl : scope.names.lookup x = some .local) (hy : scope.names.lookup y = some .globalImplicit)
    (hd : (x == ("__debug__" : Str)) = false := by decide) (hd2 : (y == ("__debug__" : Str)) = false := by decide) :
    EltG prog w mg scope x (.Compare (.Name x p1) [.NotIn] [.Name y p2] p3) (fun c => !decide (c ∈ z.cps.toList)) := by
  intro cenv A' E' c t s₂ m₂ hs hg hN hn hv
  refine wpAny_Compare1 ?_
  refine wpAny_Name (wpAny_loadName_local (by rw [hs]; exact hk) (show cenv.scope.names.lookup x = some .local by rw [hs]; exact hl) hn hv ?_) hd
  refine Calls.Name_function_global (by rw [hs]; exact hk) (show cenv.scope.names.lookup y = some .globalImplicit by rw [hs]; exact hy) (Calls.loadGlobal_global (by rw [hg]; exact hN) hm ?_) hd2
  refine PyProof.Rows.notIn_str ⟨?_, keeps_tok _ _⟩
  rw [PySem.StrLaws.found_one z c]
theorem Ns.at_ {h h' : Heap} {d : Addr} {m : Str → Option Value} (hn : h.Ns d m) (k : ∀ o, h.get? d = some o → h'.get? d = some o) : h'.Ns d m := by
  obtain ⟨ob, es, ep, ho, r⟩ := hn
  exact ⟨ob, es, ep, k _ ho, r⟩
theorem gen_strG {c P : Addr} {elt iter : Expr} {x : Str} {px gpos : Pos} {scope : Scope} {pb : Nat → Bool} {te : TE} {k : Nat} {Q' : Value → Shared → Prop} {R : Str → Hp → Prop}
    (hr : Room k X.A) (TB : GxR.TabB X.base X.mg c P) (hcode : X.env.code = .ref c) (S : GenS X.env scope x) (hi : PE X iter te) (hel : EltG X.prog X.w X.mg scope x elt pb)
    (hs : ∀ v, genFold iter X.env v = pure v) (I : Inv X pins σ H s) (h : te σ H fun v H1 => ∃ a : Str, v = .str a ∧ TabG H1 P ∧ R a H1)
    (hQ : ∀ a H1 g s5, R a H1 → Ready X pins σ H1 P a pb g s5 → Q' (.ref g) s5) :
    wpAny (model X.prog X.w) X.A (eval (.GeneratorExp elt [⟨.Name x px, iter, [], 0⟩] scope gpos) X.env) Q' X.xe s := by
  refine wpAny_GeneratorExp_walksQ hr.hd S.co (closure_ok S.free) S.cell S.dot S.loc S.kind (by have := hr.dp; omega) ?_ hs
  refine thn (hi.run pins s σ H _ I h) fun xv s1 ⟨v, H1, I1, r1, q1⟩ => ?_
  obtain ⟨a, rfl, ⟨ps, hP, ht⟩, q1⟩ := q1
  obtain ⟨t, rfl⟩ := _root_.id r1
  refine wpAny_pyIter_str fun o St W hst => ?_
  have hPs : s1.heap.get? P = some { cls := .none, data := .fields ps } := I1.hok P _ hP
  have hPlt : P < s1.heap.objs.size := Heap.lt_size hPs
  have hP2 : (s1.heap.push o).get? P = some { cls := .none, data := .fields ps } := Heap.get?_push_of_some _ hPs
  have cd : PySem.W.CodeHd (s1.heap.push o) c P := TB.code.keeps fun b u e => Heap.get?_push_of_some _ (I1.bk b u e)
  have lim2 : (s1.heap.push o).NoLimit := I1.nolimit.push o
  have ng0 : (s1.heap.push o).Ns mainGlobals X.mg := (I1.mod.glob.keeps I1.bk).push o
  have cont : ∀ (code : Value) (h3 : Heap) (tk : Nat) (ps' : Array Value), Heap.ExtBut P (s1.heap.push o) h3 → (s1.heap.push o).objs.size ≤ h3.objs.size → h3.get? P = some { cls := .none, data := .fields ps' } → (∃ more, ps' = ps ++ more) → TriplesOk ps'.toList →
      wpAny (model X.prog X.w) X.A (builtinsFor X.env.globals X.env.builtins) (fun bi s₄ =>
        ∃ Ia fp wr n₀ Pf St₀ pz F, Value.ref s1.heap.objs.size = .ref Ia ∧ (∀ A' : Around, A'.handled = none → Walks X.prog X.w A' Ia fp wr n₀ Pf St₀) ∧ St₀ 0 s₄.heap ∧ (∀ b ∈ fp, b < s₄.heap.objs.size) ∧ s₄.heap.NoLimit ∧ cStatics ∉ wr ∧
          (∀ href : Heap, (∀ b o, s₄.heap.get? b = some o → href.get? b = some o) →
            QuietGen X.prog X.w (genEnv scope (cloFrom X.env.cells scope.names []) s₄.heap.objs.size code bi X.env) x [] elt (List.range s₄.heap.objs.size) wr Pf pz F href) ∧
          (∀ a h₅ tk gs, gs.bare = true → s₄.heap.objs.size < a → h₅.objs.size = a + 1 → (∀ b o, s₄.heap.get? b = some o → h₅.get? b = some o) →
            WalksS X.prog X.w X.A.in4 a (a :: s₄.heap.objs.size :: List.range s₄.heap.objs.size) (s₄.heap.objs.size :: wr) (GenOnlyQ s₄.gens.size) (passing pz n₀ 0).length
              (fun j y => ∃ i, (passing pz n₀ 0)[j]? = some i ∧ F i y) (GenAt X.prog X.w X.A.in4 a s₄.gens.size s₄.heap.objs.size (List.range s₄.heap.objs.size) wr pz n₀ F) →
            GenAt X.prog X.w X.A.in4 a s₄.gens.size s₄.heap.objs.size (List.range s₄.heap.objs.size) wr pz n₀ F 0 { s₄ with gens := s₄.gens.push gs, toks := tk, heap := h₅ } →
            Q' (.ref a) { s₄ with gens := s₄.gens.push gs, toks := tk, heap := h₅ })) X.xe { s1 with heap := h3, toks := tk } := by
    intro code h3 tk ps' hx hsz hP3 hmore ht3
    have ng3 : h3.Ns mainGlobals X.mg := ng0.extBut hx TB.gP
    have ngl : mainGlobals < s1.heap.objs.size := (I1.mod.glob.keeps I1.bk).lt
    obtain ⟨bm, ob, e1, e2, e3, e4, e5, e6, e7, e8⟩ := TB.bm
    have hcP : cStatics ≠ P := fun e => by
      obtain ⟨_, hns, _⟩ := I1.nolimit
      obtain ⟨o', es, ep, ho, hd, _⟩ := hns
      rw [e, hPs] at ho
      cases ho
      cases hd
    have hcl : cStatics < s1.heap.objs.size := let ⟨_, hns, _⟩ := I1.nolimit; hns.lt
    have sz2 : (s1.heap.push o).objs.size = s1.heap.objs.size + 1 := Heap.size_push ..
    have keep3 : ∀ b u, b ≠ P → s1.heap.get? b = some u → h3.get? b = some u := fun b u hb e => hx b u hb (Heap.get?_push_of_some _ e)
    refine wpAny_builtinsFor (m := X.mg) (by rw [I1.ok.glob]; exact ng3) e1 e2 (keep3 _ _ e4 (I1.bk _ _ e5)) e6 e7 e8 ?_
    refine ⟨s1.heap.objs.size, [s1.heap.objs.size], [s1.heap.objs.size], a.cps.size, SignAt a, St, (fun _ => true), (fun i y => ∃ cc, a.cps[i]? = some cc ∧ y = .bool (pb cc)), rfl, W, ?_, ?_, lim2.extBut hx hcP, ?_, ?_, ?_⟩
    · refine (W X.A hr.hd).frame _ _ _ hst fun b hb u e => hx b u (fun z => ?_) e
      rcases List.mem_cons.mp hb with z2 | z2
      · exact Nat.ne_of_lt hPlt (z.symm.trans z2)
      · cases z2
    · intro b hb
      rcases List.mem_cons.mp hb with z | z
      · rw [z]
        show s1.heap.objs.size < h3.objs.size
        omega
      · cases z
    · intro z
      rcases List.mem_cons.mp z with z | z
      · exact Nat.ne_of_lt hcl z
      · cases z
    · intro href hhref
      refine ⟨fun A' E' i v s₂ m₂ hA hPv hn hm hk => ?_, fun A' E' i v s₂ m₂ hA hPv hp hn hm hk => ?_⟩
      · simp only [List.forIn_nil]
        exact wpAny_pure ⟨rfl, keeps_refl _⟩
      · obtain ⟨cc, u, hcc, rfl⟩ := hPv
        have ng2 : s₂.heap.Ns mainGlobals X.mg := Ns.at_ (Ns.at_ ng3 (fun o e => hhref _ o e)) fun o e => hk mainGlobals (List.mem_range.mpr (Nat.lt_of_lt_of_le ngl (by show s1.heap.objs.size ≤ h3.objs.size; omega))) (fun z => by
          rcases List.mem_cons.mp z with z | z
          · exact Nat.ne_of_lt ngl z
          · cases z) o e
        exact wpAny_mono (hel _ A' E' cc u s₂ m₂ rfl I1.ok.glob ng2 hn hm) (fun y s3 r => ⟨⟨cc, hcc, r.1⟩, r.2⟩) fun _ _ e => e
    · intro g h5 tk5 gs hgb hag hsz5 hk5 W5 hat
      simp only [GxR.passing_true, List.length_range] at W5
      refine hQ a H1 g _ q1 ⟨_, _, _, _, _, W5.in4_1, hat, ?_, fun s' hm => ?_⟩
      · intro j y sj Qj Ej hy hQj
        obtain ⟨i, hij, cc, hcc, rfl⟩ := hy
        obtain ⟨hj, ej⟩ := List.getElem?_eq_some_iff.mp hij
        rw [List.getElem_range] at ej
        subst ej
        have e9 : a.cps.toList[j]? = some cc := by rw [Array.getElem?_toList]; exact hcc
        have hQ2 : Qj (trF pb a.cps.toList j) sj := hQj
        rw [trF_some e9] at hQ2
        exact wpAny_truthy_bool hQ2
      · obtain ⟨more, em⟩ := hmore
        have nwr : ∀ b u, s1.heap.get? b = some u → b ∉ h3.objs.size :: [s1.heap.objs.size] := fun b u e hb => by
          have hl := Heap.lt_size e
          rcases List.mem_cons.mp hb with z | z
          · rw [z] at hl
            have h9 : (h3.objs.size : Nat) < s1.heap.objs.size := hl
            omega
          · rcases List.mem_cons.mp z with z | z
            · rw [z] at hl
              exact Nat.lt_irrefl _ hl
            · cases z
        have J := inv_tab (more := more) (h' := s'.heap) (g' := s'.gens) (d' := s'.drawn) (t' := s'.toks) I1 hP (fun b u hb e => hm.heap b u (nwr b u e) (hk5 b u (keep3 b u hb e)))
          (by rw [← em]; exact hm.heap P _ (nwr P _ hPs) (hk5 P _ hP3)) (AllBare.movedS (I1.bare.push hgb) hm)
        rw [sh_eta s1 s' hm.os] at J
        refine ⟨upd H1 P (.tbl (ps ++ more)), ⟨⟨ps ++ more, upd_same, by rw [← em]; exact ht3⟩, fun b hb => upd_ne hb⟩, J⟩
  refine ⟨lim2, ?_⟩
  cases hf : codeAmong gpos ps.toList with
  | none =>
    refine wpAny_genexprCodeX hcode (cd.code hP2 ht) (cd.tab hP2) hf fun c' h' tk hx hge hlt hco' _ htab' _ => ?_
    obtain ⟨o1, vs, f1, tf, fl, tg, inF, tx, tt, op, _, _, _, _, _, _, _, _, _, htr, _⟩ := hco'
    exact cont _ h' tk _ hx (Nat.le_trans hge (Nat.le_of_lt hlt)) htab'.2 ⟨_, rfl⟩ htr
  | some cv =>
    refine wpAny_genexprCode_hit hcode (cd.code hP2 ht) hf ?_
    exact cont cv (s1.heap.push o) s1.toks ps (Heap.ExtBut.refl _ _) (Nat.le_refl _) hP2 ⟨#[], by simp⟩ ht
theorem pe_anyG {c P : Addr} {elt iter : Expr} {x : Str} {px p pos gpos : Pos} {scope : Scope} {pb : Nat → Bool} {te : TE} {k : Nat}
    (hr : Room k X.A) (hg : Gl X "any") (hm : X.mg "any" = none) (TB : GxR.TabB X.base X.mg c P) (hcode : X.env.code = .ref c) (S : GenS X.env scope x) (hi : PE X iter te) (hel : EltG X.prog X.w X.mg scope x elt pb)
    (hs : ∀ v, genFold iter X.env v = pure v)
    (he : starEach [.GeneratorExp elt [⟨.Name x px, iter, [], 0⟩] scope gpos] X.env = (false, eval (.GeneratorExp elt [⟨.Name x px, iter, [], 0⟩] scope gpos) X.env) :: starEach [] X.env := by rfl) :
    PE X (.Call (.Name "any" p) [.GeneratorExp elt [⟨.Name x px, iter, [], 0⟩] scope gpos] [] pos) (tAnyS P pb te) := by
  refine ⟨fun pins s σ H Q I h => ?_⟩
  refine wpAny_Call_Name_kw (ld_blt I hg hm boot_any ?_)
  refine PyProof.Rows.callWith_builtin1 ?_ he (by rfl)
  rw [he]
  show wpAny _ _ (spliced ((false, eval (.GeneratorExp elt [⟨.Name x px, iter, [], 0⟩] scope gpos) X.env) :: backTo pos (starEach [] X.env))) _ _ s
  refine Calls.spliced_cons (gen_strG (R := fun a H1 => ∀ H2, Tabbed P H1 H2 → Q (.bl (a.cps.toList.any pb)) H2) hr TB hcode S hi hel hs I h fun a H1 g s5 hR hG => ?_)
  obtain ⟨fp, wr, G, F, St, W, hst, htr, hI⟩ := hG
  refine Calls.spliced_nil ?_
  refine call_any_walkS (W.self 0 _ _ _ hst ⟨g, fp, wr, G, _, F, St, _, rfl, W, hst, htr, fun s' hmv => ?_⟩)
  obtain ⟨H2, hT, J⟩ := hI s' hmv
  refine ⟨.bl _, H2, J, rfl, ?_⟩
  rw [any_signs a pb]
  exact hR H2 hT
end
section
variable {X : Cx} {Z : Zt} {tx : Tx} {M : List Ent}
/-- a table has grown -/
theorem tabbed_st {K : PySem.W.Frag} {P : Addr} {H H' : Hp} {S : DS} (st : ST K Z S H) (ht : TabG H P) (hn : ∀ p ∈ Z.TL, p.1 ≠ P) (t : Tabbed P H H') : Go H S H' S ∧ ST K Z S H' := by
  obtain ⟨ps0, hP, _⟩ := ht
  have ne : ∀ b o, H b = some o → (∀ ps, o ≠ .tbl ps) → b ≠ P := fun b o e n z => by rw [z, hP] at e; exact n ps0 (Option.some.inj e).symm
  have ev : Evo H H' := ⟨fun a xs e => by rw [t.2 a (ne _ _ e fun ps z => by cases z)]; exact e, fun a o u e => by rw [t.2 a (ne _ _ e fun ps z => by cases z)]; exact e, fun a e => by
    by_cases h : a = P
    · obtain ⟨ps, h1, _⟩ := t.1
      rw [h, h1]
      exact fun z => nomatch z
    · rw [t.2 a h]; exact e, fun a φ e => by rw [t.2 a (ne _ _ e fun ps z => by cases z)]; exact e⟩
  refine ⟨⟨ev, fun _ _ h => h, fun b o e _ n => by rw [t.2 b (ne b o e n)]; exact e⟩, fun a o e => ?_, fun Q hQ => ?_, fun p hp => ?_⟩
  · have q := st.sr a o e
    obtain ⟨u, hu, mu⟩ := q.mut
    exact q.mono ev (t.2 a (ne a u hu fun ps z => by rw [z] at mu; exact mu))
  · by_cases h : Q = P
    · rw [h]; exact t.1
    · obtain ⟨ps, h1, h2⟩ := st.tb.1 Q hQ
      exact ⟨ps, by rw [t.2 Q h]; exact h1, h2⟩
  · obtain ⟨ps, h1, h2, h3⟩ := st.tb.2 p hp
    refine ⟨ps, by rw [t.2 _ (hn p hp)]; exact h1, h2, fun pos cv hc => ?_⟩
    obtain ⟨c, e1, e2⟩ := h3 pos cv hc
    exact ⟨c, e1, ev.ext _ _ e2⟩
/-- any(test for x in e), e a text -/
def dAnyS (pb : Nat → Bool) (te : TD) : TD := fun r S Q E => te r S (fun d S1 => match d with | .str a => Q (.bl (a.cps.toList.any pb)) S1 | _ => False) E
/-- a def's code object and its table, told by Z -/
structure TabD (X : Cx) (Z : Zt) (c P : Addr) : Prop where
  tab : GxR.TabB X.base X.mg c P
  code : X.env.code = .ref c
  mem : P ∈ Z.T
  no : ∀ p ∈ Z.TL, p.1 ≠ P
theorem pd_anyG {c P : Addr} {elt iter : Expr} {x : Str} {px p pos gpos : Pos} {scope : Scope} {pb : Nat → Bool} {te : TD} {k : Nat} (hM : TxOk X.prog X.w X.K X.mg X.base Z tx M) (i : Nat) (hN : tx.bl i = some ("any" : Str))
    (hr : Room k X.A) (hg : Gl X "any") (T : TabD X Z c P) (S : GenS X.env scope x) (hi : PD X Z iter te) (hel : EltG X.prog X.w X.mg scope x elt pb)
    (hs : ∀ v, genFold iter X.env v = pure v := by intro _; rfl)
    (he : starEach [.GeneratorExp elt [⟨.Name x px, iter, [], 0⟩] scope gpos] X.env = (false, eval (.GeneratorExp elt [⟨.Name x px, iter, [], 0⟩] scope gpos) X.env) :: starEach [] X.env := by rfl) :
    PD X Z (.Call (.Name "any" p) [.GeneratorExp elt [⟨.Name x px, iter, [], 0⟩] scope gpos] [] pos) (dAnyS pb te) := fun W tk => by
  refine PE.imp (pe_anyG hr hg (hM.bl i _ hN) T.tab T.code S (hi W tk) hel hs he) fun σ H Q h => ?_
  obtain ⟨r, S0, Q0, E0, R, q, k, kE⟩ := h
  refine ⟨r, S0, _, E0, R, q, fun d S1 v H1 e1 st1 dv1 q1 => ?_, kE⟩
  cases d with
  | str a =>
    have ht : TabG H1 P := st1.tb.1 P T.mem
    refine ⟨a, dv_str.mp dv1, ht, fun H2 t => ?_⟩
    obtain ⟨g, st2⟩ := tabbed_st st1 ht T.no t
    exact k _ S1 _ H2 (e1.trans g) st2 (dv_bl.mpr rfl) q1
  | _ => exact q1.elim
end
end G

set_option Elab.async false
set_option linter.all false
set_option maxRecDepth 100000
set_option maxHeartbeats 4000000
/-! GL: lambdas that capture nothing: made, handed on, called. -/
namespace G
open PySem PySem.Spec PyProof.Rows L2 LamX
/-- the function object of a lambda that captures nothing -/
def LamO (f : Addr) (l : LamR) (pm : Value) (c' : Addr) (ctv : Value) : HO := .ext fun h => h.get? f = some (PySem.W.kla_obj "<lambda>" l.q l.params l.body l.scope [] pm c' ctv)
/-- at f stands the j-th lambda -/
def isLam (Z : Zt) (j : Nat) : Hp → Addr → Prop := fun H f => ∃ l pm c' ctv, Z.lm j = some l ∧ H f = some (LamO f l pm c' ctv) ∧ H c' = some (CodeO c' l.q)
theorem lam_obj {P : Program} {w : World} {H : Hp} {h : Heap} {f c' : Addr} {l : LamR} {pm ctv : Value} (e : h.get? f = some (PySem.W.kla_obj "<lambda>" l.q l.params l.body l.scope [] pm c' ctv)) : ObjOk P w H h f (LamO f l pm c' ctv) :=
  ⟨e, ⟨_, e⟩, fun h1 h2 e1 k => k _ e1⟩
section
variable {X : Cx} {pins : List (Addr × Obj)} {σ : L2.St} {H : Hp} {s : Shared}
/-- the lambda is made and known: its code object is new, or found in the table -/
theorem lam_make3 {T : List (Addr × Str)} {c P : Addr} {l : LamR} {pos : Pos} {E : Value → Shared → Prop} {Q : Value → Shared → Prop} (I : Inv X pins σ H s) (TB : LamX.TabB X.base X.mg c P) (hcode : X.env.code = .ref c) (hq : X.env.qual ++ "<lambda>" = l.q)
    (hm : (P, l.q) ∈ T) (hu : ∀ p ∈ T, p.1 = P → p.2 = l.q) (hT : Tabs T H) (hdef : defaultsOf l.params X.env = ([], [])) (L0 : Lam0 l.scope) (hcl : cloFrom X.env.cells l.scope.names [] = [])
    (h : ∀ (f c' : Addr) (pm ctv : Value) (H1 : Hp) (s' : Shared), Inv X pins σ (upd H1 f (LamO f l pm c' ctv)) s' → ExtN H H1 → (∀ b, H b ≠ none → H1 b ≠ none) → (∀ b, b ≠ P → H b ≠ none → H1 b = H b) → H1 f = none → (∃ ps, H1 P = some (.tbl ps) ∧ TriplesOk ps.toList) → Tabs T H1 → H1 c' = some (CodeO c' l.q) → Q (.ref f) s') :
    wpAny (model X.prog X.w) X.A (eval (.Lambda l.params l.body l.scope pos) X.env) Q E s := by
  obtain ⟨ps, hP, ht, ha⟩ := hT _ hm
  refine PySem.W.kla_eval hdef ?_
  have hfree : ∀ y ∈ l.scope.names, y.2 = .free → ∃ c, X.env.cells.lookup y.1 = some c := fun y hy e => absurd e (L0.own y hy).2.2
  have bP : s.heap.BuiltinsAt X.mg P := TB.bm.keeps I.bk
  have hP' : s.heap.get? P = some { cls := .none, data := .fields ps } := I.hok P _ hP
  cases hc : codeAmong pos ps.toList with
  | none =>
    refine PySem.W.kla_makeFunction (mg := X.mg) (c := c) (P := P) (ps := ps) (closure_ok hfree) I.ok.glob (I.mod.glob.keeps I.bk) hcode (TB.code.keeps I.bk) hP' ht hc TB.gP bP fun c' ctv h' tk hx hge hlt hrec htb => ?_
    obtain ⟨c2, oc, vs, t, e2, hoc, hd, hv⟩ := hrec
    cases e2
    rw [hq] at hv ⊢
    rw [hcl]
    have hsz : s.heap.objs.size ≤ h'.objs.size := Nat.le_trans hge (Nat.le_of_lt hlt)
    have nC : H c' = none := I.hok.fresh hge
    have I1 := inv_table (q := l.q) (t' := tk) (more := #[rawInt pos.line, rawInt pos.col, .ref c']) (h' := h') I hP hx htb hge ⟨oc, vs, t, hoc, hd, hv⟩
    have I2 : Inv X pins σ (upd _ h'.objs.size (LamO h'.objs.size l ((X.mg "__name__").getD .none) c' ctv)) { s with heap := h'.push (PySem.W.kla_obj "<lambda>" l.q l.params l.body l.scope [] ((X.mg "__name__").getD .none) c' ctv), toks := tk } :=
      I1.laid (t' := tk) (fun b o e => Heap.get?_push_of_some _ e) (Nat.le_refl _) (lam_obj (Heap.get?_push_size _ rfl))
    have hE : ExtN H (upd (upd H P (.tbl (ps ++ #[rawInt pos.line, rawInt pos.col, .ref c']))) c' (CodeO c' l.q)) := fun b o e n => by
      rw [upd_ne (ne_of_none e nC), upd_ne (fun z => n ps (Option.some.inj (e.symm.trans (by rw [z]; exact hP))))]
      exact e
    have eL : (ps ++ #[rawInt pos.line, rawInt pos.col, .ref c']).toList = ps.toList ++ [rawInt pos.line, rawInt pos.col, .ref c'] := by simp
    have hPc : P ≠ c' := ne_of_none hP nC
    have n1 : h'.objs.size ≠ c' := Nat.ne_of_gt hlt
    have n2 : h'.objs.size ≠ P := Nat.ne_of_gt (Nat.lt_of_lt_of_le (Heap.lt_size hP') hsz)
    refine h h'.objs.size c' ((X.mg "__name__").getD .none) ctv _ _ I2 hE (fun b hb => ?_) (fun b hb hn => ?_) ?_ ⟨_, by rw [upd_ne hPc, upd_same], by rw [eL]; exact PySem.TriplesOk_snoc _ _ _ _ ht⟩ (fun p hp => ?_) upd_same
    · by_cases e1 : b = c'
      · rw [e1, upd_same]; exact fun z => nomatch z
      · rw [upd_ne e1]; exact upd_dom hb
    · cases hb2 : H b with
      | none => exact absurd hb2 hn
      | some o => rw [upd_ne (ne_of_none hb2 nC), upd_ne hb]; exact hb2
    · rw [upd_ne n1, upd_ne n2]
      exact I.hok.fresh hsz
    · by_cases hb : p.1 = P
      · rw [hu p hp hb, hb]
        refine ⟨_, by rw [upd_ne hPc, upd_same], by rw [eL]; exact PySem.TriplesOk_snoc _ _ _ _ ht, fun p' cv hcv => ?_⟩
        rw [eL] at hcv
        rcases among_app _ ht hcv with z | z
        · obtain ⟨c0, e1, e2⟩ := ha p' cv z
          exact ⟨c0, e1, hE _ _ e2 codeO_ne⟩
        · exact ⟨c', z, upd_same⟩
      · obtain ⟨ps', a1, a2, a3⟩ := hT p hp
        refine ⟨ps', by rw [upd_ne (ne_of_none a1 nC), upd_ne hb]; exact a1, a2, fun p' cv hcv => ?_⟩
        obtain ⟨c0, e1, e2⟩ := a3 p' cv hcv
        exact ⟨c0, e1, hE _ _ e2 codeO_ne⟩
  | some cv =>
    obtain ⟨c', e, hco⟩ := ha pos cv hc
    subst e
    refine PySem.W.kla_makeFunctionHit (mg := X.mg) (c := c) (P := P) (ps := ps) (closure_ok hfree) I.ok.glob (I.mod.glob.keeps I.bk) hcode (TB.code.keeps I.bk) hP' ht hc bP fun ctv h' tk hx hsz => ?_
    rw [hq, hcl]
    have I1 : Inv X pins σ H { s with heap := h', toks := tk } := I.kept fun b o e => hx b o e
    have I2 : Inv X pins σ (upd H h'.objs.size (LamO h'.objs.size l ((X.mg "__name__").getD .none) c' ctv)) { s with heap := h'.push (PySem.W.kla_obj "<lambda>" l.q l.params l.body l.scope [] ((X.mg "__name__").getD .none) c' ctv), toks := tk } :=
      I1.laid (t' := tk) (fun b o e => Heap.get?_push_of_some _ e) (Nat.le_refl _) (lam_obj (Heap.get?_push_size _ rfl))
    exact h h'.objs.size c' ((X.mg "__name__").getD .none) ctv H _ I2 (ExtN.refl H) (fun _ z => z) (fun _ _ _ => rfl) (I.hok.fresh hsz) ⟨ps, hP, ht⟩ hT hco
end
section
variable {X : Cx} {Z : Zt} {tx : Tx} {M : List Ent} {L : Nat}
def dLam (Z : Zt) (j : Nat) : TD := fun _ S Q _ => ∀ f, S f = none → Q (.ref f) (put S f (.oth (isLam Z j)))
/-- the making def's code object and its table, told by Z -/
structure TabL (X : Cx) (Z : Zt) (c P : Addr) (q : Str) : Prop where
  tab : LamX.TabB X.base X.mg c P
  code : X.env.code = .ref c
  mem : (P, q) ∈ Z.TL
  uniq : ∀ p ∈ Z.TL, p.1 = P → p.2 = q
theorem pd_lam {c P : Addr} {l : LamR} {params : Arguments} {body : Expr} {scope : Scope} {pos : Pos} (j : Nat) (hl : Z.lm j = some l) (T : TabL X Z c P l.q) (h1 : l.params = params) (h2 : l.body = body) (h3 : l.scope = scope) (hq : X.env.qual ++ "<lambda>" = l.q) (L0 : Lam0 l.scope) (hdef : defaultsOf l.params X.env = ([], []) := by rfl) (hcl : cloFrom X.env.cells l.scope.names [] = [] := by rfl) :
    PD X Z (.Lambda params body scope pos) (dLam Z j) := fun W tk => by
  subst h1 h2 h3
  refine ⟨fun pins s σ H Q I h => ?_⟩
  obtain ⟨r, S, Q0, E0, R, q, k, kE⟩ := h
  refine lam_make3 I T.tab T.code hq T.mem T.uniq R.st.tb.2 hdef L0 hcl fun f c' pm ctv H1 s' I2 eN dm sm nf hP1 T1 hco => ?_
  have nf0 : H f = none := by
    cases z : H f with
    | none => rfl
    | some o => exact absurd nf (dm f (by rw [z]; exact fun z => nomatch z))
  have ev1 : Evo H H1 := ⟨fun a xs e => eN a _ e (fun ps z => nomatch z), fun a o u e => eN a _ e (fun ps z => nomatch z), dm, fun a φ e => eN a _ e (fun ps z => nomatch z)⟩
  have st1 : ST X.K Z S H1 := by
    refine ⟨fun a o e => ?_, fun P' hP' => ?_, T1⟩
    · have q := R.st.sr a o e
      obtain ⟨u, hu, mu⟩ := q.mut
      exact q.mono ev1 ((eN a u hu fun ps z => by rw [z] at mu; exact mu).trans hu.symm)
    · by_cases e : P' = P
      · rw [e]; exact hP1
      · obtain ⟨ps, a1, a2⟩ := R.st.tb.1 P' hP'
        exact ⟨ps, by rw [sm P' e (by rw [a1]; exact fun z => nomatch z)]; exact a1, a2⟩
  have g1 : Go H S H1 S := ⟨ev1, fun _ _ h => h, fun b o e _ n => eN b o e n⟩
  have hc2 : upd H1 f (LamO f l pm c' ctv) c' = some (CodeO c' l.q) := by rw [upd_ne (ne_of_none hco nf)]; exact hco
  have st2 := st1.made (u := LamO f l pm c' ctv) (o := .oth (isLam Z j)) nf ⟨⟨_, upd_same, trivial⟩, ⟨l, pm, c', ctv, hl, upd_same, hc2⟩, fun A B ⟨l', pm', c2, ct2, a1, a2, a3⟩ e ev => ⟨l', pm', c2, ct2, a1, e.trans a2, ev.ext _ _ a3⟩⟩
  exact ⟨.ref f, _, I2, rfl, k _ _ _ _ (g1.trans (Go.made nf)) st2 (dv_ref.mpr rfl) (q f (R.st.free nf0))⟩

/-- such a lambda's body is entered -/
theorem lam_start0 {P : Program} {w : World} {K : PySem.W.Frag} {mg : Str → Option Value} {base : Heap} {A : Around} {outer : List Env} {s : Shared} {H : Hp} {E : XK} {q : Str} {scope : Scope} {f c' : Addr} {h₁ : Heap} {tk : Nat} (L0 : Lam0 scope) (e0 : Env0 P w K mg base A outer s H) (hd : A.handled = none)
    (hns : h₁.Ns s.heap.objs.size fun y => ([] : List (Str × Value)).reverse.lookup y) (kp : ∀ b o, s.heap.get? b = some o → h₁.get? b = some o) :
    Inv (lamCx0 P w K mg base A outer s H E q scope f c') [] [] H { s with heap := h₁, toks := tk } := by
  have noA : ∀ b : Addr, b ∉ (lamCx0 P w K mg base A outer s H E q scope f c').ex := fun b z => absurd (show b ∈ ([] : List Addr) from z) (by simp)
  have noC : ∀ {y c}, (lamCx0 P w K mg base A outer s H E q scope f c').env.cells.lookup y = some c → False := fun {y c} z => nomatch (show ([] : List (Str × Addr)).lookup y = some c from z)
  refine ⟨⟨e0.mod, L0.kind, rfl, rfl, Nat.le_refl _, fun y z c e1 e2 => (noC e1).elim, fun y hy => ?_, fun y c z e => (noC e).elim, fun _ => hd, Around.frames_deeper e0.frames, .inr ⟨rfl, rfl⟩, fun b z => absurd z (noA b), e0.bs, e0.bsz, fun b _ _ => noA b,
      fun b z => absurd z (noA b), e0.funs, e0.frf⟩,
    rfl, e0.bare, Un.kept kp, ⟨_, hns, fun i y v e1 e2 e3 => ?_⟩, fun y c e => (noC e).elim, e0.hok.fresh (Nat.le_refl _), fun y c e => (noC e).elim, fun q hq => absurd (show q ∈ ([] : List (Addr × Obj)) ++ [] from hq) (by simp), e0.hok.kept kp, rfl⟩
  · have hy : scope.names.lookup y = some .cell ∨ scope.names.lookup y = some .free := hy
    rcases hy with hy | hy
    · exact absurd rfl (L0.own _ (PySem.mem_of_lookup hy)).2.1
    · exact absurd rfl (L0.own _ (PySem.mem_of_lookup hy)).2.2
  · exact nomatch (show ([] : List Str)[i]? = some y from e1)
/-- x(), x a name that holds a lambda -/
def dAct (M : List Ent) (Z : Zt) (L i : Nat) : TD := fun r S Q E => ∃ (f : Addr) (j n : Nat) (e : Ent), r[i]? = some (some (.ref f)) ∧ S f = some (.oth (isLam Z j)) ∧ M[n]? = some e ∧ e.la = some j ∧ e.lv ≤ L ∧ e.sp [] S Q E
theorem pd_act {x : Str} {p1 p2 : Pos} (hM : TxOk X.prog X.w X.K X.mg X.base Z tx M) (hr : Room (L + 1) X.A) (i : Nat) (hN : X.N[i]? = some x := by rfl) (hv : Vis X.env.scope x := by first | exact Or.inl rfl | exact Or.inr (Or.inl rfl) | exact Or.inr (Or.inr rfl)) (hd : (x == ("__debug__" : Str)) = false := by decide)
    (hcd : (x == ("__classdict__" : Str)) = false := by decide) : PD X Z (.Call (.Name x p1) [] [] p2) (dAct M Z L i) := fun W tk => by
  refine ⟨fun pins s σ H Q I h => ?_⟩
  obtain ⟨r, S, Q0, E0, R, ⟨f, j, n, en, hri, sf, hj, hn, hlv, q⟩, k, kE⟩ := h
  obtain ⟨v, hσ, dv⟩ := R.sl.get i _ hri
  rw [dv_ref.mp dv] at hσ
  refine wpAny_Call_Name_kw (thn ((pe_var (pos := p1) (i := i) hN hv hd hcd).run pins s σ H (fun v H1 => v = .ref f ∧ H1 = H) I ⟨.ref f, hσ, rfl, rfl⟩) fun u s1 ⟨v, H1, I1, r1, q1⟩ => ?_)
  obtain ⟨ev, eH⟩ := q1
  subst ev
  rw [eH] at I1
  obtain rfl : u = Value.ref f := r1
  obtain ⟨_, ⟨l, pm, c', ctv, hl, hf, hc⟩, _⟩ := R.st.sr f _ sf
  obtain ⟨l', hl', LO⟩ := hM.lm j n en hj hn
  rw [hl] at hl'
  cases hl'
  have of1 : s1.heap.get? f = some (PySem.W.kla_obj "<lambda>" l.q l.params l.body l.scope [] pm c' ctv) := (I1.hok f _ hf).1
  refine PySem.W.callWith_F0 ⟨_, _, _, _, of1⟩ ?_
  obtain ⟨⟨oc, vs, t, hoc, hdc, hvc⟩, _, _⟩ := I1.hok c' _ hc
  obtain ⟨tb, htb, hsp⟩ := LO.body
  have rc : codeAny (model X.prog X.w) X.A (.call (.ref f) ⟨[], []⟩) (CR (L2.CX X.prog X.w) X.stack X.prog X.w H s1 Q (WE W σ)) s1 := by
    refine PySem.W.kla_callFunE hr.depth of1 rfl LO.sc.co LO.sc.gen rfl ⟨c', oc, vs, t, rfl, hoc, hdc, hvc⟩ ?_
    rw [LO.bind]
    refine wpAny_pure (wpAny_newFunctionEnv (fun y hy => (LO.sc.own y hy).2.1) (fun y hy => absurd hy (by simp)) (fun h₁ hns hsb => ⟨I1.nolimit.fresh _ hsb, ?_⟩) LO.sc.kind)
    show codeAny _ _ (.expr l.body (lamEnv0 l.q l.scope s1.heap.objs.size f c')) _ _
    have kp : ∀ b o, s1.heap.get? b = some o → h₁.get? b = some o := fun b o e => hsb.extBut b o (Nat.ne_of_lt (Heap.lt_size e)) (Heap.get?_push_of_some _ e)
    have J : Inv (lamCx0 X.prog X.w X.K X.mg X.base X.A X.stack s1 H (WE W σ) l.q l.scope f c') [] [] H { s1 with heap := h₁, toks := s1.toks + ([] : List (Str × Value)).length } :=
      lam_start0 LO.sc I1.env0 hr.hd hns kp
    have hb := htb X.A X.stack s1 H (WE W σ) f c' ((hr.mono (Nat.succ_le_succ hlv)).deeper _) _ (takes_of rfl rfl rfl rfl)
    refine PySem.W.kla_codeExpr (wpAny_mono (hb.run [] _ [] H Q J ⟨[], S, _, _, ⟨⟨rfl, fun i d z => by simp at z⟩, R.st⟩, hsp S Q0 E0 q, fun d S' v H' g st dv ⟨S0, s0, q⟩ => k d S0 v H' (g.sub s0) (st.sub s0) dv q, fun c S' dd H' g st ⟨S0, s0, q⟩ => kE c S0 dd H' (g.sub s0) (st.sub s0) q⟩) (fun v s' hq => ?_) fun e s' hq => hq)
    obtain ⟨w', H', J', rv, q⟩ := hq
    exact ⟨w', H', J'.os, J'.bare, J'.base, J'.hok, rv, q⟩
  refine wpAny_call (codeAny_mono rc fun r s' hq => ?_)
  cases r with
  | error e => exact passAt tk σ pins H s1 e s' I1 hq
  | ok fl =>
    cases fl with
    | ret u => exact I1.after hq
    | next => exact False.elim hq
    | brk => exact False.elim hq
    | cont => exact False.elim hq
end
end G

set_option Elab.async false
set_option linter.all false
set_option maxRecDepth 100000
set_option maxHeartbeats 4000000
/-! GM: from the top to the promises; the end with tables of any def. -/
namespace G
open PySem PySem.Spec PyProof.Rows L2
section
variable {P : Program} {w : World} {K : PySem.W.Frag} {mg : Str → Option Value} {base : Heap} {Z : Zt} {tx : Tx}
/-- the top's facts, whatever is promised: the i-th def stands at fa i -/
structure TxS (K : PySem.W.Frag) (mg : Str → Option Value) (Z : Zt) (tx : Tx) (fa : Nat → Addr) : Prop where
  fn : ∀ i x, tx.gn i = some x → mg x = some (.ref (fa i)) ∧ PySem.W.keepIn K (.ref (fa i)) = true
  mt : ∀ c m i, tx.mt c m = some i → Cls K (Z.cm c) ∧ Meth K (Z.cm c) (Z.fn m) (fa i)
  it : ∀ c x i, tx.cn c = some x → tx.it c = some i → mg x = some (.ref (Z.cm c)) ∧ Mk K (Z.cm c) (fa i)
  fl : ∀ c i, tx.fl c i = true → Cls K (Z.cm c) ∧ NoAttr K (Z.cm c) (Z.fn i)
  va : ∀ i x d, tx.va i = some (x, d) → ∃ u v, mg x = some u ∧ RelV v u ∧ ∀ H, DV K H d v
  bl : ∀ i x, tx.bl i = some x → mg x = none
  xn : ∀ i x, tx.xn i = some x → ExcOk K mg x (Z.ex i)
  sb : ∀ i j b, tx.sb i j = some b → PySem.W.exmOne K (Z.ex i) (Z.ex j) = some b
/-- what is shown of the i-th entry: a def's promise, or a lambda's -/
structure Good (P : Program) (w : World) (K : PySem.W.Frag) (mg : Str → Option Value) (base : Heap) (Z : Zt) (fa : Nat → Addr) (i : Nat) (e : Ent) : Prop where
  fn : e.la = none → FnD P w K mg base Z e.lv (fa i) e
  lm : ∀ j, e.la = some j → ∃ l, Z.lm j = some l ∧ LamOk P w K mg base Z e.lv l e.sp
def Done (P : Program) (w : World) (K : PySem.W.Frag) (mg : Str → Option Value) (base : Heap) (Z : Zt) (fa : Nat → Addr) (M : List Ent) : Prop := ∀ i e, M[i]? = some e → Good P w K mg base Z fa i e
theorem TxS.ok {fa : Nat → Addr} {M : List Ent} (S : TxS K mg Z tx fa) (G : Done P w K mg base Z fa M) : TxOk P w K mg base Z tx M where
  fn := fun i x e h he hl => ⟨fa i, (S.fn i x h).1, (S.fn i x h).2, (G i e he).fn hl⟩
  mt := fun c m i e h he hl => ⟨fa i, (S.mt c m i h).1, (S.mt c m i h).2, (G i e he).fn hl⟩
  it := fun c x i e hx h he hl => ⟨fa i, (S.it c x i hx h).1, (S.it c x i hx h).2, (G i e he).fn hl⟩
  fl := S.fl
  va := S.va
  bl := S.bl
  xn := S.xn
  sb := S.sb
  lm := fun j i e he hl => (G i e he).lm j hl
theorem Done.nil {fa : Nat → Addr} : Done P w K mg base Z fa [] := fun i e h => by simp at h
theorem Done.snoc {fa : Nat → Addr} {M : List Ent} {e : Ent} (G : Done P w K mg base Z fa M) (g : Good P w K mg base Z fa M.length e) : Done P w K mg base Z fa (M ++ [e]) := fun i e' h => by
  by_cases hi : i < M.length
  · rw [List.getElem?_append_left hi] at h
    exact G i e' h
  · rw [List.getElem?_append_right (by omega)] at h
    have hz : i = M.length := by
      have := (List.getElem?_eq_some_iff.mp h).1
      simp at this
      omega
    subst hz
    simp at h
    subst h
    exact g
theorem Good.ofFn {fa : Nat → Addr} {i : Nat} {e : Ent} (hl : e.la = none) (F : FnD P w K mg base Z e.lv (fa i) e) : Good P w K mg base Z fa i e := ⟨fun _ => F, fun j h => (nomatch h.symm.trans hl)⟩
theorem Good.ofLam {fa : Nat → Addr} {i j : Nat} {e : Ent} {l : LamR} (hl : e.la = some j) (hz : Z.lm j = some l) (F : LamOk P w K mg base Z e.lv l e.sp) : Good P w K mg base Z fa i e := ⟨fun h => (nomatch h.symm.trans hl), fun j' h => by
  rw [hl] at h
  cases h
  exact ⟨l, hz, F⟩⟩

/-- a def of the text, its code object told -/
structure FunC (K : PySem.W.Frag) (x qual : Str) (st : Stmt) (f : Addr) (fd : FuncData) (cdv dV : Value) : Prop where
  ex : ∃ (oc : Value) (od : Option Addr) (kV doc pm : Value) (an : Option Addr) (ct : Value) (osl : Array (Option Value)),
    fd = PySem.W.fnOf x qual (defArgs st) (defBody st) (defScope st) dV kV doc pm an cdv ct ∧ K.lookup f = some ⟨oc, od, .func fd, osl⟩ ∧ PySem.W.codeIn K cdv qual = true
theorem fun_mkC {x qual : Str} {st : Stmt} {f : Addr} {oc : Value} {od an : Option Addr} {osl : Array (Option Value)} {dV kV doc pm cdv ct : Value} (l : K.lookup f = some ⟨oc, od, .func (PySem.W.fnOf x qual (defArgs st) (defBody st) (defScope st) dV kV doc pm an cdv ct), osl⟩)
    (c : PySem.W.codeIn K cdv qual = true) : FunC K x qual st f (PySem.W.fnOf x qual (defArgs st) (defBody st) (defScope st) dV kV doc pm an cdv ct) cdv dV := ⟨⟨oc, od, kV, doc, pm, an, ct, osl, rfl, l, c⟩⟩
theorem fn_bodyC {x qual : Str} {st : Stmt} {f : Addr} {fd : FuncData} {cdv dV : Value} {N ps : List Str} {L : Nat} {sp : SpD} (F : FunC K x qual st f fd cdv dV) (Sc : FnScope N ps (defScope st)) (len : ∀ ds S Q E, sp ds S Q E → ds.length = ps.length) (t : TDS)
    (hd : ∀ (A : Around) (outer : List Env) (s : Shared) (H : Hp) (E : XK), Room L (A.deeper (envOfC qual (defScope st) s.heap.objs.size f cdv)) → PDSs (cxOf (L2.CX P w) P w K mg base N qual (defScope st) f cdv A outer s H E) Z (defBody st) t)
    (hb : ∀ ds S Q0 E0, sp ds S Q0 E0 → t (fin Q0 E0) (startD N ds) S) : FnOk P w K mg base (L2.CX P w) (L + 1) f fd ps (liftSp K Z sp) := by
  obtain ⟨oc, od, kV, doc, pm, an, ct, osl, rfl, lk, hcd⟩ := F.ex
  refine fn_of lk hcd Sc (fun vs H Q E h => ?_) (fun A outer s H vs Q E hr h => ?_)
  · obtain ⟨ds, S, Q0, E0, st', dv, h, _⟩ := h
    rw [← dv.len]
    exact len _ _ _ _ h
  · obtain ⟨ds, S, Q0, E0, st', dv, h, k, kE⟩ := h
    refine ⟨_, hd A outer s H E hr _ (takes_of rfl rfl rfl rfl), startD N ds, S, fin Q0 E0, ⟨sl_start dv, st'⟩, hb ds S Q0 E0 h, ?_⟩
    exact ⟨fun r' S' σ' H' g R' ⟨S0, s0, q⟩ => k .non S0 .non H' (g.sub s0) (R'.st.sub s0) (dv_non.mpr rfl) q, fun d S' v H' g st dv ⟨S0, s0, q⟩ => k d S0 v H' (g.sub s0) (st.sub s0) dv q, fun _ _ _ _ _ _ z => z.elim, fun _ _ _ _ _ _ z => z.elim,
      fun c r' S' dd σ' H' g R' ⟨S0, s0, q⟩ => kE c S0 dd H' (g.sub s0) (R'.st.sub s0) q⟩
theorem FunC.binds {x qual : Str} {st : Stmt} {f : Addr} {fd : FuncData} {cdv : Value} {ps : List Str} (F : FunC K x qual st f fd cdv .none)
    (h : ∀ (kV doc pm : Value) (an : Option Addr) (cdv ct : Value) (us : List Value), us.length = ps.length → bindArgs (PySem.W.fnOf x qual (defArgs st) (defBody st) (defScope st) .none kV doc pm an cdv ct) ⟨us, []⟩ = pure (ps.zip us)) : Binds K fd ps [] := by
  obtain ⟨oc, od, kV, doc, pm, an, ct, osl, rfl, lk, hcd⟩ := F.ex
  exact .all (h kV doc pm an cdv ct)
end
/-! ### the text by places -/
def asgVal : Stmt → Expr
  | .Assign _ v _ => v
  | _ => .Constant .none 0 ⟨0, 0, 0, 0⟩
def lstAt : Expr → Nat → Expr
  | .List es _, j => es.getD j (.Constant .none 0 ⟨0, 0, 0, 0⟩)
  | _, _ => .Constant .none 0 ⟨0, 0, 0, 0⟩
def noArgs : Arguments := { posonlyargs := [], args := [], vararg := none, kwonlyargs := [], kw_defaults := [], kwarg := none, defaults := [] }
def lamOf (q : Str) : Expr → LamR
  | .Lambda p b s _ => ⟨q, p, b, s⟩
  | e => ⟨q, noArgs, e, { kind := .function, names := [], isGenerator := false, isCoroutine := false }⟩
/-- attribute names by number, all different -/
def fnOf' (l : List Str) (i : Nat) : Str := match l[i]? with
  | some x => x
  | none => ⟨Array.replicate (i + 100) 126⟩
theorem fnOf'_inj {l : List Str} (h : l.Nodup) (h2 : ∀ x ∈ l, x.cps.size < 100) (i j : Nat) (e : fnOf' l i = fnOf' l j) : i = j := by
  unfold fnOf' at e
  cases hi : l[i]? with
  | some x =>
    rw [hi] at e
    cases hj : l[j]? with
    | some y =>
      rw [hj] at e
      have e : x = y := e
      subst e
      obtain ⟨h3, h4⟩ := List.getElem?_eq_some_iff.mp hi
      obtain ⟨h5, h6⟩ := List.getElem?_eq_some_iff.mp hj
      exact (List.getElem_inj h).mp (h4.trans h6.symm)
    | none =>
      rw [hj] at e
      have e : x = (⟨Array.replicate (j + 100) 126⟩ : Str) := e
      have := h2 x (List.mem_of_getElem? hi)
      rw [e] at this
      simp at this
      omega
  | none =>
    rw [hi] at e
    cases hj : l[j]? with
    | some y =>
      rw [hj] at e
      have e : (⟨Array.replicate (i + 100) 126⟩ : Str) = y := e
      have := h2 y (List.mem_of_getElem? hj)
      rw [← e] at this
      simp at this
      omega
    | none =>
      rw [hj] at e
      have e : (⟨Array.replicate (i + 100) 126⟩ : Str) = ⟨Array.replicate (j + 100) 126⟩ := e
      have := congrArg (fun z : Str => z.cps.size) e
      simp at this
      exact this
theorem hu64 {A : Around} {k : Nat} (hr : Room k A) : A.units + 64 < cLine := by
  have := hr.un
  omega
/-- the end: what is known of the top, all of it -/
theorem walk_all {l : PySem.W.OpenLaw} {n k : Nat} {q : Program} {loose : List Str} {XP : (Str → Option Value) → Heap → Prop} {YP : World → Heap → Prop} {d : DefRec} {K : Params → PySem.W.Frag} {CX : World → CXT} {x : Str}
    (hn : l.most = some n) (hn2 : n ≤ sizeLine) (hdf : d.params.defaults = []) (hr : Room k callerA) (hY : ∀ (w : World) (h : Heap), YP w h → (K w.params).In h)
    (F : ∀ (w : World) (mg mb : Str → Option Value) (mean : ExcName → Option Value) (fa : Addr) (h : Heap), YP w h → (K w.params).In h → Top q (PySem.W.looseW q loose) mean mg mb h → mg d.name = some (.ref fa) → LamX.LawAtS l w (K w.params) (CX w) k n x mg fa h)
    (hCX : ∀ (w : World) (H : Hp) (s : Shared) (e : Value) (s' : Shared), CX w [] H s (fun _ _ _ => False) e s' → False) :
    PySem.W.WalkO q loose XP YP l.row.toRowW d [] (fun f vs => PySem.call f vs) := by
  refine Att.attach_callB hn hdf fun w s₀ s₁ mg mb fa o pm cd doc a vs ns G Y ho hd hcd hmg hobj hints hlen hbits hg => ?_
  have KX := hY w _ Y
  obtain ⟨fd, cs, sp, hT, nT, C, hb, hsp, hF⟩ := F w mg mb _ fa _ Y KX G.T hmg
  exact LamX.law_callTs KX G.T.g G.T.b G.T.builtins G.T.nolimit hg hT nT C G.T.bmain hobj hints (Nat.le_trans hlen hn2) hr hF hb (fun H hH hS => hsp H a ns hlen hbits hH hS) fun H e s' => hCX w H s₁ e s'
/-- the table of a def of the top -/
theorem tab_ofTop {q : Program} {loose : List Str} {mean : ExcName → Option Value} {mg mb : Str → Option Value} {h : Heap} {K : PySem.W.Frag} {x : Str} {f c P : Addr} {fd : FuncData} {oc e : Value} {od dd : Option Addr} {osl sl : Array (Option Value)} {vs : Array Value} (T : Top q loose mean mg mb h) (X : K.In h) (hrec : ((recsOf q).any fun e => e.name == x) = true)
    (hm : mg x = some (.ref f)) (l : K.lookup f = some ⟨oc, od, .func fd, osl⟩) (hc : fd.code = .ref c) (lc : K.lookup c = some ⟨e, dd, .fields vs, sl⟩) (lp : vs[11]? = some (.ref P)) : PySem.W.CodeHd h c P ∧ h.get? P = some { cls := .none, data := .fields #[] } := by
  obtain ⟨dL, hmem, hn1⟩ := List.any_eq_true.mp hrec
  have hn2 : dL.name = x := beq_iff_eq.mp hn1
  obtain ⟨a', o', fd', c', P', h1, h2, h3, h4, h5, h6⟩ := T.tab dL hmem
  rw [hn2, hm] at h1
  cases h1
  have g1 := X _ _ l
  rw [g1] at h2
  cases h2
  cases h3
  rw [hc] at h4
  cases h4
  have h6' := h6
  obtain ⟨⟨oc, vc, e1, _, e3, e4⟩, hP⟩ := h6
  have g2 := X _ _ lc
  rw [g2] at e1
  cases e1
  cases e3
  rw [lp] at e4
  cases e4
  exact ⟨PySem.W.CodeHd.of h5 h6', hP⟩
/-- the script: a list of whole numbers -/
def IsScript (S : DS) (x : D) (ns : List Int) : Prop := x = .rol (ns.map D.int) ∨ ∃ a, x = .ref a ∧ S a = some (.lst (ns.map D.int))
theorem slScript {S : DS} {x : D} {ns : List Int} {lo hi : Option Int} {Q : QD} (h : IsScript S x ns) (k : ∀ l, S l = none → Q (.ref l) (put S l (.lst (G.cutD (ns.map D.int) lo hi)))) : slD x lo hi S Q := by
  rcases h with rfl | ⟨a, rfl, h⟩
  · exact k
  · exact ⟨_, h, k⟩
/-- from the law's start -/
theorem start_sp {K : PySem.W.Frag} {Z : Zt} {H : Hp} {a : Addr} {ns : List Int} {sp : SpD} (hT : ∀ P ∈ Z.T, H P = some (.tbl #[])) (hL : ∀ p ∈ Z.TL, H p.1 = some (.tbl #[])) (hS : SqL K H a (ns.map V.int)) (h : ∀ S x (Q : QD) E, IsScript S x ns → (∀ S, Q (.bl true) S) → sp [x] S Q E) :
    liftSp K Z sp [.ref a] H (fun v _ => v = .bl true) fun _ _ _ => False := by
  have tb : TB Z H := ⟨fun P hP => ⟨#[], hT P hP, True.intro⟩, fun p hp => LamX.TabS.nil (hL p hp)⟩
  have fin : ∀ (x : D) (S : DS), ST K Z S H → DV K H x (.ref a) → IsScript S x ns → liftSp K Z sp [.ref a] H (fun v _ => v = .bl true) fun _ _ _ => False := fun x S st dv hx =>
    ⟨[x], S, fun d _ => d = .bl true, fun _ _ => False, st, DVs.cons dv (dvs_nil.mpr rfl), h S x _ _ hx fun _ => rfl, fun d S' v H' _ _ dv hd => by rw [hd] at dv; exact dv_bl.mp dv, fun _ _ _ _ _ _ z => z⟩
  rcases hS with (h1 | ⟨o, h1⟩) | h1
  · refine fin (.ref a) (put (fun _ => none) a (.lst (ns.map D.int))) ⟨fun b o e => ?_, tb⟩ (dv_ref.mpr rfl) (.inr ⟨a, rfl, put_same⟩)
    by_cases hb : b = a
    · subst hb
      rw [put_same] at e
      cases e
      exact ⟨_, h1, dvs_ints ns⟩
    · rw [put_ne hb] at e
      cases e
  · exact fin (.rol (ns.map D.int)) (fun _ => none) ⟨fun b o e => (nomatch e), tb⟩ (dv_rol.mpr ⟨a, _, rfl, .inl ⟨o, h1⟩, dvs_ints ns⟩) (.inl rfl)
  · exact fin (.rol (ns.map D.int)) (fun _ => none) ⟨fun b o e => (nomatch e), tb⟩ (dv_rol.mpr ⟨a, _, rfl, .inr h1, dvs_ints ns⟩) (.inl rfl)
/-- an error of the class at S is what «except S» names -/
theorem exm_of {K : PySem.W.Frag} {C S : Addr} {b : Bool} (h1 : PySem.W.subIn K (.ref S) (.type "BaseException") = some true) (h2 : PySem.W.isClsIn K S = true) (h3 : PySem.W.typeIn K (.ref S) = some (.type "type")) (h4 : PySem.W.subIn K (.ref C) (.ref S) = some b) :
    PySem.W.exmOne K (.ref C) (.ref S) = some b := by
  have e1 : (PySem.W.subIn K (.ref S) (.type "BaseException") == some true) = true := by rw [h1] <;> rfl
  have e2 : ((PySem.W.clsIn K S).isSome && PySem.W.typeIn K (.ref S) == some (.type "type")) = true := by
    have h2' : (PySem.W.clsIn K S).isSome = true := h2
    rw [h2', h3] <;> rfl
  unfold PySem.W.exmOne
  rw [if_pos e1]
  unfold PySem.W.kitCls
  first
    | (rw [if_pos e2]; exact h4)
    | (simp only [e2, if_true]; exact h4)
end G

set_option Elab.async false
set_option linter.all false
set_option maxRecDepth 100000
set_option maxHeartbeats 4000000
/-! GT: plain facts about the texts of whole numbers. -/
namespace G
open PySem PySem.NumText
/-- the signs of a number's text -/
def natD (n : Nat) : List Nat := (Nat.toDigits 10 n).map (fun c : Char => c.toNat)
theorem natD_small {n : Nat} (h : n < 10) : natD n = [48 + n] := by
  unfold natD
  rw [Nat.toDigits_of_lt_base h]
  have : ∀ d : Nat, d < 10 → [Nat.digitChar d].map (fun c : Char => c.toNat) = [48 + d] := by decide
  exact this n h
theorem natD_step {n d : Nat} (h : 0 < n) (hd : d < 10) : natD (10 * n + d) = natD n ++ [48 + d] := by
  unfold natD
  rw [← Nat.toDigits_append_toDigits (by decide) h hd, List.map_append]
  have := natD_small hd
  unfold natD at this
  rw [this]
theorem natD_ind {P : Nat → Prop} (h0 : ∀ n, n < 10 → P n) (h1 : ∀ n d, 0 < n → d < 10 → P n → P (10 * n + d)) : ∀ n, P n := by
  intro n
  induction n using Nat.strongRecOn with
  | _ n ih =>
    by_cases h : n < 10
    · exact h0 n h
    · have e : 10 * (n / 10) + n % 10 = n := Nat.div_add_mod n 10
      rw [← e]
      exact h1 _ _ (by omega) (by omega) (ih _ (by omega))
theorem natD_digits (n : Nat) : AllDigits (natD n) := by
  refine natD_ind (P := fun n => AllDigits (natD n)) (fun n h => ?_) (fun n d h hd ih => ?_) n
  · rw [natD_small h]
    intro c hc
    have := List.mem_singleton.mp hc
    omega
  · rw [natD_step h hd]
    intro c hc
    rcases List.mem_append.mp hc with q | q
    · exact ih c q
    · have := List.mem_singleton.mp q
      omega
theorem natD_val (n : Nat) : digitsVal (natD n) = n := by
  refine natD_ind (P := fun n => digitsVal (natD n) = n) (fun n h => ?_) (fun n d h hd ih => ?_) n
  · rw [natD_small h]
    show 0 * 10 + (48 + n - 48) = n
    omega
  · rw [natD_step h hd, digitsVal_snoc, ih]
    omega
theorem natD_ne (n : Nat) : natD n ≠ [] := by
  by_cases h : n < 10
  · rw [natD_small h]; simp
  · have e : 10 * (n / 10) + n % 10 = n := Nat.div_add_mod n 10
    rw [← e, natD_step (by omega) (by omega)]
    simp
theorem natD_head (n : Nat) : 0 < n → ∃ c r, natD n = c :: r ∧ 49 ≤ c ∧ c ≤ 57 := by
  refine natD_ind (P := fun n => 0 < n → ∃ c r, natD n = c :: r ∧ 49 ≤ c ∧ c ≤ 57) (fun n h hp => ?_) (fun n d h hd ih _ => ?_) n
  · exact ⟨48 + n, [], natD_small h, by omega, by omega⟩
  · obtain ⟨c, r, e, h1, h2⟩ := ih h
    exact ⟨c, r ++ [48 + d], by rw [natD_step h hd, e]; rfl, h1, h2⟩
theorem natD_len (k : Nat) : ∀ n, n < 10 ^ (k + 1) → (natD n).length ≤ k + 1 := by
  induction k with
  | zero =>
    intro n h
    rw [natD_small (by simpa using h)]
    simp
  | succ k ih =>
    intro n h
    by_cases hn : n < 10
    · rw [natD_small hn]; simp
    · have e : 10 * (n / 10) + n % 10 = n := Nat.div_add_mod n 10
      rw [← e, natD_step (by omega) (by omega), List.length_append]
      have h2 : n / 10 < 10 ^ (k + 1) := by
        rw [Nat.pow_succ] at h
        omega
      have := ih _ h2
      simp
      omega
/-- n has k + 1 digits at least -/
theorem natD_long (k : Nat) : ∀ n, 10 ^ k ≤ n → k < (natD n).length := by
  induction k with
  | zero =>
    intro n h
    have := natD_ne n
    exact List.length_pos_iff.mpr this
  | succ k ih =>
    intro n h
    have h1 : 10 ^ k * 10 = 10 ^ (k + 1) := (Nat.pow_succ ..).symm
    have hp : 0 < 10 ^ k := Nat.pow_pos (by decide)
    have e : 10 * (n / 10) + n % 10 = n := Nat.div_add_mod n 10
    rw [← e, natD_step (by omega) (by omega), List.length_append]
    have := ih (n / 10) (by omega)
    simp
    omega
theorem toString_nat (n : Nat) : (Str.ofString (toString (n : Int))).cps.toList = natD n := PySem.W.KIN.signs_num n
theorem str_ext {a b : Str} (h : a.cps.toList = b.cps.toList) : a = b := by
  cases a; cases b
  congr 1
  exact Array.ext' h
theorem toString_nat' (n : Nat) : (Str.ofString (toString (n : Int))) = ⟨(natD n).toArray⟩ := str_ext (by rw [toString_nat])
theorem toString_int {i : Int} (h : 0 ≤ i) : (Str.ofString (toString i)) = ⟨(natD i.toNat).toArray⟩ := by
  have e : i = ((i.toNat : Nat) : Int) := by omega
  rw [e]
  exact toString_nat' _
theorem log2_of_lt {i : Int} {k : Nat} (h : i.natAbs < 2 ^ k) (h0 : 0 < k) : i.natAbs.log2 < k := by
  by_cases hz : i.natAbs = 0
  · rw [hz]; simpa using h0
  · exact (Nat.log2_lt hz).mpr h
theorem len_mk (l : List Nat) : (⟨l.toArray⟩ : Str).length = l.length := by simp [Str.length]
theorem cat_mk (a b : List Nat) : (⟨a.toArray⟩ : Str) ++ ⟨b.toArray⟩ = ⟨(a ++ b).toArray⟩ := SX.S_cat a b
theorem mk_inj {a b : List Nat} : ((⟨a.toArray⟩ : Str) = ⟨b.toArray⟩) ↔ a = b := ⟨fun h => SX.S_inj h, fun h => by rw [h]⟩
def genB (scope : Scope) (x : Str) : Bool := decide (scope.kind = .function) && !scope.isCoroutine && scope.names.all (fun y => !decide (y.2 = .cell) && !decide (y.2 = .free)) && decide (scope.names.lookup (".0" : Str) = some NameKind.local) && decide (scope.names.lookup x = some NameKind.local)
theorem genS_by {env : Env} {scope : Scope} {x : Str} (h : genB scope x = true) : GxR.GenS env scope x := by
  unfold genB at h
  simp only [Bool.and_eq_true, Bool.not_eq_true', decide_eq_true_eq, decide_eq_false_iff_not, List.all_eq_true] at h
  obtain ⟨⟨⟨⟨h1, h2⟩, h3⟩, h4⟩, h5⟩ := h
  exact ⟨h1, h2, fun y hy => (h3 y hy).1, h4, h5, fun y hy e => absurd e (h3 y hy).2⟩
theorem bt_isinstance : bootBuiltins "isinstance" = some (.builtin "isinstance") := by decide +kernel
theorem bt_bool : bootBuiltins "bool" = some (.type "bool") := by decide +kernel
theorem bt_abs : bootBuiltins "abs" = some (.builtin "abs") := by decide +kernel
theorem bt_len : bootBuiltins "len" = some (.builtin "len") := by decide +kernel
theorem bt_max : bootBuiltins "max" = some (.builtin "max") := by decide +kernel
theorem bt_min : bootBuiltins "min" = some (.builtin "min") := by decide +kernel
theorem bt_sum : bootBuiltins "sum" = some (.builtin "sum") := by decide +kernel
theorem bt_int : bootBuiltins "int" = some (.type "int") := by decide +kernel
theorem bt_str : bootBuiltins "str" = some (.type "str") := by decide +kernel
theorem bt_list : bootBuiltins "list" = some (.type "list") := by decide +kernel
theorem bt_tuple : bootBuiltins "tuple" = some (.type "tuple") := by decide +kernel
theorem _root_.PySem.NumText.intText_digits' {c : Nat} {r : List Nat} (h : AllDigits (c :: r)) (h2 : (c :: r).length ≤ 4300 := by decide) : intText? ⟨(c :: r).toArray⟩ = some ((digitsVal (c :: r) : Nat) : Int) := intText_digits (x := ⟨(c :: r).toArray⟩) h (by simp) (by rw [len_mk]; exact h2)
/-! ### parts of texts -/
theorem slen (z : Str) : z.cps.toList.length = z.length := Array.length_toList
theorem cutS_from {z : Str} {k : Nat} (h : k ≤ z.length) : L2.cutS z (some (k : Int)) none = ⟨(z.cps.toList.drop k).toArray⟩ := by
  unfold L2.cutS
  rw [HT.sIx_nat, HT.sIx_none, Nat.min_eq_left h]
  congr 2
  rw [List.take_of_length_le]
  rw [List.length_drop, slen]
  omega
theorem cutS_to {z : Str} {k : Nat} (h : k ≤ z.length) : L2.cutS z none (some (k : Int)) = ⟨(z.cps.toList.take k).toArray⟩ := by
  unfold L2.cutS
  rw [HT.sIx_nat, HT.sIx_none, Nat.min_eq_left h]
  rfl
theorem par_one {c : Nat} : ∀ (l acc : List Nat), TL.par [c] acc l = if c ∈ l then some (acc ++ l.takeWhile (· != c), (l.dropWhile (· != c)).tail) else none
  | [], acc => rfl
  | d :: r, acc => by
    by_cases h : d = c
    · subst h
      rw [TL.par_hit (by unfold TL.pre; simp)]
      simp
    · rw [TL.par_miss (by unfold TL.pre; simp [h]), par_one r]
      have h1 : (d != c) = true := by simp [h]
      have h2 : (c ∈ d :: r) ↔ c ∈ r := by simp [Ne.symm h]
      by_cases hm : c ∈ r
      · rw [if_pos hm, if_pos (h2.mpr hm), List.takeWhile_cons, if_pos h1, List.dropWhile_cons, if_pos h1]
        simp
      · rw [if_neg hm, if_neg (fun z => hm (h2.mp z))]
theorem partition_one (z : Str) (c : Nat) : Txt.partition z ⟨#[c]⟩ = if c ∈ z.cps.toList then (⟨(z.cps.toList.takeWhile (· != c)).toArray⟩, ⟨#[c]⟩, ⟨((z.cps.toList.dropWhile (· != c)).tail).toArray⟩) else (z, Str.empty, Str.empty) := by
  rw [TL.partition_par z ⟨#[c]⟩ (by show [c] ≠ []; simp)]
  show (match TL.par [c] [] z.cps.toList with | some (a, b) => ((⟨a.toArray⟩ : Str), (⟨#[c]⟩ : Str), (⟨b.toArray⟩ : Str)) | none => (z, Str.empty, Str.empty)) = _
  rw [par_one]
  by_cases h : c ∈ z.cps.toList
  · rw [if_pos h, if_pos h]
    rfl
  · rw [if_neg h, if_neg h]
theorem sign_at {z : Str} {i : Nat} {d : D} (h : (G.signs z)[i]? = some d) : ∃ c, z.cps.toList[i]? = some c ∧ d = .str ⟨#[c]⟩ := by
  unfold G.signs at h
  rw [List.getElem?_map] at h
  cases e : z.cps.toList[i]? with
  | none => rw [e] at h; cases h
  | some c => rw [e] at h; cases h; exact ⟨c, rfl, rfl⟩
theorem signs_len (z : Str) : (G.signs z).length = z.cps.toList.length := by unfold G.signs; rw [List.length_map]
theorem atI_nat {α : Type} {l : List α} {i : Nat} {c : α} (h : l[i]? = some c) : L2.atI l (i : Int) = some c := by
  have hl := (List.getElem?_eq_some_iff.mp h).1
  unfold L2.atI L2.ixN
  rw [if_pos (by omega), if_pos (by omega)]
  simpa using h
theorem put_none {S : DS} {a b : Addr} {o : O} (h : put S a o b = none) : S b = none := by
  unfold put at h
  split at h
  · cases h
  · exact h
theorem put_none_ne {S : DS} {a b : Addr} {o : O} (h : put S a o b = none) : b ≠ a := by
  intro e
  rw [e, put_same] at h
  cases h
/-! ### steps of readings -/
theorem itd {p : Prop} [Decidable p] {A B : Prop} (h1 : p → A) (h2 : ¬ p → B) : if decide p = true then A else B := by
  by_cases h : p
  · rw [if_pos (decide_eq_true h)]; exact h1 h
  · rw [decide_eq_false h, if_neg Bool.false_ne_true]; exact h2 h
theorem itn {p : Prop} [Decidable p] {A B : Prop} (h1 : ¬ p → A) (h2 : p → B) : if (!decide p) = true then A else B := by
  by_cases h : p
  · rw [decide_eq_true h]; exact (if_neg (by decide)).mpr (h2 h)
  · rw [decide_eq_false h]; exact (if_pos (by decide)).mpr (h1 h)
theorem itb {c : Bool} {A B : Prop} (h1 : c = true → A) (h2 : c = false → B) : if c = true then A else B := by
  cases c with
  | true => rw [if_pos rfl]; exact h1 rfl
  | false => rw [if_neg Bool.false_ne_true]; exact h2 rfl
theorem itnb {c : Bool} {A B : Prop} (h1 : c = false → A) (h2 : c = true → B) : if (!c) = true then A else B := by
  cases c with
  | true => exact (if_neg (by decide)).mpr (h2 rfl)
  | false => exact (if_pos (by decide)).mpr (h1 rfl)
theorem fin_rt {Q : QD} {E : XD} {S : DS} {d : D} (h : Q d S) : (fin Q E).rt d S := ⟨S, Sub.refl S, h⟩
theorem fin_ex {Q : QD} {E : XD} {S : DS} {c : Nat} {r : Env_} (h : E c S) : (fin Q E).ex c r S := ⟨S, Sub.refl S, h⟩
theorem fin_nx {Q : QD} {E : XD} {S : DS} {r : Env_} (h : Q .non S) : (fin Q E).nx r S := ⟨S, Sub.refl S, h⟩
theorem mulR {i j : Int} (h : -(2 ^ 64) < j ∧ j < 2 ^ 64) : MulOk i j := .inl (.inr h)
theorem mulL {i j : Int} (h : -(2 ^ 64) < i ∧ i < 2 ^ 64) : MulOk i j := .inl (.inl h)
theorem divS {j : Int} (h0 : j ≠ 0) (h : j.natAbs < 1073741824) : DivOk j := ⟨h0, .inl h⟩
theorem keep_put {S : DS} {a l : Addr} {o u : O} (h : S a = some o) (h' : S l = none) : put S l u a = some o := by rw [put_ne (ne_of_free h h')]; exact h
end G

set_option Elab.async false
set_option linter.all false
set_option maxRecDepth 100000
set_option maxHeartbeats 4000000
/-! GN: isinstance, texts with holes, a dict that is read at once, arguments that may be left out. -/
namespace G
open PySem PySem.Spec PyProof.Rows L2
section
variable {X : Cx} {Z : Zt} {tx : Tx} {M : List Ent} {L : Nat} {a b c e o : Expr} {es : List Expr} {te to ti : TD} {pos p p2 : Pos} {x m : Str}
/-! ### isinstance(x, T), T a built-in type -/
def tyN : D → String
  | .non => "NoneType"
  | .bl _ => "bool"
  | .int _ => "int"
  | .str _ => "str"
  | .tup _ => "tuple"
  | .rol _ => "list"
  | .ref _ => ""
def isT (T : String) (d : D) : Bool := tyN d == T || (tyN d == "bool" && T == "int")
theorem kitB_is : ∀ t ∈ ["NoneType", "bool", "int", "str", "tuple", "list"], ∀ T ∈ ["bool", "int", "str", "tuple", "list"], kitB t T = some (t == T || (t == "bool" && T == "int")) := by decide +kernel
def valD : D → Bool
  | .ref _ => false
  | _ => true
def dIsi (T : String) (te : TD) : TD := fun r S Q E => te r S (fun d S1 => valD d = true ∧ Q (.bl (isT T d)) S1) E
theorem tyx_dv {K : PySem.W.Frag} {H : Hp} {d : D} {v : V} (h : DV K H d v) (hv : valD d = true) : TyX K H v (.type (tyN d)) := by
  cases d with
  | non => rw [dv_non.mp h]; exact .base .non
  | bl b => rw [dv_bl.mp h]; exact .base (.bl b)
  | int i => rw [dv_int.mp h]; exact .base (.int i)
  | str x => rw [dv_str.mp h]; exact .base (.str x)
  | tup ds =>
    obtain ⟨p, vs, e, h1, _⟩ := dv_tup.mp h
    rw [e]
    rcases h1 with (h1 | ⟨o, h1⟩) | ⟨ob, its, n, h1, h2, _⟩
    · exact .base (.tup h1)
    · exact .fTuple h1
    · exact .kTuple h1 h2
  | rol ds =>
    obtain ⟨p, vs, e, h1, _⟩ := dv_rol.mp h
    rw [e]
    rcases h1 with ⟨o, h1⟩ | ⟨ob, its, n, h1, h2, _⟩
    · exact .base (.frz h1)
    · exact .kList h1 h2
  | ref a => cases hv
theorem tyN_mem {d : D} (h : valD d = true) : tyN d ∈ ["NoneType", "bool", "int", "str", "tuple", "list"] := by cases d <;> first | (cases h; done) | simp [tyN]
theorem pd_isi (T : String) (hT : T ∈ ["bool", "int", "str", "tuple", "list"]) (hM : TxOk X.prog X.w X.K X.mg X.base Z tx M) (i j : Nat) {y : Str} (hN : tx.bl i = some ("isinstance" : Str)) (hN2 : tx.bl j = some y) (hg : Gl X "isinstance") (hg2 : Gl X y) (hb : bootBuiltins "isinstance" = some (.builtin "isinstance")) (hb2 : bootBuiltins y = some (.type T)) (he : PD X Z e te)
    (hn2 : y ≠ "__name__" := by decide) (hd2 : (y == ("__debug__" : Str)) = false := by decide) (hs1 : starEach [e, .Name y p2] X.env = (false, eval e X.env) :: starEach [.Name y p2] X.env := by rfl) (hs2 : starEach [.Name y p2] X.env = (false, eval (.Name y p2) X.env) :: starEach [] X.env := by rfl)
    (hpl : (backTo pos (starEach [.Name y p2] X.env)).any (·.1) = false := by rfl) :
    PD X Z (.Call (.Name "isinstance" p) [e, .Name y p2] [] pos) (dIsi T te) := fun W tk => by
  have ht : PE X (.Name y p2) (tC (V.ty T)) := pe_bltn hg2 (hM.bl j _ hN2) hb2 rfl hn2 hd2
  refine PE.imp (pe_callB call_isi hg (hM.bl i _ hN) hb (pa_cons (he W tk) (pa_cons ht pa_nil hs2) hs1) (by decide) (by decide) hs1 hpl) fun σ H Q h => ?_
  obtain ⟨r, S, Q0, E0, R, q, k, kE⟩ := h
  refine ⟨r, S, _, E0, R, q, fun d S1 v H1 e1 st1 dv1 q1 => ?_, kE⟩
  exact ⟨v, .ty T, .type (tyN d), .type T, isT T d, rfl, .ty T, tyx_dv dv1 q1.1, kit_ty (kitB_is _ (tyN_mem q1.1) T hT), k _ S1 _ H1 e1 st1 (dv_bl.mpr rfl) q1.2⟩

/-! ### texts with holes -/
def dFmt (te : TD) : TD := fun r S Q E => te r S (fun d S1 => match d with
  | .str y => y.length ≤ sizeLine ∧ Q (.str y) S1
  | .int i => i.natAbs.log2 < 1920 ∧ Q (.str (toString i)) S1
  | _ => False) E
theorem pd_fmt (he : PD X Z e te) : PD X Z (.FormattedValue e (-1) none pos) (dFmt te) := fun W tk => by
  refine PE.imp (pe_fmt (he W tk)) fun σ H Q h => ?_
  obtain ⟨r, S, Q0, E0, R, q, k, kE⟩ := h
  refine ⟨r, S, _, E0, R, q, fun d S1 v H1 e1 st1 dv1 q1 => ?_, kE⟩
  cases d with
  | str y => exact .inl ⟨y, dv_str.mp dv1, q1.1, k _ S1 _ H1 e1 st1 (dv_str.mpr rfl) q1.2⟩
  | int i => exact .inr ⟨i, dv_int.mp dv1, q1.1, k _ S1 _ H1 e1 st1 (dv_str.mpr rfl) q1.2⟩
  | _ => exact q1.elim
def dJs : List TD → Str → TD
  | [], acc => fun _ S Q _ => Q (.str acc) S
  | t :: ts, acc => fun r S Q E => t r S (fun d S1 => match d with
    | .str y => (acc ++ y).length ≤ sizeLine ∧ dJs ts (acc ++ y) r S1 Q E
    | _ => False) E
def PDJ (X : Cx) (Z : Zt) (es : List Expr) (ts : List TD) : Prop := ∀ W, Takes X W → PJ X es (ts.map (lift X.K Z W))
theorem pdj_nil : PDJ X Z [] [] := fun _ _ => .nil
theorem pdj_cons {t : TD} {ts : List TD} (h : PD X Z e t) (r : PDJ X Z es ts) : PDJ X Z (e :: es) (t :: ts) := fun W tk => .cons (h W tk) (r W tk)
theorem lift_js {K : PySem.W.Frag} {W : WX} {σ : L2.St} : ∀ (ts : List TD) (acc : Str) (H : Hp) (Q : VK), lift K Z W (dJs ts acc) σ H Q → tJs (ts.map (lift K Z W)) acc σ H fun out H1 => Q (.str out) H1
  | [], acc, H, Q, h => by
    obtain ⟨r, S, Q0, E0, R, q, k, _⟩ := h
    exact k _ S _ H Go.r R.st (dv_str.mpr rfl) q
  | t :: ts, acc, H, Q, h => by
    obtain ⟨r, S, Q0, E0, R, q, k, kE⟩ := h
    refine ⟨r, S, _, E0, R, q, fun d S1 v H1 e1 st1 dv1 q1 => ?_, kE⟩
    cases d with
    | str y => exact ⟨y, dv_str.mp dv1, q1.1, lift_js ts (acc ++ y) H1 Q ⟨r, S1, Q0, E0, R.go e1 st1, q1.2, fun d2 S2 v2 H2 e2 => k d2 S2 v2 H2 (e1.trans e2), fun c S2 dd H2 e2 => kE c S2 dd H2 (e1.trans e2)⟩⟩
    | _ => exact q1.elim
theorem pd_joined {v1 v2 : Expr} {rest : List Expr} {ts : List TD} (h : PDJ X Z (v1 :: v2 :: rest) ts) : PD X Z (.JoinedStr (v1 :: v2 :: rest) pos) (dJs ts Str.empty) := fun W tk =>
  PE.imp (pe_joined (h W tk)) fun _ H Q h => lift_js ts Str.empty H Q h

/-! ### a dict that is read at once -/
def dPairs : List (TD × TD) → Env_ → DS → (List (D × D) → DS → Prop) → XD → Prop
  | [], _, S, Q, _ => Q [] S
  | (tk, tv) :: rest, r, S, Q, E => tk r S (fun x S1 => tv r S1 (fun y S2 => dPairs rest r S2 (fun ps S3 => Q ((x, y) :: ps) S3) E) E) E
/-- keys are texts, all different -/
def getS : List (D × D) → Str → Option D
  | [], _ => none
  | (.str z, d) :: r, k => if z = k then some d else getS r k
  | _ :: _, _ => none
def keysS : List (D × D) → Option (List Str)
  | [] => some []
  | (.str z, _) :: r => (keysS r).map (z :: ·)
  | _ :: _ => none
def dDispIx (trs : List (TD × TD)) (ti : TD) : TD := fun r S Q E => dPairs trs r S (fun ps S1 => ∃ ks, keysS ps = some ks ∧ ks.Nodup ∧ ps.length ≤ 15 ∧ ti r S1 (fun y S2 => ∃ z d, y = .str z ∧ getS ps z = some d ∧ Q d S2) E) E
def PDP (X : Cx) (Z : Zt) (pos : Pos) (ks : List (Option Expr)) (vs : List Expr) (trs : List (TD × TD)) : Prop := ∀ W, Takes X W → PPs X pos ks vs (trs.map fun t => (lift X.K Z W t.1, lift X.K Z W t.2))
theorem pdp_nil : PDP X Z pos [] [] [] := fun _ _ => pps_nil
theorem pdp_cons {k v : Expr} {ks : List (Option Expr)} {vs : List Expr} {tk tv : TD} {trs : List (TD × TD)} (hk : PD X Z k tk) (hv : PD X Z v tv) (hr : PDP X Z pos ks vs trs) : PDP X Z pos (some k :: ks) (v :: vs) ((tk, tv) :: trs) := fun W t => pps_cons (hk W t) (hv W t) (hr W t)
def DPs (K : PySem.W.Frag) (H : Hp) : List (D × D) → List (V × V) → Prop
  | [], ws => ws = []
  | (k, d) :: r, ws => ∃ u v q, ws = (u, v) :: q ∧ DV K H k u ∧ DV K H d v ∧ DPs K H r q
theorem DPs.mono {K : PySem.W.Frag} {H H' : Hp} (e : Evo H H') : ∀ {ps : List (D × D)} {ws : List (V × V)}, DPs K H ps ws → DPs K H' ps ws
  | [], _, h => h
  | (k, d) :: r, _, h => by
    obtain ⟨u, v, q, h1, h2, h3, h4⟩ := h
    exact ⟨u, v, q, h1, h2.mono e, h3.mono e, DPs.mono e h4⟩
theorem lift_pairs {K : PySem.W.Frag} {W : WX} {σ : L2.St} {r : Env_} : ∀ (trs : List (TD × TD)) (S : DS) (H : Hp) (Q0 : List (D × D) → DS → Prop) (E0 : XD) (Q : List (V × V) → Hp → Prop), Rel K Z r S σ H → dPairs trs r S Q0 E0 →
    (∀ ps S' ws H', Go H S H' S' → ST K Z S' H' → DPs K H' ps ws → Q0 ps S' → Q ws H') → (∀ c S' dd H', Go H S H' S' → ST K Z S' H' → E0 c S' → W (Z.ex c) dd σ H') → tPairs (trs.map fun t => (lift K Z W t.1, lift K Z W t.2)) σ H Q
  | [], S, H, Q0, E0, Q, R, q, k, _ => k [] S [] H Go.r R.st rfl q
  | (tk, tv) :: rest, S, H, Q0, E0, Q, R, q, k, kE => by
    refine ⟨r, S, _, E0, R, q, fun x S1 v H1 e1 st1 dv1 q1 => ?_, kE⟩
    refine ⟨r, S1, _, E0, R.go e1 st1, q1, fun y S2 w H2 e2 st2 dv2 q2 => ?_, fun c S2 dd H2 e2 => kE c S2 dd H2 (e1.trans e2)⟩
    refine lift_pairs rest S2 H2 _ E0 _ (R.go (e1.trans e2) st2) q2 (fun ps S3 ws H3 e3 st3 d3 q3 => ?_) fun c S3 dd H3 e3 => kE c S3 dd H3 ((e1.trans e2).trans e3)
    exact k ((x, y) :: ps) S3 _ H3 ((e1.trans e2).trans e3) st3 ⟨v, w, ws, rfl, dv1.mono (e2.trans e3).evo, dv2.mono e3.evo, d3⟩ q3
/-- the pairs as they are stored -/
theorem pairs_kv {K : PySem.W.Frag} {H : Hp} : ∀ {ps : List (D × D)} {ws : List (V × V)} {ks : List Str}, DPs K H ps ws → keysS ps = some ks → ∃ kvs : List (Key × V), ws = kvs.map (fun kv => (kV kv.1, kv.2)) ∧ kvs.length = ps.length ∧ kvs.map (·.1) = ks.map Sum.inr ∧ ∀ z d, getS ps z = some d → ∃ v, valV kvs (.inr z) = some v ∧ DV K H d v
  | [], _, ks, h, e => by
    cases e
    rw [show _ = ([] : List (V × V)) from h]
    exact ⟨[], rfl, rfl, rfl, fun z d q => by cases q⟩
  | (k, d) :: r, _, ks, h, e => by
    obtain ⟨u, v, q, rfl, h2, h3, h4⟩ := h
    cases k with
    | str z =>
      have e : (keysS r).map (z :: ·) = some ks := e
      cases er : keysS r with
      | none => rw [er] at e; cases e
      | some kr =>
        rw [er] at e
        cases e
        obtain ⟨kvs, i1, i2, i3, i4⟩ := pairs_kv h4 er
        refine ⟨(.inr z, v) :: kvs, ?_, ?_, ?_, fun y d' hq => ?_⟩
        · rw [i1, dv_str.mp h2]; rfl
        · rw [List.length_cons, List.length_cons, i2]
        · rw [List.map_cons, List.map_cons, i3]
        · have hq : (if z = y then some d else getS r y) = some d' := hq
          by_cases hz : z = y
          · rw [if_pos hz] at hq
            cases hq
            exact ⟨v, valV_pos (by rw [hz]), h3⟩
          · rw [if_neg hz] at hq
            obtain ⟨w, j1, j2⟩ := i4 y d' hq
            exact ⟨w, by rw [valV_neg (fun q => hz (Sum.inr.inj q))]; exact j1, j2⟩
    | _ => cases e
theorem mergeK_of : ∀ (kvs acc : List (Key × V)), (acc ++ kvs).map (·.1) |>.Nodup → mergeK acc kvs = acc ++ kvs
  | [], acc, _ => by simp [mergeK]
  | (k, v) :: r, acc, h => by
    have hk : valV acc k = none := by
      cases e : valV acc k with
      | none => rfl
      | some w =>
        have := valV_any k acc
        rw [e] at this
        obtain ⟨p, hp, hp2⟩ := List.any_eq_true.mp this
        rw [List.map_append, List.nodup_append] at h
        exact absurd (of_decide_eq_true hp2) (h.2.2 _ (List.mem_map.mpr ⟨p, hp, rfl⟩) _ (by simp))
    have e : putK acc k v = acc ++ [(k, v)] := by
      unfold putK
      rw [if_neg (by rw [valV_any, hk]; simp)]
    show mergeK (putK acc k v) r = _
    rw [e, mergeK_of r (acc ++ [(k, v)]) (by simpa using h)]
    simp
theorem pd_dispIx {keys : List (Option Expr)} {values : List Expr} {trs : List (TD × TD)} {i : Expr} (hu : X.A.units + 64 < cLine) (h : PDP X Z p keys values trs) (hi : PD X Z i ti) (hall : keys.all (·.isSome) = true := by rfl) (hl : keys.length = values.length := by rfl) (h0 : keys ≠ [] := by exact fun z => nomatch z)
    (h15 : keys.length ≤ 15 := by decide) (hs : NoSl i := by exact fun _ _ => rfl) : PD X Z (.Subscript (.Dict keys values p) i pos) (dDispIx trs ti) := fun W tk => by
  refine PE.imp (pe_dget (by omega) (pe_disp (h W tk) hall hl h0 h15) (hi W tk) hs) fun σ H Q h => ?_
  obtain ⟨r, S, Q0, E0, R, q, k, kE⟩ := h
  intro g hg
  have hgS : S g = none := R.st.free hg
  have R1 : Rel X.K Z r S σ (upd H g (.dK [])) := R.go (Go.new hg) (R.st.new hg)
  refine lift_pairs trs S _ _ E0 _ R1 q (fun ps S2 ws H2 e2 st2 dp q2 => ?_) fun c S' dd H' e' => kE c S' dd H' ((Go.new hg).trans e')
  have hg2 : H2 g = some (.dK []) := e2.un g _ upd_same hgS (fun ps z => nomatch z)
  have hgS2 : S2 g = none := e2.fr g (by rw [upd_same]; exact fun z => nomatch z) hgS
  obtain ⟨ks, hks, hnd, hlen, q2⟩ := q2
  obtain ⟨kvs, i1, i2, i3, i4⟩ := pairs_kv dp hks
  have hm : mergeK [] kvs = kvs := mergeK_of kvs [] (by
    rw [List.nil_append, i3]
    exact List.Pairwise.map _ (fun a b h z => h (Sum.inr.inj z)) hnd)
  have ev3 : Evo H2 (upd H2 g (.dK (mergeK [] kvs))) := mut_evo hg2 trivial
  have g2 := (Go.new hg).trans e2
  have g3 : Go H S (upd H2 g (.dK (mergeK [] kvs))) S2 := ⟨g2.evo.trans ev3, g2.fr, fun b o e1 e2' e3 => by rw [upd_ne (ne_of_none e1 hg)]; exact g2.un b o e1 e2' e3⟩
  have st3 : ST X.K Z S2 (upd H2 g (.dK (mergeK [] kvs))) := ⟨fun b o eb => (st2.sr b o eb).mono ev3 (upd_ne fun z => by rw [z, hgS2] at eb; cases eb), st2.tb.wrote hg2 trivial (fun _ z => nomatch z)⟩
  refine ⟨hg2, kvs, i1, by omega, r, S2, _, E0, ⟨R.sl.mono g3.evo, st3⟩, q2, fun y S3 w H3 e3 st3' dw ⟨z, d, ey, hz, q3⟩ => ?_, fun c S' dd H' e' => kE c S' dd H' (g3.trans e')⟩
  subst ey
  rw [dv_str.mp dw]
  obtain ⟨v, j1, j2⟩ := i4 z d hz
  have h3 : H3 g = some (.dK kvs) := by
    have := e3.un g _ upd_same hgS2 (fun ps z => nomatch z)
    rw [hm] at this
    exact this
  refine ⟨g, v, rfl, ?_, k d S3 v H3 (g3.trans e3) st3' (j2.mono (ev3.trans e3.evo)) q3⟩
  have := DGet.k (k := .inr z) h3
  rw [j1] at this
  exact this
end
/-! ### arguments that may be left out -/
section
variable {P : Program} {w : World} {K : PySem.W.Frag} {mg : Str → Option Value} {base : Heap} {Z : Zt}
theorem FunC.toD {x qual : Str} {st : Stmt} {f : Addr} {fd : FuncData} {cdv dV : Value} {dvs : List V} (F : FunC K x qual st f fd cdv dV) (k : PySem.W.keepIn K (.ref f) = true) (h : DflV K dV dvs) : FunD K x qual (defArgs st) (defBody st) (defScope st) dvs [] f fd := by
  obtain ⟨oc, od, kV, doc, pm, an, ct, osl, e, lk, hcd⟩ := F.ex
  exact ⟨⟨oc, od, dV, kV, doc, pm, an, cdv, ct, osl, e, lk, hcd, h, .inl rfl⟩, k⟩
theorem FnD.mkD {f : Addr} {fd : FuncData} {ps : List Str} {L : Nat} {e : Ent} {dvs : List V} (F : FnOk P w K mg base (L2.CX P w) L f fd ps (liftSp K Z e.sp)) (h : ps.length = e.ar) (dv : ∀ H, DVs K H e.dfl dvs) (hl : e.dfl.length = dvs.length) (b : ∀ m, m ≤ dvs.length → ∃ ds, Vals (dvs.drop m) ds ∧ Binds K fd ps ds) : FnD P w K mg base Z L f e :=
  ⟨fd, ps, F, h, fun m hm => by
    obtain ⟨ds, h1, h2⟩ := b m (by omega)
    exact ⟨dvs.drop m, ds, h2, h1, fun H => (dv H).drop m⟩⟩
end
end G

set_option Elab.async false
set_option linter.all false
set_option maxRecDepth 100000
set_option maxHeartbeats 4000000
/-! GO: a generator's test against a closed text; equality of a datum with itself; lists written in the middle; parts counted from the end. -/
namespace G
open PySem PySem.Spec PyProof.Rows L2 GxR
theorem elt_notIn_lit {prog : Program} {w : World} {mg : Str → Option Value} {scope : Scope} {x : Str} {z : Str} {j : Nat} {p1 p2 p3 : Pos} (hk : scope.kind = .function) (hl : scope.names.lookup x = some .local)
    (hd : (x == ("__debug__" : Str)) = false := by decide) :
    EltG prog w mg scope x (.Compare (.Name x p1) [.NotIn] [.Constant (.str z) j p2] p3) (fun c => !decide (c ∈ z.cps.toList)) := by
  intro cenv A' E' c t s₂ m₂ hs hg hN hn hv
  refine wpAny_Compare1 ?_
  refine wpAny_Name (wpAny_loadName_local (by rw [hs]; exact hk) (show cenv.scope.names.lookup x = some .local by rw [hs]; exact hl) hn hv ?_) hd
  refine wpAny_Constant_str ?_
  refine PyProof.Rows.notIn_str ⟨?_, keeps_tok _ _⟩
  rw [PySem.StrLaws.found_one z c]
mutual
theorem deq_refl : ∀ (n : Nat) (x : D), okD n x = true → deq x x = true
  | n, .non, _ => by cases n <;> rfl
  | n, .bl b, _ => by cases n <;> simp [deq]
  | n, .int i, _ => by cases n <;> simp [deq]
  | n, .str i, _ => by cases n <;> simp [deq]
  | n, .rol xs, h => by cases n <;> simp [okD] at h
  | n, .ref a, h => by cases n <;> simp [okD] at h
  | n, .tup xs, h => by
    cases n with
    | zero => simp [okD] at h
    | succ n =>
      simp only [okD] at h
      simp only [deq]
      exact deqs_refl n xs h
theorem deqs_refl : ∀ (n : Nat) (xs : List D), okDs n xs = true → deqs xs xs = true
  | n, [], _ => rfl
  | n, x :: xs, h => by
    simp only [okDs, Bool.and_eq_true] at h
    simp only [deqs, deq_refl n x h.1, deqs_refl n xs h.2, Bool.and_self]
end
theorem okDs_of {n : Nat} : ∀ {xs : List D}, (∀ x ∈ xs, okD n x = true) → okDs n xs = true
  | [], _ => rfl
  | x :: xs, h => by
    simp only [okDs, Bool.and_eq_true]
    exact ⟨h x (by simp), okDs_of fun y hy => h y (by simp [hy])⟩
theorem get_mid {α : Type} (A B : List α) (h : α) : (A ++ h :: B)[A.length]? = some h := by simp
theorem set_mid {α : Type} (A B : List α) (h x : α) : (A ++ h :: B).set A.length x = A ++ x :: B := by
  rw [List.set_append_right _ _ (Nat.le_refl _), Nat.sub_self]
  rfl
theorem ixN_nat {n i : Nat} (h : i < n) : ixN n (i : Int) = some i := by
  unfold ixN
  rw [if_pos (by omega), if_pos (by omega)]
  simp
theorem cutS_negTo {z : Str} {k : Nat} (h0 : 0 < k) (h : k ≤ z.length) : L2.cutS z none (some (-(k : Int))) = ⟨(z.cps.toList.take (z.length - k)).toArray⟩ := by
  rw [← cutS_to (by omega)]
  unfold L2.cutS
  have : HT.sIx z.length z.length (some (-(k : Int))) = HT.sIx z.length z.length (some ((z.length - k : Nat) : Int)) := by
    rw [HT.sIx_nat]
    show (if (-(k : Int)) < 0 then ((-(k : Int)) + (z.length : Int)).toNat else min (-(k : Int)).toNat z.length) = _
    rw [if_pos (by omega)]
    omega
  rw [this]
theorem cutS_negFrom {z : Str} {k : Nat} (h0 : 0 < k) (h : k ≤ z.length) : L2.cutS z (some (-(k : Int))) none = ⟨(z.cps.toList.drop (z.length - k)).toArray⟩ := by
  rw [← cutS_from (by omega)]
  unfold L2.cutS
  have : HT.sIx z.length 0 (some (-(k : Int))) = HT.sIx z.length 0 (some ((z.length - k : Nat) : Int)) := by
    rw [HT.sIx_nat]
    show (if (-(k : Int)) < 0 then ((-(k : Int)) + (z.length : Int)).toNat else min (-(k : Int)).toNat z.length) = _
    rw [if_pos (by omega)]
    omega
  rw [this]
theorem starts_one (t : List Nat) (c : Nat) : Txt.startswith ⟨t.toArray⟩ ⟨#[c]⟩ = decide (t.head? = some c) := by
  unfold Txt.startswith
  rw [StrLaws.subAt_eq]
  show (decide (0 + 1 ≤ t.toArray.size) && ((t.drop 0).take 1 == [c])) = _
  cases t with
  | nil => simp
  | cons d r =>
    simp
    rw [Bool.eq_iff_iff]; simp
theorem int_digits {l : List Nat} (h : NumText.AllDigits l) (hne : l ≠ []) (hl : l.length ≤ 4300) : intText? ⟨l.toArray⟩ = some ((NumText.digitsVal l : Nat) : Int) := by
  cases l with
  | nil => exact absurd rfl hne
  | cons c r => exact NumText.intText_digits' h hl
theorem dval_lt' : ∀ (l : List Nat), NumText.AllDigits l → NumText.digitsVal l < 10 ^ l.length := by
  intro l
  rw [← List.reverse_reverse l]
  generalize l.reverse = m
  induction m with
  | nil => intro _; decide
  | cons c m ih =>
    intro h
    rw [List.reverse_cons] at h ⊢
    rw [NumText.digitsVal_snoc, List.length_append, List.length_singleton, Nat.pow_succ]
    have h1 := ih fun d hd => h d (List.mem_append_left _ hd)
    have h2 := h c (List.mem_append_right _ (List.mem_singleton.mpr rfl))
    omega
theorem sub_pq {S : DS} {q l : Addr} {y z o : O} (h : put S q y l = none) : Sub (put S q o) (put (put (put S q y) l z) q o) := fun a u e => by
  by_cases h1 : a = q
  · subst h1; rw [put_same] at e ⊢; exact e
  · rw [put_ne h1] at e ⊢
    have : a ≠ l := by
      intro z; subst z; rw [put_ne h1] at h; rw [h] at e; cases e
    rw [put_ne this, put_ne h1]; exact e
section
variable {X : Cx} {Z : Zt}
/-- a test that is an if itself -/
def dTIf (c t u : TDT) : TDT := fun p S Q E => c p S (fun b S1 => if b = true then t p S1 Q E else u p S1 Q E) E
theorem pdt_if {c a b : Expr} {tC tA tB : TDT} {pos : Pos} (hc : PDT X Z c tC) (ha : PDT X Z a tA) (hb : PDT X Z b tB) : PDT X Z (.IfExp c a b pos) (dTIf tC tA tB) := fun W tk => by
  refine ⟨fun pins s σ H Q I h => ?_⟩
  obtain ⟨p, S, Q0, E0, R, q, k, kE⟩ := h
  refine isTrue_IfExp (thn ((hc W tk).run pins s σ H (fun c H1 => if c = true then liftT X.K Z W tA σ H1 Q else liftT X.K Z W tB σ H1 Q) I ⟨p, S, _, E0, R, q, fun c S' H' e st q' => ?_, kE⟩) fun c s1 ⟨H1, I1, q1⟩ => ?_)
  · cases c with
    | true => exact iteT ⟨p, S', Q0, E0, R.go e st, (if_pos rfl).mp q', fun d2 S2 H2 e2 => k d2 S2 H2 (e.trans e2), fun c S2 dd H2 e2 => kE c S2 dd H2 (e.trans e2)⟩
    | false => exact iteF ⟨p, S', Q0, E0, R.go e st, (if_neg Bool.false_ne_true).mp q', fun d2 S2 H2 e2 => k d2 S2 H2 (e.trans e2), fun c S2 dd H2 e2 => kE c S2 dd H2 (e.trans e2)⟩
  · cases c with
    | true => exact (ha W tk).run pins s1 σ H1 Q I1 ((if_pos rfl).mp q1)
    | false => exact (hb W tk).run pins s1 σ H1 Q I1 ((if_neg Bool.false_ne_true).mp q1)
end
end G

set_option Elab.async false
set_option linter.all false
set_option maxRecDepth 100000
set_option maxHeartbeats 4000000
/-! GP: more methods of texts; enumerate and zip; a generator's test in a closed text. -/
namespace G
open PySem PySem.Spec PyProof.Rows L2 GxR
theorem elt_in_lit {prog : Program} {w : World} {mg : Str → Option Value} {scope : Scope} {x : Str} {z : Str} {j : Nat} {p1 p2 p3 : Pos} (hk : scope.kind = .function) (hl : scope.names.lookup x = some .local)
    (hd : (x == ("__debug__" : Str)) = false := by decide) :
    EltG prog w mg scope x (.Compare (.Name x p1) [.In] [.Constant (.str z) j p2] p3) (fun c => decide (c ∈ z.cps.toList)) := by
  intro cenv A' E' c t s₂ m₂ hs hg hN hn hv
  refine wpAny_Compare1 ?_
  refine wpAny_Name (wpAny_loadName_local (by rw [hs]; exact hk) (show cenv.scope.names.lookup x = some .local by rw [hs]; exact hl) hn hv ?_) hd
  refine wpAny_Constant_str ?_
  refine PyProof.Rows.in_str ⟨?_, keeps_tok _ _⟩
  rw [PySem.StrLaws.found_one z c]
section
variable {X : Cx} {Z : Zt} {K : PySem.W.Frag} {H0 : Hp}
def rEnds : RDM := fun x ds S Q => match x, ds with
  | .str a, [.str b] => Q (.bl (Txt.endswith a b)) S
  | _, _ => False
theorem md_endswith : MtD X Z "str.endswith" rEnds := by
  intro pins s σ H v vs u us Q I rx rv h
  obtain ⟨x, ds, S, Q0, st, dx, dv, h, k⟩ := h
  match x, ds, h, dx, dv with
  | .str a, [.str b], h, dx, dv =>
    obtain ⟨w, rfl, dw⟩ := one_of dv
    rw [dv_str.mp dx] at rx
    rw [dv_str.mp dw] at rv
    exact mt_endswith pins s σ H _ _ u us Q I rx rv ⟨a, b, rfl, rfl, k _ S _ H Go.r st (dv_bl.mpr rfl) h⟩
def rSplit : RDM := fun x ds S Q => match x, ds with
  | .str a, [.str b] => (b.length == 0) = false ∧ a.length + 2 ≤ sizeLine ∧ ∀ l, S l = none → Q (.ref l) (put S l (.lst ((Txt.split a b).map D.str)))
  | _, _ => False
theorem md_split : MtD X Z "str.split" rSplit := by
  intro pins s σ H v vs u us Q I rx rv h
  obtain ⟨x, ds, S, Q0, st, dx, dv, h, k⟩ := h
  match x, ds, h, dx, dv with
  | .str a, [.str b], h, dx, dv =>
    obtain ⟨w, rfl, dw⟩ := one_of dv
    rw [dv_str.mp dx] at rx
    rw [dv_str.mp dw] at rv
    exact mt_split pins s σ H _ _ u us Q I rx rv ⟨a, b, rfl, rfl, h.1, h.2.1, fun p hp => k _ _ _ _ (Go.made hp) (st.made (o := .lst ((Txt.split a b).map D.str)) hp ⟨_, upd_same, dvs_strs _⟩) (dv_ref.mpr rfl) (h.2.2 p (st.free hp))⟩
def rJoin : RDM := fun x ds S Q => match x, ds with
  | .str a, [.ref l] => ∃ ys : List Str, S l = some (.lst (ys.map D.str)) ∧ (ys.map (·.length)).sum + ys.length * a.length ≤ 16777216 ∧ Q (.str (Txt.join a ys)) S
  | .str a, [.tup ds] => ∃ ys : List Str, ds = ys.map D.str ∧ (ys.map (·.length)).sum + ys.length * a.length ≤ 16777216 ∧ Q (.str (Txt.join a ys)) S
  | _, _ => False
theorem md_join : MtD X Z "str.join" rJoin := by
  intro pins s σ H v vs u us Q I rx rv h
  obtain ⟨x, ds, S, Q0, st, dx, dv, h, k⟩ := h
  match x, ds, h, dx, dv with
  | .str a, [.ref l], h, dx, dv =>
    obtain ⟨w, rfl, dw⟩ := one_of dv
    obtain ⟨ys, sa, hz, h⟩ := h
    rw [dv_str.mp dx] at rx
    rw [dv_ref.mp dw] at rv
    obtain ⟨vs, h1, d1⟩ := sr_lst st sa
    rw [dvs_strsE d1] at h1
    exact mt_join pins s σ H _ _ u us Q I rx rv ⟨a, l, ys, rfl, rfl, .inl (SqL.of h1), hz, k _ S _ H Go.r st (dv_str.mpr rfl) h⟩
  | .str a, [.tup ds], h, dx, dv =>
    obtain ⟨w, rfl, dw⟩ := one_of dv
    obtain ⟨ys, e, hz, h⟩ := h
    subst e
    rw [dv_str.mp dx] at rx
    obtain ⟨p, vs, e2, h1, d1⟩ := dv_tup.mp dw
    rw [e2] at rv
    rw [dvs_strsE d1] at h1
    exact mt_join pins s σ H _ _ u us Q I rx rv ⟨a, p, ys, rfl, rfl, .inr h1, hz, k _ S _ H Go.r st (dv_str.mpr rfl) h⟩
/-! ### enumerate, zip -/
def numD (ds : List D) : List D := ds.mapIdx fun i d => D.tup [.int (i : Nat), d]
theorem numD_len (ds : List D) : (numD ds).length = ds.length := by unfold numD; rw [List.length_mapIdx]
theorem numD_at {ds : List D} {i : Nat} {d : D} (h : (numD ds)[i]? = some d) : ∃ e, ds[i]? = some e ∧ d = .tup [.int (i : Nat), e] := by
  unfold numD at h
  rw [List.getElem?_mapIdx] at h
  cases e : ds[i]? with
  | none => rw [e] at h; cases h
  | some x => rw [e] at h; cases h; exact ⟨x, rfl, rfl⟩
theorem y_enum {l : Addr} {ds : List D} : Yields K Z H0 (Ite K l) (numD ds) (fun S => S l = some (.lst ds)) := fun i S H _ st ok => by
  obtain ⟨vs, h1, d1⟩ := sr_lst st ok
  refine ⟨fun d hd => ?_, fun hi => ⟨vs, SqL.of h1, by rw [← d1.len, ← numD_len]; exact hi⟩⟩
  obtain ⟨e, he, rfl⟩ := numD_at hd
  obtain ⟨v, hv, dv⟩ := d1.get he
  refine ⟨⟨vs, v, SqL.of h1, hv⟩, fun x H' y => ?_⟩
  obtain ⟨T, x', e1, hT, e2, y⟩ := y
  have := y vs (SqL.of h1)
  rw [hv] at this
  cases this
  subst e1 e2
  exact ⟨dv_tup.mpr ⟨T, _, rfl, .inl (.inl upd_same), DVs.cons (dv_int.mpr rfl) (DVs.cons (dv.mono (Evo.new hT)) (dvs_nil.mpr rfl))⟩, Evo.put_go hT st⟩
def iEnumD (ta : TDA) : TDI := fun r S Q E => ta r S (fun ds S1 => match ds with
  | [.ref l] => ∃ xs, S1 l = some (.lst xs) ∧ Q (numD xs) (fun S => S l = some (.lst xs)) S1
  | _ => False) E
theorem pdi_enum {M : List Ent} {tx : Tx} {a : Expr} {ta : TDA} {p pos tpos : Pos} {elts : List Expr} {kk : Nat} (hM : TxOk X.prog X.w X.K X.mg X.base Z tx M) (i : Nat) (hN : tx.bl i = some ("enumerate" : Str)) (ha : PDA X Z [a] ta) (hg : Gl X "enumerate" := by rfl) (hs : starEach [a] X.env = [(false, eval a X.env)] := by rfl) : PDI X Z (.Tuple elts kk tpos) (.Call (.Name "enumerate" p) [a] [] pos) (iEnumD ta) := fun W tk => by
  refine PI.imp (pi_enum hg (hM.bl i _ hN) (ha W tk) hs) fun σ H R h => ?_
  obtain ⟨r, S, Q0, E0, RR, q, k, kE⟩ := h
  refine ⟨r, S, _, E0, RR, q, fun ds S1 vs H1 e1 st1 dv1 q1 => ?_, kE⟩
  match ds, q1, dv1 with
  | [.ref l], q1, dv1 =>
    obtain ⟨xs, sa, q2⟩ := q1
    obtain ⟨w, rfl, dw⟩ := one_of dv1
    obtain ⟨vs, h1, d1⟩ := sr_lst st1 sa
    exact ⟨l, vs, by rw [dv_ref.mp dw], SqL.of h1, k _ _ S1 _ H1 e1 st1 y_enum q2⟩
def zipD (xs ys : List D) : List D := List.zipWith (fun x y => D.tup [x, y]) xs ys
theorem zipD_at {xs ys : List D} {i : Nat} {d : D} (h : (zipD xs ys)[i]? = some d) : ∃ x y, xs[i]? = some x ∧ ys[i]? = some y ∧ d = .tup [x, y] := by
  unfold zipD at h
  rw [List.getElem?_zipWith] at h
  cases e : xs[i]? with
  | none => rw [e] at h; cases h
  | some x =>
    cases e2 : ys[i]? with
    | none => rw [e, e2] at h; cases h
    | some y => rw [e, e2] at h; cases h; exact ⟨x, y, rfl, rfl, rfl⟩
theorem y_zip {l m : Addr} {xs ys : List D} : Yields K Z H0 (Itz K l m) (zipD xs ys) (fun S => S l = some (.lst xs) ∧ S m = some (.lst ys)) := fun i S H _ st ok => by
  obtain ⟨vs, h1, d1⟩ := sr_lst st ok.1
  obtain ⟨ws, h2, d2⟩ := sr_lst st ok.2
  refine ⟨fun d hd => ?_, fun hi => ⟨vs, ws, SqL.of h1, SqL.of h2, ?_⟩⟩
  · obtain ⟨x, y, e1, e2, rfl⟩ := zipD_at hd
    obtain ⟨v, hv, dv⟩ := d1.get e1
    obtain ⟨w, hw, dw⟩ := d2.get e2
    refine ⟨⟨vs, ws, v, w, SqL.of h1, SqL.of h2, hv, hw⟩, fun x H' y => ?_⟩
    obtain ⟨T, x', y', e1, hT, e2, y1, y2⟩ := y
    have z1 := y1 vs (SqL.of h1)
    have z2 := y2 ws (SqL.of h2)
    rw [hv] at z1
    rw [hw] at z2
    cases z1
    cases z2
    subst e1 e2
    exact ⟨dv_tup.mpr ⟨T, _, rfl, .inl (.inl upd_same), DVs.cons (dv.mono (Evo.new hT)) (DVs.cons (dw.mono (Evo.new hT)) (dvs_nil.mpr rfl))⟩, Evo.put_go hT st⟩
  · unfold zipD at hi
    rw [List.length_zipWith] at hi
    rw [← d1.len, ← d2.len]
    omega
def iZipD (ta : TDA) : TDI := fun r S Q E => ta r S (fun ds S1 => match ds with
  | [.ref l, .ref m] => ∃ xs ys, S1 l = some (.lst xs) ∧ S1 m = some (.lst ys) ∧ Q (zipD xs ys) (fun S => S l = some (.lst xs) ∧ S m = some (.lst ys)) S1
  | _ => False) E
theorem pdi_zip {M : List Ent} {tx : Tx} {a b : Expr} {ta : TDA} {p pos tpos : Pos} {elts : List Expr} {kk : Nat} (hM : TxOk X.prog X.w X.K X.mg X.base Z tx M) (i : Nat) (hN : tx.bl i = some ("zip" : Str)) (ha : PDA X Z [a, b] ta) (hg : Gl X "zip" := by rfl) (hs : starEach [a, b] X.env = (false, eval a X.env) :: starEach [b] X.env := by rfl) (hpl : (backTo pos (starEach [b] X.env)).any (·.1) = false := by rfl) : PDI X Z (.Tuple elts kk tpos) (.Call (.Name "zip" p) [a, b] [] pos) (iZipD ta) := fun W tk => by
  refine PI.imp (pi_zip hg (hM.bl i _ hN) (ha W tk) hs hpl) fun σ H R h => ?_
  obtain ⟨r, S, Q0, E0, RR, q, k, kE⟩ := h
  refine ⟨r, S, _, E0, RR, q, fun ds S1 vs H1 e1 st1 dv1 q1 => ?_, kE⟩
  match ds, q1, dv1 with
  | [.ref l, .ref m], q1, dv1 =>
    obtain ⟨xs, ys, sa, sb, q2⟩ := q1
    obtain ⟨w, w2, rfl, dw, dw2⟩ := two_of dv1
    obtain ⟨vs, h1, d1⟩ := sr_lst st1 sa
    obtain ⟨ws, h2, d2⟩ := sr_lst st1 sb
    exact ⟨l, m, vs, ws, by rw [dv_ref.mp dw, dv_ref.mp dw2], SqL.of h1, SqL.of h2, k _ _ S1 _ H1 e1 st1 y_zip q2⟩
end
end G

set_option Elab.async false
set_option linter.all false
set_option maxRecDepth 100000
set_option maxHeartbeats 4000000
/-! GQ: where a token is out: replace of written texts behind a statement that laid one. -/
namespace G
open PySem PySem.Spec PyProof.Rows L2 CwR
section
variable {X : Cx} {Z : Zt} {tx : Tx} {M : List Ent} {L : Nat} {a b e o : Expr} {es : List Expr} {pos p apos : Pos} {x m : Str}
theorem up {α : Type} {t : Sem α} {Q : α → Shared → Prop} {M : Model} {A : Around} {E : Value → Shared → Prop} {s : Shared} (h1 : 1 ≤ s.toks) (h : wpAny M A t Q E s) : wpAny M A t (fun v s' => 1 ≤ s'.toks ∧ Q v s') E s :=
  wpAny_mono (wpAny_toks_of h1 h) (fun _ _ z => z) fun _ _ z => z.2
def PE1 (X : Cx) (e : Expr) (t : TE) : Prop := ∀ (pins : List (Addr × Obj)) (s : Shared) (σ : L2.St) (H : Hp) (Q : VK), Inv X pins σ H s → t σ H Q → wpAny (model X.prog X.w) X.A (eval e X.env) (fun v s' => 1 ≤ s'.toks ∧ EP X pins σ Q v s') X.xe s
def PA1 (X : Cx) (es : List Expr) (t : TA) : Prop := ∀ (pos : Pos) (pins : List (Addr × Obj)) (s : Shared) (σ : L2.St) (H : Hp) (Q : List V → Hp → Prop), Inv X pins σ H s → t σ H Q → wpAny (model X.prog X.w) X.A (spliced (backTo pos (starEach es X.env))) (fun us s' => 1 ≤ s'.toks ∧ AP X pins σ Q us s') X.xe s
def PS1 (X : Cx) (st : Stmt) (t : TS) : Prop := ∀ (pins : List (Addr × Obj)) (s : Shared) (σ : L2.St) (H : Hp) (D : Ends), Inv X pins σ H s → t D σ H → wpAny (model X.prog X.w) X.A (exec st X.env) (fun f s' => 1 ≤ s'.toks ∧ SP X pins D f s') X.xe s
def PTT (X : Cx) (e : Expr) (t : TT) : Prop := ∀ (pins : List (Addr × Obj)) (s : Shared) (σ : L2.St) (H : Hp) (Q : Bool → Hp → Prop), 1 ≤ s.toks → Inv X pins σ H s → t σ H Q → wpAny (model X.prog X.w) X.A (isTrue e X.env (eval e X.env)) (TP X pins σ Q) X.xe s
def PD1 (X : Cx) (Z : Zt) (e : Expr) (t : TD) : Prop := ∀ W, Takes X W → PE1 X e (lift X.K Z W t)
def PDA1 (X : Cx) (Z : Zt) (es : List Expr) (t : TDA) : Prop := ∀ W, Takes X W → PA1 X es (liftA X.K Z W t)
def PDS1 (X : Cx) (Z : Zt) (st : Stmt) (t : TDS) : Prop := ∀ W, Takes X W → PS1 X st (liftS X.K Z W t)
def PDET (X : Cx) (Z : Zt) (e : Expr) (t : TD) : Prop := ∀ W, Takes X W → PET X e (lift X.K Z W t)
def PDTT (X : Cx) (Z : Zt) (e : Expr) (t : TDT) : Prop := ∀ W, Takes X W → PTT X e (liftT X.K Z W t)
def PDSsT (X : Cx) (Z : Zt) (st : List Stmt) (t : TDS) : Prop := ∀ W, Takes X W → PSsT X st (liftS X.K Z W t)
theorem pd1_int {i : Int} {j : Nat} : PD1 X Z (.Constant (.int i) j pos) (dC (.int i)) := fun W tk pins s σ H Q I h => fun Γ p hΓ => ⟨Nat.le_add_left 1 s.toks, ((pd_int (X := X) (Z := Z) (i := i) (j := j) (pos := pos)) W tk).run pins s σ H Q I h Γ p hΓ⟩
theorem pe1_op {op : Operator} {r : R2} {te tf : TE} {f : Expr} (ho : OpR X (binaryOp op) r) (ha : PE1 X e te) (hb : PE X f tf) : PE1 X (.BinOp e op f pos) (tOp r te tf) := by
  intro pins s σ H Q I h
  refine wpAny_BinOp (thn (ha pins s σ H _ I h) fun v s1 ⟨hk, x, H1, I1, r1, q1⟩ => ?_)
  exact thn (up hk (hb.run pins s1 σ H1 _ I1 q1)) fun u s2 ⟨hk2, y, H2, I2, r2, q2⟩ => up hk2 (ho pins s2 σ H2 x y v u Q I2 r1 r2 q2)
theorem pd1_op {op : Operator} {r : RD2} {ta tb : TD} (ho : OpD X Z (binaryOp op) r) (ha : PD1 X Z a ta) (hb : PD X Z b tb) : PD1 X Z (.BinOp a op b pos) (dOp r ta tb) := fun W tk pins s σ H Q I h =>
  pe1_op ho (ha W tk) (hb W tk) pins s σ H Q I (lift_op h)
theorem pa1_cons {te : TE} {ta : TA} (ha : PE X e te) (hr : PA1 X es ta) (hs : starEach (e :: es) X.env = (false, eval e X.env) :: starEach es X.env := by rfl) : PA1 X (e :: es) (tCons te ta) := by
  intro pos pins s σ H Q I h
  rw [hs]
  show wpAny _ _ (spliced ((false, eval e X.env) :: backTo pos (starEach es X.env))) _ _ s
  refine Calls.spliced_cons (thn (ha.run pins s σ H _ I h) fun v s1 ⟨x, H1, I1, r1, q1⟩ => ?_)
  exact thn (hr pos pins s1 σ H1 _ I1 q1) fun us s2 ⟨hk, xs, H2, I2, r2, q2⟩ => ⟨hk, x :: xs, H2, I2, .cons r1 r2, q2⟩
theorem pa1_head {te : TE} {ta : TA} (ha : PE1 X e te) (hr : PA X es ta) (hs : starEach (e :: es) X.env = (false, eval e X.env) :: starEach es X.env := by rfl) : PA1 X (e :: es) (tCons te ta) := by
  intro pos pins s σ H Q I h
  rw [hs]
  show wpAny _ _ (spliced ((false, eval e X.env) :: backTo pos (starEach es X.env))) _ _ s
  refine Calls.spliced_cons (thn (ha pins s σ H _ I h) fun v s1 ⟨hk, x, H1, I1, r1, q1⟩ => ?_)
  exact thn (up hk (hr.run pos pins s1 σ H1 _ I1 q1)) fun us s2 ⟨hk, xs, H2, I2, r2, q2⟩ => ⟨hk, x :: xs, H2, I2, .cons r1 r2, q2⟩
theorem lift_cons {K : PySem.W.Frag} {W : WX} {t : TD} {u : TDA} {σ : L2.St} {H : Hp} {Q : List V → Hp → Prop} (h : liftA K Z W (dCons t u) σ H Q) : tCons (lift K Z W t) (liftA K Z W u) σ H Q := by
  obtain ⟨p, S, Q0, E0, R, q, k, kE⟩ := h
  refine ⟨p, S, _, E0, R, q, fun x S1 v H1 e1 st1 dv1 q1 => ?_, kE⟩
  exact ⟨p, S1, _, E0, R.go e1 st1, q1, fun xs S2 vs H2 e2 st2 dv2 q2 => k _ S2 _ H2 (e1.trans e2) st2 (DVs.cons (dv1.mono e2.evo) dv2) q2, fun c S2 dd H2 e2 => kE c S2 dd H2 (e1.trans e2)⟩
theorem pda1_cons {t : TD} {u : TDA} (he : PD X Z e t) (hr : PDA1 X Z es u) (hs : starEach (e :: es) X.env = (false, eval e X.env) :: starEach es X.env := by rfl) : PDA1 X Z (e :: es) (dCons t u) := fun W tk pos pins s σ H Q I h =>
  pa1_cons (he W tk) (hr W tk) hs pos pins s σ H Q I (lift_cons h)
theorem pda1_head {t : TD} {u : TDA} (he : PD1 X Z e t) (hr : PDA X Z es u) (hs : starEach (e :: es) X.env = (false, eval e X.env) :: starEach es X.env := by rfl) : PDA1 X Z (e :: es) (dCons t u) := fun W tk pos pins s σ H Q I h =>
  pa1_head (he W tk) (hr W tk) hs pos pins s σ H Q I (lift_cons h)
theorem pd1_call {t : TDA} (hM : TxOk X.prog X.w X.K X.mg X.base Z tx M) (hr : Room L X.A) (i : Nat) (n : Nat) (hN : tx.gn i = some x) (hg : Gl X x) (ha : PDA1 X Z (e :: es) t)
    (hdb : (x == ("__debug__" : Str)) = false := by decide) (he : starEach (e :: es) X.env = (false, eval e X.env) :: starEach es X.env := by rfl) (hpl : (backTo pos (starEach es X.env)).any (·.1) = false := by rfl) :
    PD1 X Z (.Call (.Name x p) (e :: es) [] pos) (dCall M L i n t) := fun W tk => by
  intro pins s σ H Q I h
  obtain ⟨r, S, Q0, E0, R, ⟨en, hi, hf, q⟩, k, kE⟩ := h
  obtain ⟨f, hm, hk, F⟩ := hM.fn i x en hN hi hf.2.2.2
  obtain ⟨fd, ps, F, hl, hb⟩ := F.ok
  obtain ⟨dvs, ds, hb, hd, hv⟩ := hb _ (fill_ok hf)
  refine wpAny_Call_Name_kw (ld_glob I hg hm ?_ hdb)
  refine PySem.W.callWith_K (h₀ := X.base) I.ok.mod.kin hk (thn (ha W tk pos pins s σ H _ I ⟨r, S, _, E0, R, q, fun ds S1 vs H1 e1 st1 dv1 q1 => liftSp_of (r := r) e1 st1 dv1 (hv H1) q1 k kE, kE⟩) fun us s1 ⟨h1, vs, H1, I1, rr, qq⟩ => ⟨I1.kIn, ?_⟩) he hpl
  exact up h1 (run_fnSD (E := WE W) F (hr.mono hf.1) hb hd (passAt tk σ) I1 rr qq)
theorem pd1_ty {t : TDA} {r : RDC} {T : String} (hM : TxOk X.prog X.w X.K X.mg X.base Z tx M) (hc : CallD X Z (.type T) r) (i : Nat) (hN : tx.bl i = some x) (hg : Gl X x) (hv : bootBuiltins x = some (.type T)) (ha : PDA1 X Z (e :: es) t)
    (hn : x ≠ "__name__" := by decide) (hdb : (x == ("__debug__" : Str)) = false := by decide) (he : starEach (e :: es) X.env = (false, eval e X.env) :: starEach es X.env := by rfl) (hpl : (backTo pos (starEach es X.env)).any (·.1) = false := by rfl) :
    PD1 X Z (.Call (.Name x p) (e :: es) [] pos) (dBi r t) := fun W tk => by
  intro pins s σ H Q I h
  have h := lift_bi h
  refine wpAny_Call_Name_kw (ld_blt I hg (hM.bl i x hN) hv ?_ hn hdb)
  exact PyProof.Rows.callWith_type1 (thn (ha W tk pos pins s σ H _ I h) fun us s1 ⟨h1, vs, H1, I1, r1, q1⟩ => up h1 (hc pins s1 σ H1 vs us Q I1 r1 q1)) he hpl
theorem pds1_set {te : TD} {pos' : Pos} {i : Nat} (hN : X.N.Nodup) (he : PD1 X Z e te) (hi : X.N[i]? = some x := by rfl) (hx : Loc X.env.scope x := by first | exact .inl rfl | exact .inr rfl) (hs : swapsWith e (some (.Name x pos')) pos.line X.env = pure false := by rfl) (hf : X.fn x = true ∨ X.env.scope.names.lookup x = some .local := by first | exact .inl rfl | exact .inr rfl) :
    PDS1 X Z (.Assign [.Name x pos'] e pos) (dAsg te (gN i)) := fun W tk => by
  intro pins s σ H D I h
  obtain ⟨r, S, D0, R, q, k⟩ := h
  refine wpAny_Assign_Name (thn (he W tk pins s σ H (fun v H1 => D.nx (σ.set i (some v)) H1) I ⟨r, S, _, _, R, q, fun d S1 v H1 e1 st1 dv1 q1 => k.nx _ S1 _ H1 e1 ⟨(R.sl.mono e1.evo).set i dv1, st1⟩ q1, k.exx R⟩) fun v s1 ⟨h1, y, H1, I1, r1, q1⟩ => ?_) hs
  exact up h1 (store_ok I1 hN hi hx r1 (fun s2 I2 => ⟨_, H1, I2, q1⟩) hf)
theorem pdss_tick {st : Stmt} {rest : List Stmt} {t u : TDS} (h1 : PDS1 X Z st t) (h2 : PDSsT X Z rest u) : PDSs X Z (st :: rest) (dSeq t u) := fun W tk => by
  refine ⟨fun pins s σ H D I h => ?_⟩
  obtain ⟨r, S, D0, R, q, k⟩ := h
  refine wpAny_execs_cons (thn (h1 W tk pins s σ H { D with nx := liftS X.K Z W u D } I ⟨r, S, _, R, q, ⟨fun r' S' σ' H' e R' q' => ⟨r', S', D0, R', q', k.go e⟩, k.rt, k.bk, k.ct, k.ex⟩⟩) fun f s1 q => ?_)
  obtain ⟨hk, q⟩ := q
  cases f with
  | next =>
    obtain ⟨σ', H', I', q⟩ := q
    exact h2 W tk pins s1 σ' H' D hk I' q
  | ret v => exact q
  | brk => exact q
  | cont => exact q
theorem pdsst_if {c : Expr} {sa sb : List Stmt} {tc : TDT} {t u : TDS} (hc : PDTT X Z c tc) (ha : PDSs X Z sa t) (hb : PDSs X Z sb u) : PDSsT X Z [.If c sa sb pos] (dIfS tc t u) := fun W tk => by
  have key : PST X (.If c sa sb pos) (liftS X.K Z W (dIfS tc t u)) := by
    intro pins s σ H D h0 I h
    obtain ⟨r, S, D0, R, q, k⟩ := h
    refine wpAny_If (thn (hc W tk pins s σ H (fun b H' => if b = true then liftS X.K Z W t D σ H' else liftS X.K Z W u D σ H') h0 I ⟨r, S, _, _, R, q, fun b S' H' e st q' => ?_, k.exx R⟩) fun b s1 ⟨H1, I1, q1⟩ => ?_)
    · cases b with
      | true => exact iteT ⟨r, S', D0, R.go e st, (if_pos rfl).mp q', k.go e⟩
      | false => exact iteF ⟨r, S', D0, R.go e st, (if_neg Bool.false_ne_true).mp q', k.go e⟩
    · cases b with
      | true => exact (ha W tk).run pins s1 σ H1 D I1 ((if_pos rfl).mp q1)
      | false => exact (hb W tk).run pins s1 σ H1 D I1 ((if_neg Bool.false_ne_true).mp q1)
  intro pins s σ H D h0 I h
  have := psst_one key pins s σ H D h0 I
  exact this h
theorem pdtt_or {rest : List Expr} {tA tB : TDT} (ha : PDTT X Z a tA) (hb : PDW X Z (.BoolOp .Or (b :: rest) pos) tB) : PDTT X Z (.BoolOp .Or (a :: b :: rest) pos) (dOr tA tB) := fun W tk => by
  intro pins s σ H Q h0 I h
  obtain ⟨p, S, Q0, E0, R, q, k, kE⟩ := h
  refine isTrue_or (thn (ha W tk pins s σ H (fun c H1 => if c = true then Q true H1 else liftT X.K Z W tB σ H1 Q) h0 I ⟨p, S, _, E0, R, q, fun c S' H' e st q' => ?_, kE⟩) fun c s1 ⟨H1, I1, q1⟩ => ?_)
  · cases c with
    | false => exact iteF ⟨p, S', Q0, E0, R.go e st, (if_neg Bool.false_ne_true).mp q', fun b' S2 H2 e2 => k b' S2 H2 (e.trans e2), fun c S2 dd H2 e2 => kE c S2 dd H2 (e.trans e2)⟩
    | true => exact iteT (k true S' H' e st ((if_pos rfl).mp q'))
  · cases c with
    | true => exact ⟨H1, I1, (if_pos rfl).mp q1⟩
    | false => exact (hb W tk).run _ pins s1 σ H1 Q I1 ((if_neg Bool.false_ne_true).mp q1)
theorem pdtt_cmp {op : CmpOp} {r : RD2} {ta tb : TD} (ho : OpD X Z (compareOp op) r) (ha : PDET X Z a ta) (hb : PD X Z b tb) (hm : behindInMarks op b = false := by first | exact nobehind _ (by decide) (by decide) | rfl) : PDTT X Z (.Compare a [op] [b] pos) (dTest (dOp r ta tb)) := fun W tk => by
  intro pins s σ H Q h0 I h
  have h := lift_op (lift_test h)
  refine wpAny_isTrue_Compare1 (thn (ha W tk pins s σ H _ h0 I h) fun v s1 ⟨x, H1, I1, r1, q1⟩ => thn ((hb W tk).run pins s1 σ H1 _ I1 q1) fun u s2 ⟨y, H2, I2, r2, q2⟩ =>
    thn (ho pins s2 σ H2 x y v u _ I2 r1 r2 q2) fun c s3 ⟨z, H3, I3, r3, k, e, q3⟩ => ?_) hm
  subst e
  cases r3
  exact wpAny_truthy_bool ⟨H3, I3, q3⟩
def dReplC (to : TD) (y z : Str) : TD := fun r S Q E => to r S (fun d S1 => match d with | .str x => x.length + (x.length + 1) * z.length ≤ 16777216 ∧ Q (.str (Txt.replace x y z)) S1 | _ => False) E
theorem pdet_repl {to : TD} {y z : Str} {j k : Nat} {c0 c1 : Pos} (ho : PD X Z o to) (hyz : (y == z) = false := by decide)
    (hst : starEach [.Constant (.str y) j c0, .Constant (.str z) k c1] X.env = [(false, eval (.Constant (.str y) j c0) X.env), (false, eval (.Constant (.str z) k c1) X.env)] := by rfl)
    (hbase : attributeBase o "replace" X.env (eval o X.env) = eval o X.env := by rfl) (hline : (apos.endLine == pos.line) = true := by rfl) :
    PDET X Z (.Call (.Attribute o "replace" apos) [.Constant (.str y) j c0, .Constant (.str z) k c1] [] pos) (dReplC to y z) := fun W tk => by
  intro pins s σ H Q h0 I h
  refine pet_replC (ho W tk) hyz hst hbase hline pins s σ H Q h0 I ?_
  obtain ⟨p, S, Q0, E0, R, q, k, kE⟩ := h
  refine ⟨p, S, _, E0, R, q, fun d S' v H' e st dv q' => ?_, kE⟩
  cases d with
  | str x => exact ⟨x, dv_str.mp dv, q'.1, k _ S' _ H' e st (dv_str.mpr rfl) q'.2⟩
  | _ => exact q'.elim
end
end G

set_option Elab.async false
set_option linter.all false
set_option maxRecDepth 100000
set_option maxHeartbeats 4000000
namespace K08
open PySem PySem.Spec PyProof.Rows L2 G
def top (i : Nat) : Stmt := PySem.Challenge.pw_cellstack_k08_numbers_as_they_are_shown.main.body.getD i (.Pass ⟨0, 0, 0, 0⟩)
abbrev s_ten_to : Stmt := top 8
theorem sc_ten_to : FnScope ["power", "found", "step"] ["power"] (defScope s_ten_to) := ⟨rfl, rfl, rfl, by decide +kernel, rfl, by decide +kernel, by decide +kernel⟩
abbrev s_greatest_part : Stmt := top 9
theorem sc_greatest_part : FnScope ["one", "other"] ["one", "other"] (defScope s_greatest_part) := ⟨rfl, rfl, rfl, by decide +kernel, rfl, by decide +kernel, by decide +kernel⟩
abbrev s_number : Stmt := top 10
theorem sc_number : FnScope ["part", "whole", "share"] ["part", "whole"] (defScope s_number) := ⟨rfl, rfl, rfl, by decide +kernel, rfl, by decide +kernel, by decide +kernel⟩
abbrev s_is_wrong : Stmt := top 11
theorem sc_is_wrong : FnScope ["value"] ["value"] (defScope s_is_wrong) := ⟨rfl, rfl, rfl, by decide +kernel, rfl, by decide +kernel, by decide +kernel⟩
abbrev s_is_number : Stmt := top 12
theorem sc_is_number : FnScope ["value"] ["value"] (defScope s_is_number) := ⟨rfl, rfl, rfl, by decide +kernel, rfl, by decide +kernel, by decide +kernel⟩
abbrev s_number_text : Stmt := top 14
theorem sc_number_text : FnScope ["value", "part", "whole", "sign", "figures", "scale", "digits"] ["value"] (defScope s_number_text) := ⟨rfl, rfl, rfl, by decide +kernel, rfl, by decide +kernel, by decide +kernel⟩
abbrev s_as_text : Stmt := top 13
theorem sc_as_text : FnScope ["value"] ["value"] (defScope s_as_text) := ⟨rfl, rfl, rfl, by decide +kernel, rfl, by decide +kernel, by decide +kernel⟩
abbrev s_rounded : Stmt := top 15
theorem sc_rounded : FnScope ["value", "places", "part", "whole", "scale", "sign", "found"] ["value", "places"] (defScope s_rounded) := ⟨rfl, rfl, rfl, by decide +kernel, rfl, by decide +kernel, by decide +kernel⟩
abbrev s_Format___init__ : Stmt := inClass (top 18) 0
theorem sc_Format___init__ : FnScope ["self", "head", "least", "parted", "places", "tail", "share", "signed"] ["self", "head", "least", "parted", "places", "tail", "share", "signed"] (defScope s_Format___init__) := ⟨rfl, rfl, rfl, by decide +kernel, rfl, by decide +kernel, by decide +kernel⟩
abbrev s_parted_figures : Stmt := top 19
theorem sc_parted_figures : FnScope ["figures", "found", "left", "part"] ["figures"] (defScope s_parted_figures) := ⟨rfl, rfl, rfl, by decide +kernel, rfl, by decide +kernel, by decide +kernel⟩
abbrev s_Format_text : Stmt := inClass (top 18) 1
theorem sc_Format_text : FnScope ["self", "value", "found", "scale", "digits", "whole", "rest", "sign"] ["self", "value"] (defScope s_Format_text) := ⟨rfl, rfl, rfl, by decide +kernel, rfl, by decide +kernel, by decide +kernel⟩
abbrev s_parse_format : Stmt := top 20
theorem sc_parse_format : FnScope ["text", "signed", "rest", "share", "start", "end", "figures", "places", "stop", "least"] ["text"] (defScope s_parse_format) := ⟨rfl, rfl, rfl, by decide +kernel, rfl, by decide +kernel, by decide +kernel⟩
abbrev s__law_dice : Stmt := top 22
theorem sc__law_dice : FnScope ["cell"] ["cell"] (defScope s__law_dice) := ⟨rfl, rfl, rfl, by decide +kernel, rfl, by decide +kernel, by decide +kernel⟩
abbrev s__law_roll : Stmt := top 23
theorem sc__law_roll : FnScope ["dice", "many", "found"] ["dice", "many"] (defScope s__law_roll) := ⟨rfl, rfl, rfl, by decide +kernel, rfl, by decide +kernel, by decide +kernel⟩
abbrev s__law_rounds : Stmt := top 24
theorem sc__law_rounds : FnScope ["script", "most", "cells", "cell"] ["script", "most"] (defScope s__law_rounds) := ⟨rfl, rfl, rfl, by decide +kernel, rfl, by decide +kernel, by decide +kernel⟩
abbrev s__law_told : Stmt := top 25
theorem sc__law_told : FnScope ["what"] ["what"] (defScope s__law_told) := ⟨rfl, rfl, rfl, by decide +kernel, rfl, by decide +kernel, by decide +kernel⟩
abbrev s__law_num : Stmt := top 26
theorem sc__law_num : FnScope ["part", "whole", "one", "other"] ["part", "whole"] (defScope s__law_num) := ⟨rfl, rfl, rfl, by decide +kernel, rfl, by decide +kernel, by decide +kernel⟩
abbrev s__law_shown : Stmt := top 35
theorem sc__law_shown : FnScope ["value", "head", "figures", "places", "tail", "share", "signed", "part", "whole", "scale", "k", "near", "front", "back", "sign", "parts"] ["value", "head", "figures", "places", "tail", "share", "signed"] (defScope s__law_shown) := ⟨rfl, rfl, rfl, by decide +kernel, rfl, by decide +kernel, by decide +kernel⟩
abbrev s_law : Stmt := top 36
theorem sc_law : FnScope ["script", "dice", "plain", "bad", "turn", "figures", "places", "head", "tail", "share", "signed", "pattern", "found", "value", "f", "k", "part"] ["script"] (defScope s_law) := ⟨rfl, rfl, rfl, by decide +kernel, rfl, by decide +kernel, by decide +kernel⟩
def fnT : List Str := ["head", "least", "parted", "places", "tail", "share", "signed", "text", "__init__"]
def lmT (j : Nat) : Option LamR := match j with
  | 0 => some (lamOf "law.<locals>.<lambda>" (lstAt (asgVal ((defBody s_law).getD 3 (.Pass ⟨0, 0, 0, 0⟩))) 0))
  | 1 => some (lamOf "law.<locals>.<lambda>" (lstAt (asgVal ((defBody s_law).getD 3 (.Pass ⟨0, 0, 0, 0⟩))) 1))
  | 2 => some (lamOf "law.<locals>.<lambda>" (lstAt (asgVal ((defBody s_law).getD 3 (.Pass ⟨0, 0, 0, 0⟩))) 2))
  | 3 => some (lamOf "law.<locals>.<lambda>" (lstAt (asgVal ((defBody s_law).getD 3 (.Pass ⟨0, 0, 0, 0⟩))) 3))
  | 4 => some (lamOf "law.<locals>.<lambda>" (lstAt (asgVal ((defBody s_law).getD 3 (.Pass ⟨0, 0, 0, 0⟩))) 4))
  | 5 => some (lamOf "law.<locals>.<lambda>" (lstAt (asgVal ((defBody s_law).getD 3 (.Pass ⟨0, 0, 0, 0⟩))) 5))
  | 6 => some (lamOf "law.<locals>.<lambda>" (lstAt (asgVal ((defBody s_law).getD 3 (.Pass ⟨0, 0, 0, 0⟩))) 6))
  | 7 => some (lamOf "law.<locals>.<lambda>" (lstAt (asgVal ((defBody s_law).getD 3 (.Pass ⟨0, 0, 0, 0⟩))) 7))
  | 8 => some (lamOf "law.<locals>.<lambda>" (lstAt (asgVal ((defBody s_law).getD 3 (.Pass ⟨0, 0, 0, 0⟩))) 8))
  | 9 => some (lamOf "law.<locals>.<lambda>" (lstAt (asgVal ((defBody s_law).getD 3 (.Pass ⟨0, 0, 0, 0⟩))) 9))
  | 10 => some (lamOf "law.<locals>.<lambda>" (lstAt (asgVal ((defBody s_law).getD 3 (.Pass ⟨0, 0, 0, 0⟩))) 10))
  | 11 => some (lamOf "law.<locals>.<lambda>" (lstAt (asgVal ((defBody s_law).getD 3 (.Pass ⟨0, 0, 0, 0⟩))) 11))
  | _ => none
def tx : Tx where
  gn := fun i => match i with | 0 => some "ten_to" | 1 => some "greatest_part" | 2 => some "number" | 3 => some "is_wrong" | 4 => some "is_number" | 5 => some "number_text" | 6 => some "as_text" | 7 => some "rounded" | 9 => some "parted_figures" | 11 => some "parse_format" | 12 => some "_law_dice" | 13 => some "_law_roll" | 14 => some "_law_roll" | 15 => some "_law_rounds" | 28 => some "_law_told" | 29 => some "_law_num" | 30 => some "_law_shown" | 31 => some "law" | _ => none
  cn := fun i => match i with | 0 => some "Format" | _ => none
  fl := fun c i => match c, i with | 0, 0 => true | 0, 1 => true | 0, 2 => true | 0, 3 => true | 0, 4 => true | 0, 5 => true | 0, 6 => true | _, _ => false
  mt := fun c i => match c, i with | 0, 7 => some 10 | _, _ => none
  it := fun i => match i with | 0 => some 8 | _ => none
  va := fun i => match i with | 0 => some ("MOST_DIGITS", .int 30) | 1 => some ("TOO_LARGE", .int (10 ^ 30)) | 2 => some ("DIVIDED", .tup [.str "#", .str "parted by nothing"]) | 3 => some ("LARGE", .tup [.str "#", .str "too large"]) | 4 => some ("MOST_PLACES", .int 10) | _ => none
  bl := fun i => match i with | 0 => some "len" | 1 => some "any" | 2 => some "str" | 3 => some "int" | 4 => some "range" | 5 => some "list" | 6 => some "min" | 7 => some "max" | 8 => some "abs" | 9 => some "isinstance" | 10 => some "tuple" | 11 => some "bool" | 12 => some "enumerate" | _ => none
  xn := fun i => match i with | 0 => some "TableError" | _ => none
  sb := fun i j => match i, j with | 0, 0 => some true | _, _ => none


/-! ### the mirror -/
inductive Va where
  | non | bl (b : Bool) | str (s : Str) | num (p w : Int) | wr (s : Str)
deriving DecidableEq
def vD : Va → D
  | .non => .non
  | .bl b => .bl b
  | .str s => .str s
  | .num p w => .tup [.int p, .int w]
  | .wr s => .tup [.str "#", .str s]
def mkNum (p w : Int) : Va := if w = 0 then .wr "parted by nothing" else
  let s : Int := if w < 0 then -(Int.gcd p w : Int) else (Int.gcd p w : Int)
  if (10 ^ 30 : Int) ≤ (if p.fdiv s < 0 then -(p.fdiv s) else p.fdiv s) ∨ (10 ^ 30 : Int) ≤ w.fdiv s then .wr "too large" else .num (p.fdiv s) (w.fdiv s)
def Sz (i : Int) : Prop := i.natAbs < 2 ^ 8000
def NumPre (p w : Int) : Prop := Sz p ∧ Sz w ∧ (w < 0 → Int.gcd p w < 2 ^ 30)
def isWr : Va → Bool
  | .wr _ => true
  | _ => false
def isNum : Va → Bool
  | .num _ _ => true
  | _ => false
def asNum : Va → Va
  | .non => .num 0 1
  | .num p w => .num p w
  | .wr s => .wr s
  | _ => .wr "kind"
def rk : Va → Int
  | .non => 0
  | .num _ _ => 1
  | .str _ => 2
  | .bl _ => 3
  | .wr _ => 4
/-- whether one stands before the other -/
def bef (v u : Va) : Bool := if rk v ≠ rk u then decide (rk v < rk u) else match v, u with
  | .num p w, .num q x => decide (p * x < q * w)
  | .str a, .str b => decide (a.cps.toList < b.cps.toList)
  | .bl a, .bl b => !a && b
  | .wr a, .wr b => decide (a.cps.toList < b.cps.toList)
  | _, _ => false
def bes (v u : Va) : Va := match v, u with
  | .non, .num _ _ => .num 0 1
  | .non, .str _ => .str ""
  | .non, .non => .non
  | .non, _ => .bl false
  | v, _ => v
def SzV : Va → Prop
  | .num p w => p.natAbs < 2 ^ 200 ∧ 0 < w ∧ w.natAbs < 2 ^ 200
  | .str s => PyData.strOk s = true
  | .wr s => PyData.strOk s = true
  | _ => True
theorem SzV.ok {v : Va} (h : SzV v) : okD 60 (vD v) = true := by
  cases v with
  | non => rfl
  | bl b => rfl
  | str s => exact h
  | num p w => rfl
  | wr s =>
    show (PyData.strOk (("#" : Str)) && (PyData.strOk s && true)) = true
    rw [show PyData.strOk s = true from h]
    decide +kernel
theorem SzV.bes {v u : Va} (h : SzV v) (h' : SzV u) : SzV (bes v u) := by
  cases v with
  | non =>
    cases u with
    | num p w => exact ⟨by decide, by decide, by decide⟩
    | str s => show PyData.strOk (("" : Str)) = true; decide +kernel
    | _ => trivial
  | _ => exact h
theorem deq_vD (v u : Va) : deq (vD v) (vD u) = decide (v = u) := by
  cases v <;> cases u <;> simp [vD, deq, deqs]
  all_goals first
    | rfl
    | (rw [Bool.eq_iff_iff]; simp)
    | skip
theorem opEq_vD {a b : Va} {S : DS} {Q : QD} (ha : SzV a) (hb : SzV b) (h : Q (.bl (decide (a = b))) S) : opEq (vD a) (vD b) S Q := by
  have g : okD 60 (vD a) = true ∧ okD 60 (vD b) = true ∧ Q (.bl (deq (vD a) (vD b))) S := ⟨ha.ok, hb.ok, by rw [deq_vD]; exact h⟩
  cases a <;> cases b <;> first
    | exact g
    | (simp only [Va.bl.injEq, Va.str.injEq] at h; exact h)
theorem opNe_vD {a b : Va} {S : DS} {Q : QD} (ha : SzV a) (hb : SzV b) (h : Q (.bl (!decide (a = b))) S) : opNe (vD a) (vD b) S Q := opEq_vD ha hb h
theorem SzV.asNum {v : Va} (h : SzV v) : SzV (asNum v) := by
  cases v with
  | non => exact ⟨by decide, by decide, by decide⟩
  | num p w => exact h
  | wr s => exact h
  | _ => show PyData.strOk (("kind" : Str)) = true; decide +kernel
def recV (z : Str) (v u : Va) : Va := if isWr (asNum v) then asNum v else if isWr (asNum u) then asNum u else match asNum v, asNum u with
  | .num p w, .num q x => if z = "+" then mkNum (p * x + q * w) (w * x) else if z = "-" then mkNum (p * x - q * w) (w * x) else if z = "*" then mkNum (p * q) (w * x) else mkNum (p * x) (w * q)
  | _, _ => .non
theorem mul_lt200 {a b : Int} (h : a.natAbs < 2 ^ 200) (h' : b.natAbs < 2 ^ 200) : (a * b).natAbs < 2 ^ 400 := by
  rw [Int.natAbs_mul, show (400 : Nat) = 200 + 200 from rfl, Nat.pow_add]
  exact Nat.mul_lt_mul'' h h'
theorem sz400 {i : Int} (h : i.natAbs < 2 ^ 400) : Sz i := Nat.lt_of_lt_of_le h (Nat.pow_le_pow_right (by decide) (by decide))
theorem sz401 {i : Int} (h : i.natAbs < 2 ^ 401) : Sz i := Nat.lt_of_lt_of_le h (Nat.pow_le_pow_right (by decide) (by decide))
theorem sz200 {i : Int} (h : i.natAbs < 2 ^ 200) : Sz i := Nat.lt_of_lt_of_le h (Nat.pow_le_pow_right (by decide) (by decide))
/-- how many figures behind the dot -/
def figF (w : Int) : Nat → Nat → Nat
  | k, 0 => k
  | k, n + 1 => if (10 ^ k : Int) / w * w = 10 ^ k then k else figF w (k + 1) n
def figs (w : Int) : Nat := figF w 0 13
def sgnL (p : Int) : List Nat := if p < 0 then [45] else []
def padL (k : Nat) (d : List Nat) : List Nat := List.replicate (k + 1 - d.length) 48 ++ d
def dotL (k : Nat) (e : List Nat) : List Nat := e.take (e.length - k) ++ [46] ++ e.drop (e.length - k)
def numL (p w : Int) : List Nat := if 12 < figs w then sgnL p ++ natD p.natAbs ++ [47] ++ natD w.toNat else
  if figs w = 0 then sgnL p ++ natD (p.natAbs * ((10 ^ figs w : Int) / w).toNat) else sgnL p ++ dotL (figs w) (padL (figs w) (natD (p.natAbs * ((10 ^ figs w : Int) / w).toNat)))
def asTxt : Va → Va
  | .non => .str ""
  | .bl b => .str (if b then "TRUE" else "FALSE")
  | .str s => .str s
  | .num p w => .str ⟨(numL p w).toArray⟩
  | .wr s => .wr s
theorem figF_le (w : Int) : ∀ n k, k ≤ figF w k n ∧ figF w k n ≤ k + n
  | 0, k => ⟨Nat.le_refl _, Nat.le_refl _⟩
  | n + 1, k => by
    unfold figF
    split
    · omega
    · have := figF_le w n (k + 1)
      omega
theorem short80 {l : List Nat} (h : l.length ≤ 600) : (⟨l.toArray⟩ : Str).length ≤ sizeLine := by
  show l.toArray.size ≤ 2 ^ 24
  rw [List.size_toArray]
  omega
theorem natD_len200 {n : Nat} (h : n < 2 ^ 260) : (natD n).length ≤ 80 := natD_len 79 n (Nat.lt_of_lt_of_le h (by decide))
def cmpV (z : Str) (v u : Va) : Va := if isWr v then v else if isWr u then u else
  let a := bes v u
  let b := bes u v
  if z = "=" then .bl (decide (a = b)) else if z = "<>" then .bl (!decide (a = b)) else if z = "<" then .bl (bef a b) else if z = ">=" then .bl (!bef a b) else if z = ">" then .bl (bef b a) else .bl (!bef b a)
def asTruth : Va → Va
  | .non => .bl false
  | .num p _ => .bl (p != 0)
  | .bl b => .bl b
  | .wr s => .wr s
  | .str _ => .wr "kind"
theorem abs_if (i : Int) : (if i < 0 then -i else i) = ((i.natAbs : Nat) : Int) := by split <;> omega
theorem sz_log {i : Int} (h : Sz i) : i.natAbs.log2 < 9000 := Nat.lt_trans (log2_of_lt h (by decide)) (by decide)
theorem div_pos {i : Int} (h0 : 0 < i) (h : Sz i) : DivOk i := ⟨by omega, .inr ⟨h0, sz_log h⟩⟩
theorem mul_sz {i j : Int} (h : Sz i) (h' : Sz j) : MulOk i j := .inr (by
  have h1 := sz_log h
  have h2 := sz_log h'
  unfold CMulW
  omega)

def rn (t l : Int) : Int := (if 0 ≤ t then 1 else 0 - 1) * ((2 * ((t.natAbs : Nat) : Int) + l).fdiv (2 * l))
def rndV (p w n : Int) : Va := if 30 < n.natAbs then .wr "too large" else if 0 ≤ n then mkNum (rn (p * 10 ^ n.natAbs) w) (10 ^ n.natAbs) else mkNum (rn p (w * 10 ^ n.natAbs) * 10 ^ n.natAbs) 1
def figZ : Str := "0123456789"
def plainL (t : List Nat) : List Nat := if t.head? = some 45 then t.tail else t
def headL (t : List Nat) : List Nat := t.takeWhile (· != 46)
def tailL (t : List Nat) : List Nat := (t.dropWhile (· != 46)).tail
def fromL (t : List Nat) : Va :=
  if headL (plainL t) = [] ∨ (46 ∈ plainL t ∧ tailL (plainL t) = []) ∨ 15 < (headL (plainL t) ++ tailL (plainL t)).length ∨ 12 < (tailL (plainL t)).length then .non
  else if (headL (plainL t) ++ tailL (plainL t)).any (fun c => !decide (c ∈ figZ.cps.toList)) = true then .non
  else mkNum (if t.head? = some 45 then 0 - ((PySem.NumText.digitsVal (headL (plainL t) ++ tailL (plainL t)) : Nat) : Int) else ((PySem.NumText.digitsVal (headL (plainL t) ++ tailL (plainL t)) : Nat) : Int)) (10 ^ (tailL (plainL t)).length)
def ahd (fl : Bool) (v u : Va) : Bool := if fl then bef u v else bef v u
def insR (fl : Bool) (r : Va × Int) : List (Va × Int) → List (Va × Int)
  | [] => [r]
  | x :: xs => if ahd fl r.1 x.1 = true then x :: insR fl r xs else r :: x :: xs
def isortR (fl : Bool) (rs : List (Va × Int)) : List (Va × Int) := rs.foldl (fun acc r => insR fl r acc) []
def rowD (r : Va × Int) : D := .tup [vD r.1, .int r.2]
/-- what the law draws -/
def DrawV : Va → Prop
  | .num p w => (p.natAbs ≤ 200 ∧ 0 < w ∧ w ≤ 125 ∧ Int.gcd p w = 1) ∨ (p = 10 ^ 29 + 7 ∧ w = 1) ∨ (p = 1 ∧ w = 10 ^ 20)
  | .str s => s = "" ∨ s = "a" ∨ s = "b" ∨ s = "TRUE"
  | .wr s => s = "kind" ∨ s = "lost"
  | _ => True
theorem insR_len (fl : Bool) (r : Va × Int) : ∀ l, (insR fl r l).length = l.length + 1
  | [] => rfl
  | x :: xs => by
    unfold insR
    split
    · rw [List.length_cons, insR_len fl r xs, List.length_cons]
    · rfl
theorem insR_mem (fl : Bool) (r y : Va × Int) : ∀ l, y ∈ insR fl r l ↔ y = r ∨ y ∈ l
  | [] => by unfold insR; simp
  | x :: xs => by
    unfold insR
    split
    · rw [List.mem_cons, insR_mem fl r y xs, List.mem_cons]
      constructor
      · rintro (h | h | h)
        · exact .inr (.inl h)
        · exact .inl h
        · exact .inr (.inr h)
      · rintro (h | h | h)
        · exact .inr (.inl h)
        · exact .inl h
        · exact .inr (.inr h)
    · rw [List.mem_cons]
theorem isortR_snoc (fl : Bool) (rs : List (Va × Int)) (x : Va × Int) : isortR fl (rs ++ [x]) = insR fl x (isortR fl rs) := by
  unfold isortR
  rw [List.foldl_append]
  rfl
theorem isortR_len (fl : Bool) : ∀ (n : Nat) (rs : List (Va × Int)), rs.length = n → (isortR fl rs).length = n := by
  intro n
  induction n with
  | zero => intro rs h; rw [List.length_eq_zero_iff.mp h]; rfl
  | succ n ih =>
    intro rs h
    have hne : rs ≠ [] := by intro z; rw [z] at h; cases h
    have e := List.dropLast_concat_getLast hne
    rw [← e, isortR_snoc, insR_len, ih _ (by rw [List.length_dropLast, h]; rfl)]
theorem isortR_mem (fl : Bool) (y : Va × Int) : ∀ (n : Nat) (rs : List (Va × Int)), rs.length = n → (y ∈ isortR fl rs ↔ y ∈ rs) := by
  intro n
  induction n with
  | zero => intro rs h; rw [List.length_eq_zero_iff.mp h]; rfl
  | succ n ih =>
    intro rs h
    have hne : rs ≠ [] := by intro z; rw [z] at h; cases h
    have e := List.dropLast_concat_getLast hne
    rw [← e, isortR_snoc, insR_mem, ih _ (by rw [List.length_dropLast, h]; rfl), List.mem_append, List.mem_singleton]
    exact Or.comm
theorem abs_log {i : Int} (h : i.natAbs < 2 ^ 8000) : Sz i := h
theorem rn_abs (t l : Int) (h : 0 < l) : (rn t l).natAbs ≤ t.natAbs + 1 := by
  unfold rn
  rw [Int.natAbs_mul, Int.fdiv_eq_ediv_of_nonneg _ (by omega)]
  have h1 : ((2 * ((t.natAbs : Nat) : Int) + l) / (2 * l)) ≤ (t.natAbs : Int) + 1 := by
    refine Int.ediv_le_of_le_mul (by omega) ?_
    have h2 : (t.natAbs : Int) * 1 ≤ (t.natAbs : Int) * l := Int.mul_le_mul_of_nonneg_left (by omega) (by omega)
    have e : ((t.natAbs : Int) + 1) * (2 * l) = 2 * ((t.natAbs : Int) * l) + 2 * l := by
      rw [Int.add_mul, Int.one_mul, ← Int.mul_assoc, Int.mul_comm (t.natAbs : Int) 2, Int.mul_assoc]
    rw [e]
    omega
  have h0 : 0 ≤ ((2 * ((t.natAbs : Nat) : Int) + l) / (2 * l)) := Int.ediv_nonneg (by omega) (by omega)
  have h3 : ((2 * ((t.natAbs : Nat) : Int) + l) / (2 * l)).natAbs ≤ t.natAbs + 1 := by omega
  by_cases c : 0 ≤ t
  · rw [if_pos c]
    show 1 * _ ≤ _
    omega
  · rw [if_neg c]
    show 1 * _ ≤ _
    omega

theorem tw_all : ∀ (l : List Nat), 46 ∉ l → l.takeWhile (· != 46) = l ∧ l.dropWhile (· != 46) = []
  | [], _ => ⟨rfl, rfl⟩
  | c :: r, h => by
    have h1 : (c != 46) = true := by
      have : c ≠ 46 := fun z => h (by rw [z]; simp)
      simpa using this
    obtain ⟨a, b⟩ := tw_all r (fun z => h (by simp [z]))
    rw [List.takeWhile_cons, if_pos h1, List.dropWhile_cons, if_pos h1, a, b]
    exact ⟨rfl, rfl⟩
theorem mk_norm {p w p' w' : Int} (h : p' * w = p * w') (hw' : 0 < w') (hw : 0 < w) (hg : Int.gcd p w = 1) (hb : p.natAbs < 10 ^ 30) (hb' : w < 10 ^ 30) : mkNum p' w' = .num p w := by
  have hd : w ∣ w' := by
    have h1 : w ∣ p * w' := ⟨p', by rw [← h, Int.mul_comm]⟩
    have h2 : Int.gcd w (p * w') = Int.gcd w w' := Int.gcd_mul_right_right_of_gcd_eq_one (by rw [Int.gcd_comm]; exact hg)
    have h3 : Int.gcd w (p * w') = w.natAbs := Int.gcd_eq_natAbs_left_iff_dvd.mpr h1
    rw [h2] at h3
    exact Int.gcd_eq_natAbs_left_iff_dvd.mp h3
  obtain ⟨c, rfl⟩ := hd
  have c0 : 0 < c := Int.pos_of_mul_pos_right hw' hw
  have hp : p' = p * c := by
    have : p' * w = (p * c) * w := by rw [h, Int.mul_assoc, Int.mul_comm w c]
    exact Int.eq_of_mul_eq_mul_right (by omega) this
  subst hp
  have eg : Int.gcd (p * c) (w * c) = c.natAbs := by rw [Int.gcd_mul_right, hg, Nat.one_mul]
  have eg2 : ((Int.gcd (p * c) (w * c) : Nat) : Int) = c := by rw [eg]; omega
  unfold mkNum
  have hn : ¬ w * c < 0 := by omega
  rw [if_neg (by omega)]
  simp only [eg2, if_neg hn]
  have e1 : (p * c).fdiv c = p := by rw [Int.fdiv_eq_ediv_of_nonneg _ (by omega)]; exact Int.mul_ediv_cancel _ (by omega)
  have e2 : (w * c).fdiv c = w := by rw [Int.fdiv_eq_ediv_of_nonneg _ (by omega)]; exact Int.mul_ediv_cancel _ (by omega)
  rw [e1, e2, abs_if, if_neg (by omega)]
theorem draw_num (p w : Int) (h : -200 ≤ p) (h' : p ≤ 200) (hw : w = 1 ∨ w = 3 ∨ w = 4 ∨ w = 10 ∨ w = 125) : DrawV (mkNum p w) := by
  have w0 : 0 < w := by omega
  have g0 : 0 < Int.gcd p w := Int.gcd_pos_of_ne_zero_right _ (by omega)
  have h1 : ((Int.gcd p w : Nat) : Int) ∣ p := Int.gcd_dvd_left ..
  have h2 : ((Int.gcd p w : Nat) : Int) ∣ w := Int.gcd_dvd_right ..
  have h3 : Int.gcd (p / (Int.gcd p w : Nat)) (w / (Int.gcd p w : Nat)) = 1 := Int.gcd_ediv_gcd_ediv_gcd g0
  generalize Int.gcd p w = g at *
  obtain ⟨x, rfl⟩ := h1
  obtain ⟨y, rfl⟩ := h2
  rw [Int.mul_ediv_cancel_left _ (by omega), Int.mul_ediv_cancel_left _ (by omega)] at h3
  have y0 : 0 < y := Int.pos_of_mul_pos_right w0 (by omega)
  have b1 : x.natAbs ≤ 200 := by
    have e : (((g : Nat) : Int) * x).natAbs = g * x.natAbs := by rw [Int.natAbs_mul, Int.natAbs_natCast]
    have e2 : 1 * x.natAbs ≤ g * x.natAbs := Nat.mul_le_mul_right _ g0
    omega
  have b2 : y ≤ 125 := by
    have e2 : 1 * y ≤ (g : Int) * y := Int.mul_le_mul_of_nonneg_right (by omega) (by omega)
    omega
  rw [mk_norm (p := x) (w := y) (by rw [Int.mul_comm (g : Int) x, Int.mul_assoc]) (by omega) y0 h3 (by omega) (by omega)]
  exact .inl ⟨b1, y0, b2, h3⟩


/-! ### formats -/
structure Fm where
  head : List Nat
  least : Nat
  parted : Bool
  places : Nat
  tail : List Nat
  share : Bool
  signed : Bool
deriving DecidableEq
def fF (m : Fm) : List (Nat × D) := [(0, .str ⟨m.head.toArray⟩), (1, .int (m.least : Int)), (2, .bl m.parted), (3, .int (m.places : Int)), (4, .str ⟨m.tail.toArray⟩), (5, .bl m.share), (6, .bl m.signed)]
def fmOk (h : List Nat) (least places : Int) (tl : List Nat) : Bool := decide (0 ≤ least ∧ least ≤ 10) && decide (0 ≤ places ∧ places ≤ 10) && !((h ++ tl).any fun c => decide (c ∈ ("0#,." : Str).cps.toList))
def partF : Nat → List Nat → List Nat
  | 0, l => l
  | n + 1, l => if l.length ≤ 3 then l else partF n (l.take (l.length - 3)) ++ 44 :: l.drop (l.length - 3)
/-- figures with a sign ahead of each three from the end -/
def partL (l : List Nat) : List Nat := partF l.length l
theorem partF_eq : ∀ (n m : Nat) (l : List Nat), l.length ≤ n → l.length ≤ m → partF n l = partF m l := by
  intro n
  induction n with
  | zero =>
    intro m l h _
    have : l = [] := List.length_eq_zero_iff.mp (by omega)
    subst this
    cases m <;> rfl
  | succ n ih =>
    intro m l h h'
    cases m with
    | zero =>
      have : l = [] := List.length_eq_zero_iff.mp (by omega)
      subst this
      rfl
    | succ m =>
      unfold partF
      by_cases c : l.length ≤ 3
      · rw [if_pos c, if_pos c]
      · rw [if_neg c, if_neg c, ih m _ (by rw [List.length_take]; omega) (by rw [List.length_take]; omega)]
theorem partL_small {l : List Nat} (h : l.length ≤ 3) : partL l = l := by
  unfold partL
  cases e : l.length with
  | zero => rfl
  | succ n =>
    unfold partF
    rw [if_pos h]
theorem partL_big {l : List Nat} (h : 3 < l.length) : partL l = partL (l.take (l.length - 3)) ++ 44 :: l.drop (l.length - 3) := by
  unfold partL
  cases e : l.length with
  | zero => omega
  | succ n =>
    conv => lhs; unfold partF
    rw [if_neg (by omega), e, partF_eq n _ _ (by rw [List.length_take]; omega) (Nat.le_refl _)]
theorem cut3_from {l : List Nat} (h : 3 < l.length) : L2.cutS ⟨l.toArray⟩ (some (((l.length : Nat) : Int) - 3)) none = ⟨(l.drop (l.length - 3)).toArray⟩ := by
  rw [show ((l.length : Nat) : Int) - 3 = ((l.length - 3 : Nat) : Int) by omega, cutS_from (by rw [len_mk]; omega)]
theorem cut3_to {l : List Nat} (h : 3 < l.length) : L2.cutS ⟨l.toArray⟩ none (some (((l.length : Nat) : Int) - 3)) = ⟨(l.take (l.length - 3)).toArray⟩ := by
  rw [show ((l.length : Nat) : Int) - 3 = ((l.length - 3 : Nat) : Int) by omega, cutS_to (by rw [len_mk]; omega)]
theorem sh {l : List Nat} (h : l.length ≤ 100000) : (⟨l.toArray⟩ : Str).length ≤ sizeLine := by rw [len_mk, sizeLine_eq]; omega
theorem sh2 {l m : List Nat} (h : l.length + m.length ≤ 100000) : (⟨l.toArray⟩ : Str).length + (⟨m.toArray⟩ : Str).length ≤ sizeLine := by rw [len_mk, len_mk, sizeLine_eq]; omega

def shownP (m : Fm) (a b : Int) : List Nat :=
  (if a < 0 then [45] else if m.signed = true ∧ 0 < a then [43] else []) ++ m.head ++
  (if m.parted = true then partL (if (padL m.places (natD (a.natAbs * ((10 ^ m.places : Int) / b).toNat))).take ((padL m.places (natD (a.natAbs * ((10 ^ m.places : Int) / b).toNat))).length - m.places) = [48] ∧ m.least = 0 then [] else List.replicate (m.least - ((padL m.places (natD (a.natAbs * ((10 ^ m.places : Int) / b).toNat))).take ((padL m.places (natD (a.natAbs * ((10 ^ m.places : Int) / b).toNat))).length - m.places)).length) 48 ++ (padL m.places (natD (a.natAbs * ((10 ^ m.places : Int) / b).toNat))).take ((padL m.places (natD (a.natAbs * ((10 ^ m.places : Int) / b).toNat))).length - m.places))
   else (if (padL m.places (natD (a.natAbs * ((10 ^ m.places : Int) / b).toNat))).take ((padL m.places (natD (a.natAbs * ((10 ^ m.places : Int) / b).toNat))).length - m.places) = [48] ∧ m.least = 0 then [] else List.replicate (m.least - ((padL m.places (natD (a.natAbs * ((10 ^ m.places : Int) / b).toNat))).take ((padL m.places (natD (a.natAbs * ((10 ^ m.places : Int) / b).toNat))).length - m.places)).length) 48 ++ (padL m.places (natD (a.natAbs * ((10 ^ m.places : Int) / b).toNat))).take ((padL m.places (natD (a.natAbs * ((10 ^ m.places : Int) / b).toNat))).length - m.places))) ++
  (if 0 < m.places then 46 :: (padL m.places (natD (a.natAbs * ((10 ^ m.places : Int) / b).toNat))).drop ((padL m.places (natD (a.natAbs * ((10 ^ m.places : Int) / b).toNat))).length - m.places) else []) ++ m.tail
def largeL : List Nat := [35, 116, 111, 111, 32, 108, 97, 114, 103, 101]
def rndF (m : Fm) : Va → Va
  | .num a b => rndV a b m.places
  | x => x
def shownF (m : Fm) : Va → List Nat
  | .num a b => shownP m a b
  | _ => largeL
def strL : Va → List Nat
  | .str s => s.cps.toList
  | _ => []
def fmtT (m : Fm) : Va → List Nat
  | .num p w => shownF m (rndF m (if m.share = true then mkNum (p * 100) w else .num p w))
  | .wr s => 35 :: s.cps.toList
  | v => strL (asTxt v)
theorem str_eta (s : Str) : (⟨s.cps.toList.toArray⟩ : Str) = s := by cases s; simp
theorem mkNum_sz (p w : Int) : SzV (mkNum p w) := by
  have p30 : (10 : Nat) ^ 30 < 2 ^ 200 := by decide
  unfold mkNum
  by_cases h : w = 0
  · rw [if_pos h]; show PyData.strOk _ = true; decide +kernel
  rw [if_neg h]
  have g0 : 0 < Int.gcd p w := Int.gcd_pos_of_ne_zero_right _ h
  have hd : ((Int.gcd p w : Nat) : Int) ∣ w := Int.gcd_dvd_right ..
  generalize Int.gcd p w = g at *
  obtain ⟨c, rfl⟩ := hd
  simp only []
  have key : ∀ s : Int, s = (if (g : Int) * c < 0 then -(g : Int) else (g : Int)) → 0 < ((g : Int) * c).fdiv s := fun s hs => by
    by_cases c0 : (g : Int) * c < 0
    · rw [if_pos c0] at hs
      have e : (g : Int) * c = s * (-c) := by rw [hs, Int.neg_mul_neg]
      rw [e, Int.mul_fdiv_cancel_left _ (by omega)]
      have : c < 0 := by
        by_cases z : c < 0
        · exact z
        · have := Int.mul_nonneg (a := (g : Int)) (b := c) (by omega) (by omega); omega
      omega
    · rw [if_neg c0] at hs
      rw [hs, Int.mul_fdiv_cancel_left _ (by omega)]
      have : 0 < c := by
        have h1 : (g : Int) * c ≠ 0 := h
        have h2 : 0 < (g : Int) * c := by omega
        exact Int.pos_of_mul_pos_right h2 (by omega)
      exact this
  have k1 := key _ rfl
  generalize (if (g : Int) * c < 0 then -(g : Int) else (g : Int)) = s at *
  rw [abs_if]
  by_cases h2 : (10 ^ 30 : Int) ≤ (((p.fdiv s).natAbs : Nat) : Int) ∨ (10 ^ 30 : Int) ≤ ((g : Int) * c).fdiv s
  · rw [if_pos h2]; show PyData.strOk _ = true; decide +kernel
  · rw [if_neg h2]
    refine ⟨Nat.lt_trans ?_ p30, k1, Nat.lt_trans ?_ p30⟩ <;> omega
theorem rndV_sz (p w n : Int) : SzV (rndV p w n) := by
  unfold rndV
  split
  · show PyData.strOk _ = true; decide +kernel
  split
  · exact mkNum_sz _ _
  · exact mkNum_sz _ _
theorem partF_len : ∀ (n : Nat) (l : List Nat), (partF n l).length ≤ 2 * l.length
  | 0, l => by unfold partF; omega
  | n + 1, l => by
    unfold partF
    split
    · omega
    · have := partF_len n (l.take (l.length - 3))
      rw [List.length_append, List.length_cons, List.length_drop]
      rw [List.length_take] at this
      omega
theorem partL_len (l : List Nat) : (partL l).length ≤ 2 * l.length := partF_len _ _
theorem rep_eq {x : Int} {n : Nat} (h : x.toNat = n) (l : List Nat) : repS ("0" : Str) x ++ ⟨l.toArray⟩ = (⟨(List.replicate n 48 ++ l).toArray⟩ : Str) := by
  refine str_ext ?_
  show ((List.replicate x.toNat [48]).flatten.toArray ++ l.toArray).toList = _
  rw [h]
  simp
theorem rep_len {x : Int} {n : Nat} (h : x.toNat = n) : (repS ("0" : Str) x).length = n := by
  show ((List.replicate x.toNat [48]).flatten.toArray).size = n
  rw [h]
  simp
theorem rep_ok {x : Int} (h : -1000 ≤ x ∧ x ≤ 1000) : -(2 ^ 62) ≤ x ∧ x < 2 ^ 62 ∧ ("0" : Str).length * x.toNat ≤ sizeLine := by
  refine ⟨by omega, by omega, ?_⟩
  rw [sizeLine_eq]
  show 1 * x.toNat ≤ _
  omega
theorem max0 (x : Int) : (if x > 0 then x else 0).toNat = x.toNat := by split <;> omega
theorem max0b {x : Int} (h : -1000 ≤ x ∧ x ≤ 1000) : -1000 ≤ (if x > 0 then x else 0) ∧ (if x > 0 then x else 0) ≤ 1000 := by split <;> omega
theorem cutN_to {l : List Nat} {k : Nat} (h : k ≤ l.length) : L2.cutS ⟨l.toArray⟩ none (some (((l.length : Nat) : Int) - (k : Int))) = ⟨(l.take (l.length - k)).toArray⟩ := by
  rw [show ((l.length : Nat) : Int) - (k : Int) = ((l.length - k : Nat) : Int) by omega, cutS_to (by rw [len_mk]; omega)]
theorem cutN_from {l : List Nat} {k : Nat} (h : k ≤ l.length) : L2.cutS ⟨l.toArray⟩ (some (((l.length : Nat) : Int) - (k : Int))) none = ⟨(l.drop (l.length - k)).toArray⟩ := by
  rw [show ((l.length : Nat) : Int) - (k : Int) = ((l.length - k : Nat) : Int) by omega, cutS_from (by rw [len_mk]; omega)]

theorem iff_ {A B : Prop} (k : B) : if false = true then A else B := (if_neg (by decide)).mpr k
theorem ite_no {c : Bool} {A B : Prop} (h : c = true) (k : B) : if (!c) = true then A else B := by rw [h]; exact (if_neg (by decide)).mpr k
theorem ite_eq {A B : Prop} {p : Prop} [Decidable p] (h : p) (k : B) : if (!decide p) = true then A else B := ite_no (decide_eq_true h) k

def hashL : List Nat := [35, 44, 35, 35, 48]
def isF (c : Nat) : Bool := decide (c ∈ ("0#" : Str).cps.toList)
def isG (c : Nat) : Bool := decide (c ∈ ("0#," : Str).cps.toList)
def isZ (c : Nat) : Bool := decide (c = 48)
def leastOf (fg : List Nat) : Nat := if fg = [35] then 0 else if fg = hashL then 1 else fg.length
def fmtFin (h fg : List Nat) (places : Nat) (tl : List Nat) (share signed : Bool) : Option Fm :=
  if fg = [] ∨ (¬ (fg = [35] ∨ fg = hashL) ∧ fg ≠ List.replicate fg.length 48) then none
  else if fmOk h (leastOf fg : Nat) (places : Nat) tl = true then some ⟨h, leastOf fg, decide (fg = hashL), places, tl, share, signed⟩ else none
def fmtMid (share signed : Bool) (l : List Nat) : Option Fm :=
  if ((l.dropWhile fun c => !isF c).dropWhile isG).head? = some 46 then
    (if (((l.dropWhile fun c => !isF c).dropWhile isG).tail.takeWhile isZ) = [] then none
     else fmtFin (l.takeWhile fun c => !isF c) ((l.dropWhile fun c => !isF c).takeWhile isG) (((l.dropWhile fun c => !isF c).dropWhile isG).tail.takeWhile isZ).length (((l.dropWhile fun c => !isF c).dropWhile isG).tail.dropWhile isZ) share signed)
  else fmtFin (l.takeWhile fun c => !isF c) ((l.dropWhile fun c => !isF c).takeWhile isG) 0 ((l.dropWhile fun c => !isF c).dropWhile isG) share signed
def endsX (r : List Nat) : Bool := decide (4 ≤ r.length) && decide (r.drop (r.length - 4) = [120, 49, 48, 48])
def fmtOf (t : List Nat) : Option Fm :=
  if t.head? = some 43 then fmtMid (endsX t.tail) true (if endsX t.tail = true then t.tail.take (t.tail.length - 4) else t.tail)
  else fmtMid (endsX t) false (if endsX t = true then t.take (t.length - 4) else t)
theorem tw_step {p : Nat → Bool} : ∀ (l : List Nat) (k c : Nat), k ≤ (l.takeWhile p).length → l[k]? = some c → (p c = true → k + 1 ≤ (l.takeWhile p).length) ∧ (p c = false → k = (l.takeWhile p).length)
  | [], k, c, _, h => by simp at h
  | d :: r, k, c, hk, h => by
    rw [List.takeWhile_cons] at hk ⊢
    by_cases hd : p d = true
    · rw [if_pos hd] at hk ⊢
      rw [List.length_cons] at hk ⊢
      cases k with
      | zero =>
        have e : d = c := by simpa using h
        subst e
        exact ⟨fun _ => by omega, fun z => by rw [hd] at z; cases z⟩
      | succ k =>
        obtain ⟨a, b⟩ := tw_step (p := p) r k c (by omega) (by simpa using h)
        exact ⟨fun z => by have := a z; omega, fun z => by have := b z; omega⟩
    · rw [if_neg hd] at hk ⊢
      have k0 : k = 0 := by simpa using hk
      subst k0
      have e : d = c := by simpa using h
      subst e
      exact ⟨fun z => absurd z hd, fun _ => rfl⟩
theorem tw_take (p : Nat → Bool) (l : List Nat) : l.take (l.takeWhile p).length = l.takeWhile p := by
  conv => lhs; rw [← List.takeWhile_append_dropWhile (p := p) (l := l)]
  rw [List.takeWhile_append_dropWhile]
  induction l with
  | nil => rfl
  | cons d r ih =>
    rw [List.takeWhile_cons]
    split
    · rw [List.length_cons, List.take_succ_cons, ih]
    · rfl
theorem tw_drop (p : Nat → Bool) (l : List Nat) : l.drop (l.takeWhile p).length = l.dropWhile p := by
  induction l with
  | nil => rfl
  | cons d r ih =>
    rw [List.takeWhile_cons, List.dropWhile_cons]
    split
    · rw [List.length_cons, List.drop_succ_cons, ih]
    · rfl
theorem tw_le (p : Nat → Bool) (l : List Nat) : (l.takeWhile p).length ≤ l.length := List.Sublist.length_le (List.takeWhile_sublist _)
theorem cut_mid {l : List Nat} {i j : Nat} (h : i ≤ l.length) : L2.cutS ⟨l.toArray⟩ (some (i : Int)) (some (j : Int)) = ⟨((l.drop i).take (j - i)).toArray⟩ := by
  unfold L2.cutS
  have e1 : min i l.length = i := Nat.min_eq_left h
  rw [HT.sIx_nat, HT.sIx_nat, len_mk, e1]
  congr 2
  have : (l.drop i).length = l.length - i := List.length_drop
  by_cases c : j ≤ l.length
  · rw [Nat.min_eq_left c]
  · rw [Nat.min_eq_right (by omega)]
    show (l.drop i).take (l.length - i) = (l.drop i).take (j - i)
    rw [List.take_of_length_le (by omega), List.take_of_length_le (by omega)]
theorem cut_to {l : List Nat} {k : Nat} (h : k ≤ l.length) : L2.cutS ⟨l.toArray⟩ none (some (k : Int)) = ⟨(l.take k).toArray⟩ := cutS_to (by rw [len_mk]; exact h)
theorem cut_from {l : List Nat} {k : Nat} (h : k ≤ l.length) : L2.cutS ⟨l.toArray⟩ (some (k : Int)) none = ⟨(l.drop k).toArray⟩ := cutS_from (by rw [len_mk]; exact h)
theorem ends_x (r : List Nat) : Txt.endswith ⟨r.toArray⟩ ("x100" : Str) = endsX r := by
  unfold Txt.endswith
  rw [StrLaws.subAt_eq]
  show (decide (0 + 4 ≤ r.toArray.size) && ((r.drop (r.toArray.size - 4)).take 4 == [120, 49, 48, 48])) = _
  rw [List.size_toArray]
  unfold endsX
  by_cases c : 4 ≤ r.length
  · rw [decide_eq_true (by omega : 0 + 4 ≤ r.length)]
    have : (r.drop (r.length - 4)).take 4 = r.drop (r.length - 4) := List.take_of_length_le (by rw [List.length_drop]; omega)
    rw [this, Bool.true_and, Bool.true_and]
    rw [Bool.eq_iff_iff]; simp
  · rw [decide_eq_false (by omega : ¬ 0 + 4 ≤ r.length)]
    rfl
theorem in_hash (fg : List Nat) : inD (.str ⟨fg.toArray⟩) [.str "#", .str "#,##0"] = decide (fg = [35] ∨ fg = hashL) := by
  show ((("#" : Str) == ⟨fg.toArray⟩) || ((("#,##0" : Str) == ⟨fg.toArray⟩) || false)) = _
  have e1 : ((("#" : Str)) == ⟨fg.toArray⟩) = decide (fg = [35]) := by
    have : (("#" : Str)) = ⟨[35].toArray⟩ := rfl
    rw [this, Bool.eq_iff_iff, beq_iff_eq, decide_eq_true_iff, mk_inj]
    exact eq_comm
  have e2 : ((("#,##0" : Str)) == ⟨fg.toArray⟩) = decide (fg = hashL) := by
    have : (("#,##0" : Str)) = ⟨hashL.toArray⟩ := rfl
    rw [this, Bool.eq_iff_iff, beq_iff_eq, decide_eq_true_iff, mk_inj]
    exact eq_comm
  rw [e1, e2, Bool.or_false, Bool.eq_iff_iff]
  simp
theorem rep_self (n : Nat) : repS ("0" : Str) (n : Int) = (⟨(List.replicate n 48).toArray⟩ : Str) := by
  refine str_ext ?_
  show ((List.replicate ((n : Int)).toNat [48]).flatten.toArray).toList = _
  rw [Int.toNat_natCast]
  simp
theorem one_eq {c d : Nat} : ((⟨#[c]⟩ : Str) = ⟨#[d]⟩) ↔ c = d := by
  show ((⟨[c].toArray⟩ : Str) = ⟨[d].toArray⟩) ↔ _
  rw [mk_inj]
  simp

def nearN (p w : Int) (places : Nat) (share : Bool) : Nat := ((2 * (((p * (if share = true then 100 else 1)).natAbs : Nat) : Int) * 10 ^ places + w) / (2 * w)).toNat
def frontL (fg front : List Nat) : List Nat := if fg = [35] then (if front = [48] then [] else front) else if fg ≠ hashL then List.replicate (fg.length - front.length) 48 ++ front else front
def lawL (p w : Int) (head fg tail : List Nat) (places : Nat) (share signed : Bool) : List Nat :=
  (if p < 0 ∧ 0 < nearN p w places share then [45] else if signed = true ∧ 0 < nearN p w places share then [43] else []) ++ head ++
  (if fg = hashL then partL (frontL fg (natD (nearN p w places share / 10 ^ places))) else frontL fg (natD (nearN p w places share / 10 ^ places))) ++
  (if 0 < places then 46 :: (List.replicate (places - (natD (nearN p w places share % 10 ^ places)).length) 48 ++ natD (nearN p w places share % 10 ^ places)) else []) ++ tail
def jn (gs : List (List Nat)) : List Nat := TL.joinL [44] gs
theorem jn_cons (g : List Nat) {gs : List (List Nat)} (h : gs ≠ []) : jn (g :: gs) = g ++ 44 :: jn gs := by
  cases gs with
  | nil => exact absurd rfl h
  | cons a r => rfl
theorem jn_one (g : List Nat) : jn [g] = g := rfl
theorem neg3_from (l : List Nat) : L2.cutS ⟨l.toArray⟩ (some (-3)) none = ⟨(l.drop (l.length - 3)).toArray⟩ := by
  unfold L2.cutS
  rw [len_mk]
  show (⟨((l.drop ((-3 + (l.length : Int)).toNat)).take (l.length - (-3 + (l.length : Int)).toNat)).toArray⟩ : Str) = _
  have : (-3 + (l.length : Int)).toNat = l.length - 3 := by omega
  rw [this, List.take_of_length_le (by rw [List.length_drop]; exact Nat.le_refl _)]
theorem neg3_to (l : List Nat) : L2.cutS ⟨l.toArray⟩ none (some (-3)) = ⟨(l.take (l.length - 3)).toArray⟩ := by
  unfold L2.cutS
  rw [len_mk]
  show (⟨((l.drop 0).take ((-3 + (l.length : Int)).toNat - 0)).toArray⟩ : Str) = _
  have : (-3 + (l.length : Int)).toNat = l.length - 3 := by omega
  rw [this, List.drop_zero, Nat.sub_zero]

abbrev M0 (Z : Zt) : List Ent := []
def sp_ten_to : SpD := fun ds S Q E => ∃ n : Nat, ds = [.int n] ∧ n ≤ 1000 ∧ Q (.int (10 ^ n)) S
abbrev e_ten_to : Ent := { sp := sp_ten_to, ar := 1, dfl := [], lv := 1 }
abbrev M1 (Z : Zt) : List Ent := [e_ten_to]
def sp_greatest_part : SpD := fun ds S Q E => ∃ a b : Int, ds = [.int a, .int b] ∧ Sz a ∧ Sz b ∧ Q (.int (Int.gcd a b)) S
abbrev e_greatest_part : Ent := { sp := sp_greatest_part, ar := 2, dfl := [], lv := 1 }
abbrev M2 (Z : Zt) : List Ent := [e_ten_to, e_greatest_part]
def sp_number : SpD := fun ds S Q E => ∃ p w : Int, ds = [.int p, .int w] ∧ NumPre p w ∧ Q (vD (mkNum p w)) S
abbrev e_number : Ent := { sp := sp_number, ar := 2, dfl := [.int 1], lv := 2 }
abbrev M3 (Z : Zt) : List Ent := [e_ten_to, e_greatest_part, e_number]
def sp_is_wrong : SpD := fun ds S Q E => ∃ v : Va, ds = [vD v] ∧ Q (.bl (isWr v)) S
abbrev e_is_wrong : Ent := { sp := sp_is_wrong, ar := 1, dfl := [], lv := 1 }
abbrev M4 (Z : Zt) : List Ent := [e_ten_to, e_greatest_part, e_number, e_is_wrong]
def sp_is_number : SpD := fun ds S Q E => ∃ v : Va, ds = [vD v] ∧ Q (.bl (isNum v)) S
abbrev e_is_number : Ent := { sp := sp_is_number, ar := 1, dfl := [], lv := 1 }
abbrev M5 (Z : Zt) : List Ent := [e_ten_to, e_greatest_part, e_number, e_is_wrong, e_is_number]
def sp_number_text : SpD := fun ds S Q E => ∃ p w : Int, ds = [.tup [.int p, .int w]] ∧ SzV (.num p w) ∧ Q (.str ⟨(numL p w).toArray⟩) S
abbrev e_number_text : Ent := { sp := sp_number_text, ar := 1, dfl := [], lv := 1 }
abbrev M6 (Z : Zt) : List Ent := [e_ten_to, e_greatest_part, e_number, e_is_wrong, e_is_number, e_number_text]
def sp_as_text : SpD := fun ds S Q E => ∃ v : Va, ds = [vD v] ∧ SzV v ∧ Q (vD (asTxt v)) S
abbrev e_as_text : Ent := { sp := sp_as_text, ar := 1, dfl := [], lv := 2 }
abbrev M7 (Z : Zt) : List Ent := [e_ten_to, e_greatest_part, e_number, e_is_wrong, e_is_number, e_number_text, e_as_text]
def sp_rounded : SpD := fun ds S Q E => ∃ p w n : Int, ds = [.tup [.int p, .int w], .int n] ∧ SzV (.num p w) ∧ (n.natAbs ≤ 10 ∨ 30 < n.natAbs) ∧ Q (vD (rndV p w n)) S
abbrev e_rounded : Ent := { sp := sp_rounded, ar := 2, dfl := [], lv := 3 }
abbrev M8 (Z : Zt) : List Ent := [e_ten_to, e_greatest_part, e_number, e_is_wrong, e_is_number, e_number_text, e_as_text, e_rounded]
def sp_Format___init__ : SpD := fun ds S Q E => ∃ (p : Addr) (h tl : List Nat) (least places : Int) (parted share signed : Bool), ds = [.ref p, .str ⟨h.toArray⟩, .int least, .bl parted, .int places, .str ⟨tl.toArray⟩, .bl share, .bl signed] ∧ S p = some (.ins 0 []) ∧ h.length + tl.length ≤ 1200 ∧ (fmOk h least places tl = true → Q .non (put S p (.ins 0 (fF ⟨h, least.toNat, parted, places.toNat, tl, share, signed⟩)))) ∧ (fmOk h least places tl = false → E 0 S)
abbrev e_Format___init__ : Ent := { sp := sp_Format___init__, ar := 8, dfl := [.bl false, .bl false], lv := 1 }
abbrev M9 (Z : Zt) : List Ent := [e_ten_to, e_greatest_part, e_number, e_is_wrong, e_is_number, e_number_text, e_as_text, e_rounded, e_Format___init__]
def sp_parted_figures : SpD := fun ds S Q E => ∃ t : List Nat, ds = [.str ⟨t.toArray⟩] ∧ t.length ≤ 600 ∧ Q (.str ⟨(partL t).toArray⟩) S
abbrev e_parted_figures : Ent := { sp := sp_parted_figures, ar := 1, dfl := [], lv := 1 }
abbrev M10 (Z : Zt) : List Ent := [e_ten_to, e_greatest_part, e_number, e_is_wrong, e_is_number, e_number_text, e_as_text, e_rounded, e_Format___init__, e_parted_figures]
def sp_Format_text : SpD := fun ds S Q E => ∃ (a : Addr) (m : Fm) (v : Va), ds = [.ref a, vD v] ∧ S a = some (.ins 0 (fF m)) ∧ SzV v ∧ (∀ s, v = .wr s → s.length ≤ 600) ∧ m.head.length + m.tail.length ≤ 600 ∧ m.least ≤ 10 ∧ m.places ≤ 10 ∧ Q (.str ⟨(fmtT m v).toArray⟩) S
abbrev e_Format_text : Ent := { sp := sp_Format_text, ar := 2, dfl := [], lv := 4 }
abbrev M11 (Z : Zt) : List Ent := [e_ten_to, e_greatest_part, e_number, e_is_wrong, e_is_number, e_number_text, e_as_text, e_rounded, e_Format___init__, e_parted_figures, e_Format_text]
def sp_parse_format : SpD := fun ds S Q E => ∃ t : List Nat, ds = [.str ⟨t.toArray⟩] ∧ t.length ≤ 500 ∧ (fmtOf t = none → E 0 S) ∧ (∀ m, fmtOf t = some m → ∀ q, S q = none → Q (.ref q) (put S q (.ins 0 (fF m))))
abbrev e_parse_format : Ent := { sp := sp_parse_format, ar := 1, dfl := [], lv := 3 }
abbrev M12 (Z : Zt) : List Ent := [e_ten_to, e_greatest_part, e_number, e_is_wrong, e_is_number, e_number_text, e_as_text, e_rounded, e_Format___init__, e_parted_figures, e_Format_text, e_parse_format]
def sp__law_dice : SpD := fun ds S Q E => ∃ c : Int, ds = [.int c] ∧ ∀ (a b d : Int) q, S q = none → Q (.ref q) (put S q (.lst [.int a, .int b, .int d]))
abbrev e__law_dice : Ent := { sp := sp__law_dice, ar := 1, dfl := [], lv := 1 }
abbrev M13 (Z : Zt) : List Ent := [e_ten_to, e_greatest_part, e_number, e_is_wrong, e_is_number, e_number_text, e_as_text, e_rounded, e_Format___init__, e_parted_figures, e_Format_text, e_parse_format, e__law_dice]
def sp__law_roll : SpD := fun ds S Q E => ∃ (q : Addr) (m a b d : Int), ds = [.ref q, .int m] ∧ 0 < m ∧ m ≤ 100000000 ∧ S q = some (.lst [.int a, .int b, .int d]) ∧ ∀ v a b d : Int, 0 ≤ v → v < m → Q (.int v) (put S q (.lst [.int a, .int b, .int d]))
abbrev e__law_roll : Ent := { sp := sp__law_roll, ar := 2, dfl := [], lv := 1 }
abbrev M14 (Z : Zt) : List Ent := [e_ten_to, e_greatest_part, e_number, e_is_wrong, e_is_number, e_number_text, e_as_text, e_rounded, e_Format___init__, e_parted_figures, e_Format_text, e_parse_format, e__law_dice, e__law_roll]
def sp__law_roll_at_1 : SpD := fun ds S Q E => ∃ (q : Addr) (m a b d : Int), ds = [.ref q, .int m] ∧ 0 < m ∧ m ≤ 1000000000 ∧ S q = some (.lst [.int a, .int b, .int d]) ∧ ∀ v a b d : Int, 0 ≤ v → v < m → Q (.int v) (put S q (.lst [.int a, .int b, .int d]))
abbrev e__law_roll_at_1 : Ent := { sp := sp__law_roll_at_1, ar := 2, dfl := [], lv := 2 }
abbrev M15 (Z : Zt) : List Ent := [e_ten_to, e_greatest_part, e_number, e_is_wrong, e_is_number, e_number_text, e_as_text, e_rounded, e_Format___init__, e_parted_figures, e_Format_text, e_parse_format, e__law_dice, e__law_roll, e__law_roll_at_1]
def sp__law_rounds : SpD := fun ds S Q E => ∃ (ns : List Int) (x : D), ds = [x, .int 1] ∧ IsScript S x ns ∧ ∀ (a b d : Int) p q, S p = none → S q = none → p ≠ q → Q (.ref q) (put (put S p (.lst [.int a, .int b, .int d])) q (.lst [.ref p]))
abbrev e__law_rounds : Ent := { sp := sp__law_rounds, ar := 2, dfl := [], lv := 2 }
abbrev M16 (Z : Zt) : List Ent := [e_ten_to, e_greatest_part, e_number, e_is_wrong, e_is_number, e_number_text, e_as_text, e_rounded, e_Format___init__, e_parted_figures, e_Format_text, e_parse_format, e__law_dice, e__law_roll, e__law_roll_at_1, e__law_rounds]
def sp_lam_0 : SpD := fun ds S Q E => E 0 S
abbrev e_lam_0 : Ent := { sp := sp_lam_0, ar := 0, dfl := [], lv := 4, la := some 0 }
abbrev M17 (Z : Zt) : List Ent := [e_ten_to, e_greatest_part, e_number, e_is_wrong, e_is_number, e_number_text, e_as_text, e_rounded, e_Format___init__, e_parted_figures, e_Format_text, e_parse_format, e__law_dice, e__law_roll, e__law_roll_at_1, e__law_rounds, e_lam_0]
def sp_lam_1 : SpD := fun ds S Q E => E 0 S
abbrev e_lam_1 : Ent := { sp := sp_lam_1, ar := 0, dfl := [], lv := 4, la := some 1 }
abbrev M18 (Z : Zt) : List Ent := [e_ten_to, e_greatest_part, e_number, e_is_wrong, e_is_number, e_number_text, e_as_text, e_rounded, e_Format___init__, e_parted_figures, e_Format_text, e_parse_format, e__law_dice, e__law_roll, e__law_roll_at_1, e__law_rounds, e_lam_0, e_lam_1]
def sp_lam_2 : SpD := fun ds S Q E => E 0 S
abbrev e_lam_2 : Ent := { sp := sp_lam_2, ar := 0, dfl := [], lv := 4, la := some 2 }
abbrev M19 (Z : Zt) : List Ent := [e_ten_to, e_greatest_part, e_number, e_is_wrong, e_is_number, e_number_text, e_as_text, e_rounded, e_Format___init__, e_parted_figures, e_Format_text, e_parse_format, e__law_dice, e__law_roll, e__law_roll_at_1, e__law_rounds, e_lam_0, e_lam_1, e_lam_2]
def sp_lam_3 : SpD := fun ds S Q E => E 0 S
abbrev e_lam_3 : Ent := { sp := sp_lam_3, ar := 0, dfl := [], lv := 4, la := some 3 }
abbrev M20 (Z : Zt) : List Ent := [e_ten_to, e_greatest_part, e_number, e_is_wrong, e_is_number, e_number_text, e_as_text, e_rounded, e_Format___init__, e_parted_figures, e_Format_text, e_parse_format, e__law_dice, e__law_roll, e__law_roll_at_1, e__law_rounds, e_lam_0, e_lam_1, e_lam_2, e_lam_3]
def sp_lam_4 : SpD := fun ds S Q E => E 0 S
abbrev e_lam_4 : Ent := { sp := sp_lam_4, ar := 0, dfl := [], lv := 4, la := some 4 }
abbrev M21 (Z : Zt) : List Ent := [e_ten_to, e_greatest_part, e_number, e_is_wrong, e_is_number, e_number_text, e_as_text, e_rounded, e_Format___init__, e_parted_figures, e_Format_text, e_parse_format, e__law_dice, e__law_roll, e__law_roll_at_1, e__law_rounds, e_lam_0, e_lam_1, e_lam_2, e_lam_3, e_lam_4]
def sp_lam_5 : SpD := fun ds S Q E => E 0 S
abbrev e_lam_5 : Ent := { sp := sp_lam_5, ar := 0, dfl := [], lv := 4, la := some 5 }
abbrev M22 (Z : Zt) : List Ent := [e_ten_to, e_greatest_part, e_number, e_is_wrong, e_is_number, e_number_text, e_as_text, e_rounded, e_Format___init__, e_parted_figures, e_Format_text, e_parse_format, e__law_dice, e__law_roll, e__law_roll_at_1, e__law_rounds, e_lam_0, e_lam_1, e_lam_2, e_lam_3, e_lam_4, e_lam_5]
def sp_lam_6 : SpD := fun ds S Q E => E 0 S
abbrev e_lam_6 : Ent := { sp := sp_lam_6, ar := 0, dfl := [], lv := 4, la := some 6 }
abbrev M23 (Z : Zt) : List Ent := [e_ten_to, e_greatest_part, e_number, e_is_wrong, e_is_number, e_number_text, e_as_text, e_rounded, e_Format___init__, e_parted_figures, e_Format_text, e_parse_format, e__law_dice, e__law_roll, e__law_roll_at_1, e__law_rounds, e_lam_0, e_lam_1, e_lam_2, e_lam_3, e_lam_4, e_lam_5, e_lam_6]
def sp_lam_7 : SpD := fun ds S Q E => E 0 S
abbrev e_lam_7 : Ent := { sp := sp_lam_7, ar := 0, dfl := [], lv := 4, la := some 7 }
abbrev M24 (Z : Zt) : List Ent := [e_ten_to, e_greatest_part, e_number, e_is_wrong, e_is_number, e_number_text, e_as_text, e_rounded, e_Format___init__, e_parted_figures, e_Format_text, e_parse_format, e__law_dice, e__law_roll, e__law_roll_at_1, e__law_rounds, e_lam_0, e_lam_1, e_lam_2, e_lam_3, e_lam_4, e_lam_5, e_lam_6, e_lam_7]
def sp_lam_8 : SpD := fun ds S Q E => E 0 S
abbrev e_lam_8 : Ent := { sp := sp_lam_8, ar := 0, dfl := [], lv := 4, la := some 8 }
abbrev M25 (Z : Zt) : List Ent := [e_ten_to, e_greatest_part, e_number, e_is_wrong, e_is_number, e_number_text, e_as_text, e_rounded, e_Format___init__, e_parted_figures, e_Format_text, e_parse_format, e__law_dice, e__law_roll, e__law_roll_at_1, e__law_rounds, e_lam_0, e_lam_1, e_lam_2, e_lam_3, e_lam_4, e_lam_5, e_lam_6, e_lam_7, e_lam_8]
def sp_lam_9 : SpD := fun ds S Q E => E 0 S
abbrev e_lam_9 : Ent := { sp := sp_lam_9, ar := 0, dfl := [], lv := 4, la := some 9 }
abbrev M26 (Z : Zt) : List Ent := [e_ten_to, e_greatest_part, e_number, e_is_wrong, e_is_number, e_number_text, e_as_text, e_rounded, e_Format___init__, e_parted_figures, e_Format_text, e_parse_format, e__law_dice, e__law_roll, e__law_roll_at_1, e__law_rounds, e_lam_0, e_lam_1, e_lam_2, e_lam_3, e_lam_4, e_lam_5, e_lam_6, e_lam_7, e_lam_8, e_lam_9]
def sp_lam_10 : SpD := fun ds S Q E => E 0 S
abbrev e_lam_10 : Ent := { sp := sp_lam_10, ar := 0, dfl := [], lv := 4, la := some 10 }
abbrev M27 (Z : Zt) : List Ent := [e_ten_to, e_greatest_part, e_number, e_is_wrong, e_is_number, e_number_text, e_as_text, e_rounded, e_Format___init__, e_parted_figures, e_Format_text, e_parse_format, e__law_dice, e__law_roll, e__law_roll_at_1, e__law_rounds, e_lam_0, e_lam_1, e_lam_2, e_lam_3, e_lam_4, e_lam_5, e_lam_6, e_lam_7, e_lam_8, e_lam_9, e_lam_10]
def sp_lam_11 : SpD := fun ds S Q E => E 0 S
abbrev e_lam_11 : Ent := { sp := sp_lam_11, ar := 0, dfl := [], lv := 4, la := some 11 }
abbrev M28 (Z : Zt) : List Ent := [e_ten_to, e_greatest_part, e_number, e_is_wrong, e_is_number, e_number_text, e_as_text, e_rounded, e_Format___init__, e_parted_figures, e_Format_text, e_parse_format, e__law_dice, e__law_roll, e__law_roll_at_1, e__law_rounds, e_lam_0, e_lam_1, e_lam_2, e_lam_3, e_lam_4, e_lam_5, e_lam_6, e_lam_7, e_lam_8, e_lam_9, e_lam_10, e_lam_11]
def sp__law_told (Z : Zt) : SpD := fun ds S Q E => ∃ (f : Addr) (j : Nat), ds = [.ref f] ∧ S f = some (.oth (isLam Z j)) ∧ j < 12 ∧ Q (.str "TableError") S
abbrev e__law_told (Z : Zt) : Ent := { sp := sp__law_told Z, ar := 1, dfl := [], lv := 6 }
abbrev M29 (Z : Zt) : List Ent := [e_ten_to, e_greatest_part, e_number, e_is_wrong, e_is_number, e_number_text, e_as_text, e_rounded, e_Format___init__, e_parted_figures, e_Format_text, e_parse_format, e__law_dice, e__law_roll, e__law_roll_at_1, e__law_rounds, e_lam_0, e_lam_1, e_lam_2, e_lam_3, e_lam_4, e_lam_5, e_lam_6, e_lam_7, e_lam_8, e_lam_9, e_lam_10, e_lam_11, e__law_told Z]
def sp__law_num : SpD := fun ds S Q E => ∃ p w : Int, ds = [.int p, .int w] ∧ NumPre p w ∧ Q (vD (mkNum p w)) S
abbrev e__law_num : Ent := { sp := sp__law_num, ar := 2, dfl := [], lv := 1 }
abbrev M30 (Z : Zt) : List Ent := [e_ten_to, e_greatest_part, e_number, e_is_wrong, e_is_number, e_number_text, e_as_text, e_rounded, e_Format___init__, e_parted_figures, e_Format_text, e_parse_format, e__law_dice, e__law_roll, e__law_roll_at_1, e__law_rounds, e_lam_0, e_lam_1, e_lam_2, e_lam_3, e_lam_4, e_lam_5, e_lam_6, e_lam_7, e_lam_8, e_lam_9, e_lam_10, e_lam_11, e__law_told Z, e__law_num]
def sp__law_shown : SpD := fun ds S Q E => ∃ (p w : Int) (head fg tail : List Nat) (places : Nat) (share signed : Bool), ds = [.tup [.int p, .int w], .str ⟨head.toArray⟩, .str ⟨fg.toArray⟩, .int places, .str ⟨tail.toArray⟩, .bl share, .bl signed] ∧ SzV (.num p w) ∧ head.length + tail.length ≤ 600 ∧ fg.length ≤ 10 ∧ places ≤ 10 ∧ Q (.str ⟨(lawL p w head fg tail places share signed).toArray⟩) S
abbrev e__law_shown : Ent := { sp := sp__law_shown, ar := 7, dfl := [], lv := 1 }
abbrev M31 (Z : Zt) : List Ent := [e_ten_to, e_greatest_part, e_number, e_is_wrong, e_is_number, e_number_text, e_as_text, e_rounded, e_Format___init__, e_parted_figures, e_Format_text, e_parse_format, e__law_dice, e__law_roll, e__law_roll_at_1, e__law_rounds, e_lam_0, e_lam_1, e_lam_2, e_lam_3, e_lam_4, e_lam_5, e_lam_6, e_lam_7, e_lam_8, e_lam_9, e_lam_10, e_lam_11, e__law_told Z, e__law_num, e__law_shown]
def sp_law : SpD := fun ds S Q E => ∃ (ns : List Int) (x : D), ds = [x] ∧ IsScript S x ns ∧ ∀ S, Q (.bl true) S
abbrev e_law : Ent := { sp := sp_law, ar := 1, dfl := [], lv := 7 }
abbrev M32 (Z : Zt) : List Ent := [e_ten_to, e_greatest_part, e_number, e_is_wrong, e_is_number, e_number_text, e_as_text, e_rounded, e_Format___init__, e_parted_figures, e_Format_text, e_parse_format, e__law_dice, e__law_roll, e__law_roll_at_1, e__law_rounds, e_lam_0, e_lam_1, e_lam_2, e_lam_3, e_lam_4, e_lam_5, e_lam_6, e_lam_7, e_lam_8, e_lam_9, e_lam_10, e_lam_11, e__law_told Z, e__law_num, e__law_shown, e_law]
def t_number_text_9 (Z : Zt) : TDS := (dRet (dOp opAdd (dOp opAdd (dOp opAdd (dVar 3) (dSl (dVar 6) dNoPart (dPart (dOp opSub (dBi rLen (dCons (dVar 6) dNil)) (dVar 4))))) (dC (.str "."))) (dSl (dVar 6) (dPart (dOp opSub (dBi rLen (dCons (dVar 6) dNil)) (dVar 4))) dNoPart)))
def t_number_text_8 (Z : Zt) : TDS := dSeq (dAsg (dOp opAdd (dOp opMul (dC (.str "0")) (dBi G.rMax (dCons (dC (.int 0)) (dCons (dOp opSub (dOp opAdd (dVar 4) (dC (.int 1))) (dBi rLen (dCons (dVar 6) dNil))) dNil)))) (dVar 6)) (gN 6)) (t_number_text_9 Z)
def t_number_text_7 (Z : Zt) : TDS := dSeq (dIfS (dTest (dOp opEq (dVar 4) (dC (.int 0)))) (dRet (dOp opAdd (dVar 3) (dVar 6))) dNext) (t_number_text_8 Z)
def t_number_text_6 (Z : Zt) : TDS := dSeq (dAsg (dBi rStr (dCons (dOp opMul (dVar 1) (dOp opDiv (dVar 5) (dVar 2))) dNil)) (gN 6)) (t_number_text_7 Z)
def t_number_text_5 (Z : Zt) : TDS := dSeq (dIfS (dTest (dOp opGt (dVar 4) (dC (.int 12)))) (dRet (dJs [(dFmt (dVar 3)), (dFmt (dVar 1)), (dC (.str "/")), (dFmt (dVar 2))] Str.empty)) dNext) (t_number_text_6 Z)
def t_number_text_4_1 (Z : Zt) : TDS := (dAug 5 (dC (.int 10)) opIMul)
def t_number_text_4_0 (Z : Zt) : TDS := dSeq (dAug 4 (dC (.int 1)) opIAdd) (t_number_text_4_1 Z)
def t_number_text_4 (Z : Zt) : TDS := dSeq (dWhile (dAnd (dTest (dOp opLe (dVar 4) (dC (.int 12)))) (dTest (dOp opNe (dOp opMul (dOp opDiv (dVar 5) (dVar 2)) (dVar 2)) (dVar 5)))) (t_number_text_4_0 Z)) (t_number_text_5 Z)
def t_number_text_3 (Z : Zt) : TDS := dSeq (dAsg (dC (.int 1)) (gN 5)) (t_number_text_4 Z)
def t_number_text_2 (Z : Zt) : TDS := dSeq (dAsg (dC (.int 0)) (gN 4)) (t_number_text_3 Z)
def t_number_text_1 (Z : Zt) : TDS := dSeq (dPar2 3 1 (dCons (dIf (dTest (dOp opLt (dVar 1) (dC (.int 0)))) (dC (.str "-")) (dC (.str ""))) (dCons (dBi rAbs (dCons (dVar 1) dNil)) dNil))) (t_number_text_2 Z)
def t_number_text_0 (Z : Zt) : TDS := dSeq (dAsg (dVar 0) (gT 2 (gCs (gN 1) (gCs (gN 2) gNl)))) (t_number_text_1 Z)

def t_rounded_6 (Z : Zt) : TDS := (dRet (dIf (dTest (dOp opGe (dVar 1) (dC (.int 0)))) (dCall (M7 Z) 2 2 2 (dCons (dVar 6) (dCons (dVar 4) dNil))) (dCall (M7 Z) 2 2 1 (dCons (dOp opMul (dVar 6) (dVar 4)) dNil))))
def t_rounded_5 (Z : Zt) : TDS := dSeq (dAsg (dOp opMul (dVar 5) (dOp opDiv (dOp opAdd (dOp opMul (dC (.int 2)) (dBi rAbs (dCons (dVar 2) dNil))) (dVar 3)) (dOp opMul (dC (.int 2)) (dVar 3)))) (gN 6)) (t_rounded_6 Z)
def t_rounded_4 (Z : Zt) : TDS := dSeq (dAsg (dIf (dTest (dOp opGe (dVar 2) (dC (.int 0)))) (dC (.int 1)) (dOp opSub (dC (.int 0)) (dC (.int 1)))) (gN 5)) (t_rounded_5 Z)
def t_rounded_3 (Z : Zt) : TDS := dSeq (dIfS (dTest (dOp opGe (dVar 1) (dC (.int 0)))) (dAug 2 (dVar 4) opIMul) (dAug 3 (dVar 4) opIMul)) (t_rounded_4 Z)
def t_rounded_2 (Z : Zt) : TDS := dSeq (dAsg (dCall (M7 Z) 2 0 1 (dCons (dBi rAbs (dCons (dVar 1) dNil)) dNil)) (gN 4)) (t_rounded_3 Z)
def t_rounded_1 (Z : Zt) : TDS := dSeq (dAsg (dVar 0) (gT 2 (gCs (gN 2) (gCs (gN 3) gNl)))) (t_rounded_2 Z)
def t_rounded_0 (Z : Zt) : TDS := dSeq (dIfS (dTest (dOp opGt (dBi rAbs (dCons (dVar 1) dNil)) (dC (.int 30)))) (dRet (dC (.tup [.str "#", .str "too large"]))) dNext) (t_rounded_1 Z)

def t_parted_figures_3 (Z : Zt) : TDS := (dRet (dVar 1))
def t_parted_figures_2_2 (Z : Zt) : TDS := (dAsg (dOp opAdd (dOp opAdd (dVar 3) (dC (.str ","))) (dVar 1)) (gN 1))
def t_parted_figures_2_1 (Z : Zt) : TDS := dSeq (dAsg (dIf (dTest (dOp opGt (dBi rLen (dCons (dVar 2) dNil)) (dC (.int 3)))) (dSl (dVar 2) dNoPart (dPart (dOp opSub (dBi rLen (dCons (dVar 2) dNil)) (dC (.int 3))))) (dC (.str ""))) (gN 2)) (t_parted_figures_2_2 Z)
def t_parted_figures_2_0 (Z : Zt) : TDS := dSeq (dAsg (dIf (dTest (dOp opGt (dBi rLen (dCons (dVar 2) dNil)) (dC (.int 3)))) (dSl (dVar 2) (dPart (dOp opSub (dBi rLen (dCons (dVar 2) dNil)) (dC (.int 3)))) dNoPart) (dVar 2)) (gN 3)) (t_parted_figures_2_1 Z)
def t_parted_figures_2 (Z : Zt) : TDS := dSeq (dWhile (dTest (dOp opNe (dVar 2) (dC (.str "")))) (t_parted_figures_2_0 Z)) (t_parted_figures_3 Z)
def t_parted_figures_1 (Z : Zt) : TDS := dSeq (dAsg (dIf (dTest (dOp opGt (dBi rLen (dCons (dVar 0) dNil)) (dC (.int 3)))) (dSl (dVar 0) dNoPart (dPart (dOp opSub (dBi rLen (dCons (dVar 0) dNil)) (dC (.int 3))))) (dC (.str ""))) (gN 2)) (t_parted_figures_2 Z)
def t_parted_figures_0 (Z : Zt) : TDS := dSeq (dAsg (dIf (dTest (dOp opGt (dBi rLen (dCons (dVar 0) dNil)) (dC (.int 3)))) (dSl (dVar 0) (dPart (dOp opSub (dBi rLen (dCons (dVar 0) dNil)) (dC (.int 3)))) dNoPart) (dVar 0)) (gN 1)) (t_parted_figures_1 Z)

def t_Format_text_11 (Z : Zt) : TDS := (dRet (dOp opAdd (dOp opAdd (dOp opAdd (dOp opAdd (dVar 7) (dFld tx 0 (dVar 0))) (dVar 5)) (dIf (dTest (dOp opGt (dFld tx 3 (dVar 0)) (dC (.int 0)))) (dOp opAdd (dC (.str ".")) (dVar 6)) (dC (.str "")))) (dFld tx 4 (dVar 0))))
def t_Format_text_10 (Z : Zt) : TDS := dSeq (dAsg (dIf (dTest (dOp opLt (dOp opIx (dVar 2) (dC (.int 0))) (dC (.int 0)))) (dC (.str "-")) (dIf (dAnd (dTru (dFld tx 6 (dVar 0))) (dTest (dOp opGt (dOp opIx (dVar 2) (dC (.int 0))) (dC (.int 0))))) (dC (.str "+")) (dC (.str "")))) (gN 7)) (t_Format_text_11 Z)
def t_Format_text_9 (Z : Zt) : TDS := dSeq (dAsg (dIf (dTru (dFld tx 2 (dVar 0))) (dCall (M10 Z) 3 9 1 (dCons (dVar 5) dNil)) (dVar 5)) (gN 5)) (t_Format_text_10 Z)
def t_Format_text_8 (Z : Zt) : TDS := dSeq (dAsg (dIf (dAnd (dTest (dOp opEq (dVar 5) (dC (.str "0")))) (dTest (dOp opEq (dFld tx 1 (dVar 0)) (dC (.int 0))))) (dC (.str "")) (dOp opAdd (dOp opMul (dC (.str "0")) (dBi G.rMax (dCons (dC (.int 0)) (dCons (dOp opSub (dFld tx 1 (dVar 0)) (dBi rLen (dCons (dVar 5) dNil))) dNil)))) (dVar 5))) (gN 5)) (t_Format_text_9 Z)
def t_Format_text_7 (Z : Zt) : TDS := dSeq (dPar2 5 6 (dCons (dSl (dVar 4) dNoPart (dPart (dOp opSub (dBi rLen (dCons (dVar 4) dNil)) (dFld tx 3 (dVar 0))))) (dCons (dSl (dVar 4) (dPart (dOp opSub (dBi rLen (dCons (dVar 4) dNil)) (dFld tx 3 (dVar 0)))) dNoPart) dNil))) (t_Format_text_8 Z)
def t_Format_text_6 (Z : Zt) : TDS := dSeq (dAsg (dOp opAdd (dOp opMul (dC (.str "0")) (dBi G.rMax (dCons (dC (.int 0)) (dCons (dOp opSub (dOp opAdd (dFld tx 3 (dVar 0)) (dC (.int 1))) (dBi rLen (dCons (dVar 4) dNil))) dNil)))) (dVar 4)) (gN 4)) (t_Format_text_7 Z)
def t_Format_text_5 (Z : Zt) : TDS := dSeq (dAsg (dBi rStr (dCons (dOp opMul (dBi rAbs (dCons (dOp opIx (dVar 2) (dC (.int 0))) dNil)) (dOp opDiv (dVar 3) (dOp opIx (dVar 2) (dC (.int 1))))) dNil)) (gN 4)) (t_Format_text_6 Z)
def t_Format_text_4 (Z : Zt) : TDS := dSeq (dAsg (dCall (M10 Z) 3 0 1 (dCons (dFld tx 3 (dVar 0)) dNil)) (gN 3)) (t_Format_text_5 Z)
def t_Format_text_3 (Z : Zt) : TDS := dSeq (dIfS (dNot (dTru (dCall (M10 Z) 3 4 1 (dCons (dVar 2) dNil)))) (dRet (dC (.str "#too large"))) dNext) (t_Format_text_4 Z)
def t_Format_text_2 (Z : Zt) : TDS := dSeq (dAsg (dIf (dTru (dCall (M10 Z) 3 4 1 (dCons (dVar 1) dNil))) (dCall (M10 Z) 3 7 2 (dCons (dVar 1) (dCons (dFld tx 3 (dVar 0)) dNil))) (dVar 1)) (gN 2)) (t_Format_text_3 Z)
def t_Format_text_1 (Z : Zt) : TDS := dSeq (dIfS (dTru (dFld tx 5 (dVar 0))) (dAsg (dCall (M10 Z) 3 2 2 (dCons (dOp opMul (dOp opIx (dVar 1) (dC (.int 0))) (dC (.int 100))) (dCons (dOp opIx (dVar 1) (dC (.int 1))) dNil))) (gN 1)) dNext) (t_Format_text_2 Z)
def t_Format_text_0 (Z : Zt) : TDS := dSeq (dIfS (dNot (dTru (dCall (M10 Z) 3 4 1 (dCons (dVar 1) dNil)))) (dRet (dIf (dTru (dIsi "tuple" (dVar 1))) (dOp opAdd (dC (.str "#")) (dOp opIx (dVar 1) (dC (.int 1)))) (dCall (M10 Z) 3 6 1 (dCons (dVar 1) dNil)))) dNext) (t_Format_text_1 Z)

def t_parse_format_12 (Z : Zt) : TDS := (dRet (dMake tx (M11 Z) 1 0 7 (dCons (dSl (dVar 2) dNoPart (dPart (dVar 4))) (dCons (dVar 9) (dCons (dOp opEq (dVar 6) (dC (.str "#,##0"))) (dCons (dVar 7) (dCons (dSl (dVar 2) (dPart (dVar 8)) dNoPart) (dCons (dVar 3) (dCons (dVar 1) dNil)))))))))
def t_parse_format_11 (Z : Zt) : TDS := dSeq (dIfS (dOr (dTest (dOp opEq (dVar 6) (dC (.str "")))) (dAnd (dTest (dOp (memIn true) (dVar 6) (dTup (dCons (dC (.str "#")) (dCons (dC (.str "#,##0")) dNil))))) (dTest (dOp opNe (dVar 6) (dOp opMul (dC (.str "0")) (dBi rLen (dCons (dVar 6) dNil))))))) (dRaise 0) dNext) (t_parse_format_12 Z)
def t_parse_format_10 (Z : Zt) : TDS := dSeq (dAsg (dIf (dTest (dOp opEq (dVar 6) (dC (.str "#")))) (dC (.int 0)) (dIf (dTest (dOp opEq (dVar 6) (dC (.str "#,##0")))) (dC (.int 1)) (dBi rLen (dCons (dVar 6) dNil)))) (gN 9)) (t_parse_format_11 Z)
def t_parse_format_9_3 (Z : Zt) : TDS := (dIfS (dTest (dOp opEq (dVar 7) (dC (.int 0)))) (dRaise 0) dNext)
def t_parse_format_9_2 (Z : Zt) : TDS := dSeq (dAsg (dOp opSub (dOp opSub (dVar 8) (dVar 5)) (dC (.int 1))) (gN 7)) (t_parse_format_9_3 Z)
def t_parse_format_9_1_0 (Z : Zt) : TDS := (dAug 8 (dC (.int 1)) opIAdd)
def t_parse_format_9_1 (Z : Zt) : TDS := dSeq (dWhile (dAnd (dTest (dOp opLt (dVar 8) (dBi rLen (dCons (dVar 2) dNil)))) (dTest (dOp opEq (dOp opIx (dVar 2) (dVar 8)) (dC (.str "0"))))) (t_parse_format_9_1_0 Z)) (t_parse_format_9_2 Z)
def t_parse_format_9_0 (Z : Zt) : TDS := dSeq (dAsg (dOp opAdd (dVar 5) (dC (.int 1))) (gN 8)) (t_parse_format_9_1 Z)
def t_parse_format_9 (Z : Zt) : TDS := dSeq (dIfS (dTest (dOp opEq (dSl (dVar 2) (dPart (dVar 5)) (dPart (dOp opAdd (dVar 5) (dC (.int 1))))) (dC (.str ".")))) (t_parse_format_9_0 Z) dNext) (t_parse_format_10 Z)
def t_parse_format_8 (Z : Zt) : TDS := dSeq (dPar3 6 7 8 (dCons (dSl (dVar 2) (dPart (dVar 4)) (dPart (dVar 5))) (dCons (dC (.int 0)) (dCons (dVar 5) dNil)))) (t_parse_format_9 Z)
def t_parse_format_7_0 (Z : Zt) : TDS := (dAug 5 (dC (.int 1)) opIAdd)
def t_parse_format_7 (Z : Zt) : TDS := dSeq (dWhile (dAnd (dTest (dOp opLt (dVar 5) (dBi rLen (dCons (dVar 2) dNil)))) (dTest (dOp (memIn false) (dOp opIx (dVar 2) (dVar 5)) (dC (.str "0#,"))))) (t_parse_format_7_0 Z)) (t_parse_format_8 Z)
def t_parse_format_6 (Z : Zt) : TDS := dSeq (dAsg (dVar 4) (gN 5)) (t_parse_format_7 Z)
def t_parse_format_5_0 (Z : Zt) : TDS := (dAug 4 (dC (.int 1)) opIAdd)
def t_parse_format_5 (Z : Zt) : TDS := dSeq (dWhile (dAnd (dTest (dOp opLt (dVar 4) (dBi rLen (dCons (dVar 2) dNil)))) (dTest (dOp (memIn true) (dOp opIx (dVar 2) (dVar 4)) (dC (.str "0#"))))) (t_parse_format_5_0 Z)) (t_parse_format_6 Z)
def t_parse_format_4 (Z : Zt) : TDS := dSeq (dAsg (dC (.int 0)) (gN 4)) (t_parse_format_5 Z)
def t_parse_format_3 (Z : Zt) : TDS := dSeq (dAsg (dIf (dTru (dVar 3)) (dSl (dVar 2) dNoPart (dPart (dOp opSub (dBi rLen (dCons (dVar 2) dNil)) (dC (.int 4))))) (dVar 2)) (gN 2)) (t_parse_format_4 Z)
def t_parse_format_2 (Z : Zt) : TDS := dSeq (dAsg (dSM rEnds (dVar 2) (dCons (dC (.str "x100")) dNil)) (gN 3)) (t_parse_format_3 Z)
def t_parse_format_1 (Z : Zt) : TDS := dSeq (dAsg (dIf (dTru (dVar 1)) (dSl (dVar 0) (dPart (dC (.int 1))) dNoPart) (dVar 0)) (gN 2)) (t_parse_format_2 Z)
def t_parse_format_0 (Z : Zt) : TDS := dSeq (dAsg (dSM rStarts (dVar 0) (dCons (dC (.str "+")) dNil)) (gN 1)) (t_parse_format_1 Z)

def t__law_shown_9 (Z : Zt) : TDS := (dRet (dOp opAdd (dOp opAdd (dOp opAdd (dOp opAdd (dVar 14) (dVar 1)) (dVar 12)) (dIf (dTest (dOp opGt (dVar 3) (dC (.int 0)))) (dOp opAdd (dC (.str ".")) (dVar 13)) (dC (.str "")))) (dVar 4)))
def t__law_shown_8 (Z : Zt) : TDS := dSeq (dAsg (dIf (dAnd (dTest (dOp opLt (dOp opIx (dVar 0) (dC (.int 0))) (dC (.int 0)))) (dTest (dOp opGt (dVar 11) (dC (.int 0))))) (dC (.str "-")) (dIf (dAnd (dTru (dVar 6)) (dTest (dOp opGt (dVar 11) (dC (.int 0))))) (dC (.str "+")) (dC (.str "")))) (gN 14)) (t__law_shown_9 Z)
def t__law_shown_7 (Z : Zt) : TDS := dSeq (dIfS (dTest (dOp opEq (dVar 2) (dC (.str "#,##0")))) (dSeq (dAsg (dLst dNil) (gN 15)) (dSeq (dWhile (dTest (dOp opNe (dVar 12) (dC (.str "")))) (dPar2 15 12 (dCons (dOp opAdd (dLst (dCons (dSl (dVar 12) (dPart (dNeg (dC (.int 3)))) dNoPart) dNil)) (dVar 15)) (dCons (dSl (dVar 12) dNoPart (dPart (dNeg (dC (.int 3))))) dNil)))) (dAsg (dSM rJoin (dC (.str ",")) (dCons (dVar 15) dNil)) (gN 12)))) dNext) (t__law_shown_8 Z)
def t__law_shown_6 (Z : Zt) : TDS := dSeq (dAsg (dIf (dTest (dOp opEq (dVar 2) (dC (.str "#")))) (dIf (dTest (dOp opEq (dVar 12) (dC (.str "0")))) (dC (.str "")) (dVar 12)) (dIf (dTest (dOp opNe (dVar 2) (dC (.str "#,##0")))) (dOp opAdd (dOp opMul (dC (.str "0")) (dOp opSub (dBi rLen (dCons (dVar 2) dNil)) (dBi rLen (dCons (dVar 12) dNil)))) (dVar 12)) (dVar 12))) (gN 12)) (t__law_shown_7 Z)
def t__law_shown_5 (Z : Zt) : TDS := dSeq (dAsg (dIf (dTest (dOp opGt (dVar 3) (dC (.int 0)))) (dOp opAdd (dOp opMul (dC (.str "0")) (dOp opSub (dVar 3) (dBi rLen (dCons (dVar 13) dNil)))) (dVar 13)) (dC (.str ""))) (gN 13)) (t__law_shown_6 Z)
def t__law_shown_4 (Z : Zt) : TDS := dSeq (dPar2 12 13 (dCons (dBi rStr (dCons (dOp opDiv (dVar 11) (dVar 9)) dNil)) (dCons (dBi rStr (dCons (dOp opMod (dVar 11) (dVar 9)) dNil)) dNil))) (t__law_shown_5 Z)
def t__law_shown_3 (Z : Zt) : TDS := dSeq (dAsg (dOp opDiv (dOp opAdd (dOp opMul (dOp opMul (dC (.int 2)) (dBi rAbs (dCons (dVar 7) dNil))) (dVar 9)) (dVar 8)) (dOp opMul (dC (.int 2)) (dVar 8))) (gN 11)) (t__law_shown_4 Z)
def t__law_shown_2_0 (Z : Zt) : TDS := (dAsg (dOp opMul (dVar 9) (dC (.int 10))) (gN 9))
def t__law_shown_2 (Z : Zt) : TDS := dSeq (dFor (iRg1 (dCons (dVar 3) dNil)) (gN 10) (t__law_shown_2_0 Z)) (t__law_shown_3 Z)
def t__law_shown_1 (Z : Zt) : TDS := dSeq (dAsg (dC (.int 1)) (gN 9)) (t__law_shown_2 Z)
def t__law_shown_0 (Z : Zt) : TDS := dSeq (dPar2 7 8 (dCons (dOp opMul (dOp opIx (dVar 0) (dC (.int 0))) (dIf (dTru (dVar 5)) (dC (.int 100)) (dC (.int 1)))) (dCons (dOp opIx (dVar 0) (dC (.int 1))) dNil))) (t__law_shown_1 Z)

def t__law_roll_at_1_5 (Z : Zt) : TDS := (dRet (dOp opMod (dBi rInt (dCons (dOp opDiv (dOp opIx (dVar 0) (dC (.int 0))) (dC (.int 7))) dNil)) (dVar 1)))
def t__law_roll_at_1_4 (Z : Zt) : TDS := dSeq (dAsg (dOp opAdd (dOp opIx (dVar 0) (dC (.int 1))) (dC (.int 1))) (gIx (dVar 0) (dC (.int 1)))) (t__law_roll_at_1_5 Z)
def t__law_roll_at_1_3 (Z : Zt) : TDS := dSeq (dAsg (dOp opMod (dBi rInt (dCons (dOp opAdd (dOp opAdd (dOp opMul (dOp opIx (dVar 0) (dC (.int 0))) (dC (.int 48271))) (dOp opMul (dOp opIx (dVar 0) (dC (.int 1))) (dC (.int 69621)))) (dC (.int 11))) dNil)) (dC (.int 2147483647))) (gIx (dVar 0) (dC (.int 0)))) (t__law_roll_at_1_4 Z)
def t__law_roll_at_1_2 (Z : Zt) : TDS := dSeq (dIfS (dTest (dOp opGt (dVar 1) (dC (.int 100000000)))) (dRet (dOp opMod (dBi rInt (dCons (dOp opAdd (dOp opMul (dCall (M14 Z) 1 13 2 (dCons (dVar 0) (dCons (dOp opAdd (dOp opDiv (dVar 1) (dC (.int 100000000))) (dC (.int 1))) dNil))) (dC (.int 100000000))) (dCall (M14 Z) 1 13 2 (dCons (dVar 0) (dCons (dC (.int 100000000)) dNil)))) dNil)) (dVar 1))) dNext) (t__law_roll_at_1_3 Z)
def t__law_roll_at_1_1 (Z : Zt) : TDS := dSeq (dAsg (dC (.int 0)) (gIx (dVar 0) (dC (.int 2)))) (t__law_roll_at_1_2 Z)
def t__law_roll_at_1_0 (Z : Zt) : TDS := dSeq (dIfS (dOr (dTest (dOp opEq (dOp opIx (dVar 0) (dC (.int 2))) (dC (.int 2)))) (dAnd (dTest (dOp opEq (dOp opIx (dVar 0) (dC (.int 2))) (dC (.int 1)))) (dTest (dOp opGt (dOp opIx (dVar 0) (dC (.int 0))) (dC (.int 0)))))) (dSeq (dAsg (dOp opMod (dBi rInt (dCons (dOp opIx (dVar 0) (dC (.int 0))) dNil)) (dVar 1)) (gN 2)) (dSeq (dAsg (dOp opDiv (dOp opIx (dVar 0) (dC (.int 0))) (dVar 1)) (gIx (dVar 0) (dC (.int 0)))) (dRet (dVar 2)))) dNext) (t__law_roll_at_1_1 Z)

def t_law_4 (Z : Zt) : TDS := (dRet (dAndV (dOp opEq (dLc (iAny (dVar 3)) (gN 14) (dTest (dOp opNe (dCall (M31 Z) 6 28 1 (dCons (dVar 14) dNil)) (dC (.str "TableError")))) (dC (.int 1)) [14]) (dLst dNil)) (dAndV (dOp opEq (dC (.int 10)) (dC (.int 10))) (dOp opEq (dMeth tx (M31 Z) 6 7 1 (dCall (M31 Z) 6 11 1 (dCons (dC (.str "0x100")) dNil)) (dCons (dTup (dCons (dOp opPow (dC (.int 10)) (dC (.int 29))) (dCons (dC (.int 1)) dNil))) dNil)) (dC (.str "#too large"))))))
def t_law_3 (Z : Zt) : TDS := dSeq (dAsg (dLst (dCons (dLam Z 0) (dCons (dLam Z 1) (dCons (dLam Z 2) (dCons (dLam Z 3) (dCons (dLam Z 4) (dCons (dLam Z 5) (dCons (dLam Z 6) (dCons (dLam Z 7) (dCons (dLam Z 8) (dCons (dLam Z 9) (dCons (dLam Z 10) (dCons (dLam Z 11) dNil))))))))))))) (gN 3)) (t_law_4 Z)
def t_law_2 (Z : Zt) : TDS := dSeq (dIfS (dTest (dOp opNe (dLc (iAny (dLst (dCons (dC .non) (dCons (dC (.bl true)) (dCons (dC (.str "ab")) (dCons (dTup (dCons (dC (.str "#")) (dCons (dC (.str "kind")) dNil))) (dCons (dTup (dCons (dC (.int 19)) (dCons (dC (.int 20)) dNil))) (dCons (dTup (dCons (dNeg (dC (.int 1))) (dCons (dC (.int 100)) dNil))) (dCons (dTup (dCons (dOp opPow (dC (.int 10)) (dC (.int 29))) (dCons (dC (.int 1)) dNil))) dNil))))))))) (gN 13) dYes (dMeth tx (M31 Z) 6 7 1 (dVar 2) (dCons (dVar 13) dNil)) [13]) (dLst (dCons (dC (.str "")) (dCons (dC (.str "TRUE")) (dCons (dC (.str "ab")) (dCons (dC (.str "#kind")) (dCons (dC (.str "1.0")) (dCons (dC (.str "0.0")) (dCons (dOp opAdd (dOp opAdd (dC (.str "1")) (dOp opMul (dC (.str "0")) (dC (.int 29)))) (dC (.str ".0"))) dNil)))))))))) (dRet (dC (.bl false))) dNext) (t_law_3 Z)
def t_law_1 (Z : Zt) : TDS := dSeq (dAsg (dCall (M31 Z) 6 11 1 (dCons (dC (.str "0.0")) dNil)) (gN 2)) (t_law_2 Z)
def t_law_0_2 (Z : Zt) : TDS := (dIfS (dOr (dTest (dOp opNe (dReplC (dCall (M31 Z) 6 9 1 (dCons (dVar 5) dNil)) "," "") (dVar 5))) (dTest (dOp opNe (dLc (iEnumD (dCons (dSM rSplit (dCall (M31 Z) 6 9 1 (dCons (dVar 5) dNil)) (dCons (dC (.str ",")) dNil)) dNil)) (gT 2 (gCs (gN 15) (gCs (gN 16) gNl))) (dOr (dTest (dOp opGt (dBi rLen (dCons (dVar 16) dNil)) (dC (.int 3)))) (dAnd (dTest (dOp opGt (dVar 15) (dC (.int 0)))) (dTest (dOp opLt (dBi rLen (dCons (dVar 16) dNil)) (dC (.int 3)))))) (dVar 15) [15, 16]) (dLst dNil)))) (dRet (dC (.bl false))) dNext)
def t_law_0_1 (Z : Zt) : TDS := dSeq (dAsg (dBi rStr (dCons (dCall (M31 Z) 6 14 2 (dCons (dVar 1) (dCons (dOp opPow (dC (.int 10)) (dC (.int 9))) dNil))) dNil)) (gN 5)) (t_law_0_2 Z)
def t_law_0_0_6 (Z : Zt) : TDS := (dIfS (dTest (dOp opNe (dMeth tx (M31 Z) 6 7 1 (dVar 12) (dCons (dVar 13) dNil)) (dCall (M31 Z) 6 30 7 (dCons (dVar 13) (dCons (dVar 7) (dCons (dVar 5) (dCons (dVar 6) (dCons (dVar 8) (dCons (dVar 9) (dCons (dVar 10) dNil)))))))))) (dRet (dC (.bl false))) dNext)
def t_law_0_0_5 (Z : Zt) : TDS := dSeq (dAsg (dCall (M31 Z) 6 29 2 (dCons (dOp opSub (dCall (M31 Z) 6 14 2 (dCons (dVar 1) (dCons (dOp opIx (dLst (dCons (dC (.int 10)) (dCons (dC (.int 1000)) (dCons (dOp opPow (dC (.int 10)) (dC (.int 7))) (dCons (dOp opPow (dC (.int 10)) (dC (.int 9))) dNil))))) (dCall (M31 Z) 6 14 2 (dCons (dVar 1) (dCons (dC (.int 4)) dNil)))) dNil))) (dOp opMul (dCall (M31 Z) 6 14 2 (dCons (dVar 1) (dCons (dC (.int 3)) dNil))) (dC (.int 500)))) (dCons (dOp opIx (dLst (dCons (dC (.int 1)) (dCons (dC (.int 3)) (dCons (dC (.int 8)) (dCons (dC (.int 1000)) (dCons (dC (.int 7)) dNil)))))) (dCall (M31 Z) 6 14 2 (dCons (dVar 1) (dCons (dC (.int 5)) dNil)))) dNil))) (gN 13)) (t_law_0_0_6 Z)
def t_law_0_0_4 (Z : Zt) : TDS := dSeq (dIfS (dTest (dOp opNe (dTup (dCons (dFld tx 0 (dVar 12)) (dCons (dFld tx 2 (dVar 12)) (dCons (dFld tx 3 (dVar 12)) (dCons (dFld tx 4 (dVar 12)) (dCons (dFld tx 5 (dVar 12)) (dCons (dFld tx 6 (dVar 12)) dNil))))))) (dTup (dCons (dVar 7) (dCons (dOp opEq (dVar 5) (dC (.str "#,##0"))) (dCons (dVar 6) (dCons (dVar 8) (dCons (dVar 9) (dCons (dVar 10) dNil))))))))) (dRet (dC (.bl false))) dNext) (t_law_0_0_5 Z)
def t_law_0_0_3 (Z : Zt) : TDS := dSeq (dAsg (dCall (M31 Z) 6 11 1 (dCons (dVar 11) dNil)) (gN 12)) (t_law_0_0_4 Z)
def t_law_0_0_2 (Z : Zt) : TDS := dSeq (dAsg (dOp opAdd (dOp opAdd (dOp opAdd (dOp opAdd (dOp opAdd (dIf (dTru (dVar 10)) (dC (.str "+")) (dC (.str ""))) (dVar 7)) (dVar 5)) (dIf (dTest (dOp opGt (dVar 6) (dC (.int 0)))) (dOp opAdd (dC (.str ".")) (dOp opMul (dC (.str "0")) (dVar 6))) (dC (.str "")))) (dVar 8)) (dIf (dTru (dVar 9)) (dC (.str "x100")) (dC (.str "")))) (gN 11)) (t_law_0_0_3 Z)
def t_law_0_0_1 (Z : Zt) : TDS := dSeq (dAsg (dTup (dCons (dOp opIx (dLst (dCons (dC (.str "")) (dCons (dC (.str "$")) (dCons (dC (.str "EUR ")) dNil)))) (dCall (M31 Z) 6 14 2 (dCons (dVar 1) (dCons (dC (.int 3)) dNil)))) (dCons (dOp opIx (dLst (dCons (dC (.str "")) (dCons (dC (.str " kg")) (dCons (dC (.str "-")) dNil)))) (dCall (M31 Z) 6 14 2 (dCons (dVar 1) (dCons (dC (.int 3)) dNil)))) (dCons (dOp opEq (dCall (M31 Z) 6 14 2 (dCons (dVar 1) (dCons (dC (.int 3)) dNil))) (dC (.int 0))) (dCons (dOp opEq (dCall (M31 Z) 6 14 2 (dCons (dVar 1) (dCons (dC (.int 2)) dNil))) (dC (.int 0))) dNil))))) (gT 4 (gCs (gN 7) (gCs (gN 8) (gCs (gN 9) (gCs (gN 10) gNl)))))) (t_law_0_0_2 Z)
def t_law_0_0_0 (Z : Zt) : TDS := dSeq (dPar2 5 6 (dCons (dOp opIx (dLst (dCons (dC (.str "#")) (dCons (dC (.str "0")) (dCons (dC (.str "000")) (dCons (dC (.str "#,##0")) dNil))))) (dCall (M31 Z) 6 14 2 (dCons (dVar 1) (dCons (dC (.int 4)) dNil)))) (dCons (dCall (M31 Z) 6 14 2 (dCons (dVar 1) (dCons (dC (.int 5)) dNil))) dNil))) (t_law_0_0_1 Z)
def t_law_0_0 (Z : Zt) : TDS := dSeq (dFor (iRg1 (dCons (dC (.int 4)) dNil)) (gN 4) (t_law_0_0_0 Z)) (t_law_0_1 Z)
def t_law_0 (Z : Zt) : TDS := dSeq (dFor (iAny (dCall (M31 Z) 6 15 2 (dCons (dVar 0) (dCons (dC (.int 1)) dNil)))) (gN 1) (t_law_0_0 Z)) (t_law_1 Z)

end K08

set_option Elab.async false
set_option linter.all false
set_option maxRecDepth 100000
set_option maxHeartbeats 4000000
namespace K08
open PySem PySem.Spec PyProof.Rows L2 G
open PySem.NumText (AllDigits)
/-! ### drawn patterns -/
def figs4 : List (List Nat) := [[35], [48], [48, 48, 48], hashL]
def heads3 : List (List Nat) := [[], [36], [69, 85, 82, 32]]
def tails3 : List (List Nat) := [[], [32, 107, 103], [45]]
def patL (head fg tail : List Nat) (places : Nat) (share signed : Bool) : List Nat :=
  (if signed = true then [43] else []) ++ head ++ fg ++ (if 0 < places then 46 :: List.replicate places 48 else []) ++ tail ++ (if share = true then [120, 49, 48, 48] else [])
def fmOf (head fg tail : List Nat) (places : Nat) (share signed : Bool) : Fm := ⟨head, leastOf fg, decide (fg = hashL), places, tail, share, signed⟩
theorem pat_all : (figs4.all fun fg => heads3.all fun head => tails3.all fun tail => (List.range 5).all fun places => [true, false].all fun share => [true, false].all fun signed => decide (fmtOf (patL head fg tail places share signed) = some (fmOf head fg tail places share signed))) = true := by decide +kernel
theorem pat_ok {head fg tail : List Nat} {places : Nat} {share signed : Bool} (h1 : head ∈ heads3) (h2 : fg ∈ figs4) (h3 : tail ∈ tails3) (h4 : places < 5) : fmtOf (patL head fg tail places share signed) = some (fmOf head fg tail places share signed) := by
  have h := List.all_eq_true.mp pat_all fg h2
  have h := List.all_eq_true.mp h head h1
  have h := List.all_eq_true.mp h tail h3
  have h := List.all_eq_true.mp h places (List.mem_range.mpr h4)
  have h := List.all_eq_true.mp h share (by cases share <;> simp)
  have h := List.all_eq_true.mp h signed (by cases signed <;> simp)
  exact of_decide_eq_true h
/-! ### reduced numbers -/
theorem mk_red {P W : Int} (hW : 0 < W) (hP : P.natAbs < 10 ^ 30) (hW2 : W < 10 ^ 30) : ∃ a b g : Int, mkNum P W = .num a b ∧ 0 < g ∧ P = g * a ∧ W = g * b ∧ 0 < b ∧ Int.gcd a b = 1 := by
  have g0 : 0 < Int.gcd P W := Int.gcd_pos_of_ne_zero_right _ (by omega)
  have h1 : ((Int.gcd P W : Nat) : Int) ∣ P := Int.gcd_dvd_left ..
  have h2 : ((Int.gcd P W : Nat) : Int) ∣ W := Int.gcd_dvd_right ..
  have h3 : Int.gcd (P / (Int.gcd P W : Nat)) (W / (Int.gcd P W : Nat)) = 1 := Int.gcd_ediv_gcd_ediv_gcd g0
  generalize Int.gcd P W = g at *
  obtain ⟨x, rfl⟩ := h1
  obtain ⟨y, rfl⟩ := h2
  rw [Int.mul_ediv_cancel_left _ (by omega), Int.mul_ediv_cancel_left _ (by omega)] at h3
  have y0 : 0 < y := Int.pos_of_mul_pos_right hW (by omega)
  refine ⟨x, y, g, ?_, by omega, rfl, rfl, y0, h3⟩
  refine mk_norm (by rw [Int.mul_comm (g : Int) x, Int.mul_assoc]) hW y0 h3 ?_ ?_
  · have e : (((g : Nat) : Int) * x).natAbs = g * x.natAbs := by rw [Int.natAbs_mul, Int.natAbs_natCast]
    have e2 : 1 * x.natAbs ≤ g * x.natAbs := Nat.mul_le_mul_right _ g0
    omega
  · have e2 : 1 * y ≤ (g : Int) * y := Int.mul_le_mul_of_nonneg_right (by omega) (by omega)
    omega
/-! ### figures of fixed width -/
def fw : Nat → Nat → List Nat
  | 0, _ => []
  | k + 1, m => fw k (m / 10) ++ [48 + m % 10]
theorem fw_len : ∀ k m, (fw k m).length = k
  | 0, _ => rfl
  | k + 1, m => by
    unfold fw
    rw [List.length_append, fw_len k]
    rfl
theorem fw_zero : ∀ k, fw k 0 = List.replicate k 48
  | 0 => rfl
  | k + 1 => by
    unfold fw
    rw [Nat.zero_div, fw_zero k, List.replicate_succ']
theorem natD_mod (n : Nat) (h : 10 ≤ n) : natD n = natD (n / 10) ++ [48 + n % 10] := by
  have e : 10 * (n / 10) + n % 10 = n := Nat.div_add_mod n 10
  conv => lhs; rw [← e]
  rw [natD_step (by omega) (by omega)]
theorem pad_fw : ∀ (k N : Nat), padL k (natD N) = natD (N / 10 ^ k) ++ fw k (N % 10 ^ k)
  | 0, N => by
    have hl : 0 < (natD N).length := List.length_pos_iff.mpr (natD_ne N)
    unfold padL fw
    rw [show 0 + 1 - (natD N).length = 0 by omega, Nat.pow_zero, Nat.div_one, List.append_nil]
    rfl
  | k + 1, N => by
    have e1 : N / 10 ^ (k + 1) = N / 10 / 10 ^ k := by rw [Nat.pow_succ, Nat.mul_comm, Nat.div_div_eq_div_mul]
    have e2 : N % 10 ^ (k + 1) / 10 = N / 10 % 10 ^ k := by rw [Nat.pow_succ, Nat.mul_comm, Nat.mod_mul_right_div_self]
    have e3 : N % 10 ^ (k + 1) % 10 = N % 10 := Nat.mod_mod_of_dvd _ (by rw [Nat.pow_succ]; exact Nat.dvd_mul_left _ _)
    unfold fw
    rw [e1, e2, e3, ← List.append_assoc, ← pad_fw k (N / 10)]
    unfold padL
    by_cases h : N < 10
    · rw [show N / 10 = 0 by omega, natD_small h, natD_small (show 0 < 10 by decide), show N % 10 = N by omega]
      show List.replicate (k + 1) 48 ++ [48 + N] = List.replicate k 48 ++ [48 + 0] ++ [48 + N]
      rw [List.replicate_succ']
    · rw [natD_mod N (by omega), List.length_append]
      show List.replicate (k + 1 + 1 - ((natD (N / 10)).length + 1)) 48 ++ (natD (N / 10) ++ [48 + N % 10]) = _
      rw [show k + 1 + 1 - ((natD (N / 10)).length + 1) = k + 1 - (natD (N / 10)).length by omega, List.append_assoc]
theorem fw_pad : ∀ (k m : Nat), m < 10 ^ (k + 1) → fw (k + 1) m = List.replicate (k + 1 - (natD m).length) 48 ++ natD m
  | 0, m, h => by
    have h : m < 10 := by simpa using h
    unfold fw
    rw [natD_small h, show m % 10 = m by omega]
    rfl
  | k + 1, m, h => by
    have hq : m / 10 < 10 ^ (k + 1) := by rw [Nat.pow_succ] at h; omega
    conv => lhs; unfold fw
    rw [fw_pad k _ hq]
    by_cases h10 : m < 10
    · rw [show m / 10 = 0 by omega, natD_small h10, natD_small (show 0 < 10 by decide), show m % 10 = m by omega]
      show List.replicate k 48 ++ [48 + 0] ++ [48 + m] = List.replicate (k + 1) 48 ++ [48 + m]
      rw [List.replicate_succ']
    · rw [natD_mod m (by omega), List.length_append]
      show _ = List.replicate (k + 1 + 1 - ((natD (m / 10)).length + 1)) 48 ++ (natD (m / 10) ++ [48 + m % 10])
      rw [show k + 1 + 1 - ((natD (m / 10)).length + 1) = k + 1 - (natD (m / 10)).length by omega, List.append_assoc]
theorem dg_take (k N : Nat) : (padL k (natD N)).take ((padL k (natD N)).length - k) = natD (N / 10 ^ k) := by
  rw [pad_fw, List.length_append, fw_len, Nat.add_sub_cancel, List.take_left]
theorem dg_drop (k N : Nat) : (padL k (natD N)).drop ((padL k (natD N)).length - k) = fw k (N % 10 ^ k) := by
  rw [pad_fw, List.length_append, fw_len, Nat.add_sub_cancel, List.drop_left]
theorem front_ok {fg front : List Nat} (h : fg ∈ figs4) (hne : front ≠ []) : (if front = [48] ∧ leastOf fg = 0 then [] else List.replicate (leastOf fg - front.length) 48 ++ front) = frontL fg front := by
  have hl : 0 < front.length := List.length_pos_iff.mpr hne
  have h : fg = [35] ∨ fg = [48] ∨ fg = [48, 48, 48] ∨ fg = hashL := by simpa [figs4] using h
  rcases h with rfl | rfl | rfl | rfl
  · unfold frontL
    rw [if_pos rfl]
    by_cases c : front = [48]
    · rw [if_pos (show front = [48] ∧ leastOf [35] = 0 from ⟨c, by decide⟩), if_pos c]
    · rw [if_neg (fun z : front = [48] ∧ leastOf [35] = 0 => c z.1), if_neg c]
      show List.replicate (0 - front.length) 48 ++ front = front
      rw [Nat.zero_sub]
      rfl
  · have e : leastOf [48] = 1 := by decide
    rw [e, if_neg (fun z => absurd z.2 (by decide))]
    unfold frontL
    rw [if_neg (by decide), if_pos (by decide)]
    rfl
  · have e : leastOf [48, 48, 48] = 3 := by decide
    rw [e, if_neg (fun z => absurd z.2 (by decide))]
    unfold frontL
    rw [if_neg (by decide), if_pos (by decide)]
    rfl
  · have e : leastOf hashL = 1 := by decide
    rw [e, if_neg (fun z => absurd z.2 (by decide))]
    unfold frontL
    rw [if_neg (by decide), if_neg (fun z => z rfl), show 1 - front.length = 0 by omega]
    rfl
def shownW (m : Fm) (a : Int) (wh re : List Nat) : List Nat :=
  (if a < 0 then [45] else if m.signed = true ∧ 0 < a then [43] else []) ++ m.head ++
  (if m.parted = true then partL (if wh = [48] ∧ m.least = 0 then [] else List.replicate (m.least - wh.length) 48 ++ wh) else (if wh = [48] ∧ m.least = 0 then [] else List.replicate (m.least - wh.length) 48 ++ wh)) ++
  (if 0 < m.places then 46 :: re else []) ++ m.tail
theorem shownP_W {m : Fm} {a b : Int} {wh re : List Nat} (h1 : (padL m.places (natD (a.natAbs * ((10 ^ m.places : Int) / b).toNat))).take ((padL m.places (natD (a.natAbs * ((10 ^ m.places : Int) / b).toNat))).length - m.places) = wh) (h2 : (padL m.places (natD (a.natAbs * ((10 ^ m.places : Int) / b).toNat))).drop ((padL m.places (natD (a.natAbs * ((10 ^ m.places : Int) / b).toNat))).length - m.places) = re) : shownP m a b = shownW m a wh re := by
  subst h1
  subst h2
  rfl
/-- what is shown is the law's own -/
theorem shown_ok {p w : Int} {head fg tail : List Nat} {places : Nat} {share signed : Bool} (h2 : fg ∈ figs4) (h4 : places < 5) (hp : p.natAbs ≤ 10 ^ 10) (w0 : 0 < w) (hw : w ≤ 1000) :
    fmtT (fmOf head fg tail places share signed) (.num p w) = lawL p w head fg tail places share signed := by
  obtain ⟨c, hc, hc1, hc2⟩ : ∃ c : Int, (if share = true then (100 : Int) else 1) = c ∧ 0 < c ∧ c ≤ 100 := by
    refine ⟨_, rfl, ?_, ?_⟩ <;> (split <;> decide)
  have hpc : (p * c).natAbs ≤ 100 * 10 ^ 10 := by
    rw [Int.natAbs_mul, Nat.mul_comm]
    exact Nat.mul_le_mul (by omega) hp
  obtain ⟨p', w', g, hv, g0, e1, e2, w0', hg⟩ : ∃ p' w' g : Int, (if share = true then mkNum (p * 100) w else .num p w) = .num p' w' ∧ 0 < g ∧ p * c = g * p' ∧ w = g * w' ∧ 0 < w' ∧ True := by
    cases share with
    | true =>
      have hc : (100 : Int) = c := hc
      subst hc
      obtain ⟨a, b, g, z1, z2, z3, z4, z5, z6⟩ := mk_red (P := p * 100) (W := w) w0 (by omega) (by omega)
      exact ⟨a, b, g, z1, z2, z3, z4, z5, trivial⟩
    | false =>
      have hc : (1 : Int) = c := hc
      subst hc
      exact ⟨p, w, 1, rfl, by decide, by omega, by omega, w0, trivial⟩
  have hk0 : (0 : Int) < 10 ^ places := Int.pow_pos (by decide)
  have hk : (10 : Int) ^ places ≤ 10 ^ 4 := by
    have : (10 : Nat) ^ places ≤ 10 ^ 4 := Nat.pow_le_pow_right (by decide) (by omega)
    exact_mod_cast this
  have hpg : p'.natAbs ≤ 100 * 10 ^ 10 := by
    have e : (g * p').natAbs = g.natAbs * p'.natAbs := Int.natAbs_mul ..
    rw [← e1] at e
    have e3 : 1 * p'.natAbs ≤ g.natAbs * p'.natAbs := Nat.mul_le_mul_right _ (by omega)
    omega
  have hwg : w' ≤ 1000 := by
    have e3 : 1 * w' ≤ g * w' := Int.mul_le_mul_of_nonneg_right (by omega) (by omega)
    omega
  -- the rounded number
  have hN : ((nearN p w places share : Nat) : Int) = (2 * ((p'.natAbs : Nat) : Int) * 10 ^ places + w') / (2 * w') := by
    unfold nearN
    rw [hc]
    have ea : (((p * c).natAbs : Nat) : Int) = g * ((p'.natAbs : Nat) : Int) := by
      rw [e1, Int.natAbs_mul, Int.natCast_mul]
      rw [show ((g.natAbs : Nat) : Int) = g by omega]
    have eb : (2 * (((p * c).natAbs : Nat) : Int) * 10 ^ places + w) / (2 * w) = (2 * ((p'.natAbs : Nat) : Int) * 10 ^ places + w') / (2 * w') := by
      rw [ea, e2]
      have x1 : 2 * (g * ((p'.natAbs : Nat) : Int)) * 10 ^ places + g * w' = g * (2 * ((p'.natAbs : Nat) : Int) * 10 ^ places + w') := by
        rw [Int.mul_add, Int.mul_left_comm 2 g, Int.mul_assoc g]
      have x2 : 2 * (g * w') = g * (2 * w') := Int.mul_left_comm ..
      rw [x1, x2, Int.mul_ediv_mul_of_pos _ _ g0]
    rw [eb]
    have : 0 ≤ (2 * ((p'.natAbs : Nat) : Int) * 10 ^ places + w') / (2 * w') := Int.ediv_nonneg (by
      have := Int.mul_nonneg (a := 2 * ((p'.natAbs : Nat) : Int)) (b := 10 ^ places) (by omega) (by omega)
      omega) (by omega)
    omega
  have hNb : nearN p w places share < 10 ^ 20 := by
    have h5 : (2 * ((p'.natAbs : Nat) : Int) * 10 ^ places + w') / (2 * w') ≤ 2 * ((p'.natAbs : Nat) : Int) * 10 ^ places + w' := Int.ediv_le_self _ (by
      have := Int.mul_nonneg (a := 2 * ((p'.natAbs : Nat) : Int)) (b := 10 ^ places) (by omega) (by omega)
      omega)
    have h6 : 2 * ((p'.natAbs : Nat) : Int) * 10 ^ places ≤ 2 * (100 * 10 ^ 10) * 10 ^ 4 := Int.mul_le_mul (by omega) hk (by omega) (by decide)
    omega
  have hrn : rn (p' * 10 ^ places) w' = (if 0 ≤ p then 1 else 0 - 1) * ((nearN p w places share : Nat) : Int) := by
    unfold rn
    rw [hN, Int.fdiv_eq_ediv_of_nonneg _ (by omega), Int.natAbs_mul, Int.natCast_mul]
    rw [show (((10 : Int) ^ places).natAbs : Int) = 10 ^ places by omega, ← Int.mul_assoc]
    have es : (0 ≤ p' * 10 ^ places) ↔ 0 ≤ p := by
      constructor
      · intro z
        have h7 : 0 ≤ p' := by
          by_cases q : 0 ≤ p'
          · exact q
          · have := Int.mul_neg_of_neg_of_pos (show p' < 0 by omega) hk0
            omega
        have h8 : 0 ≤ g * p' := Int.mul_nonneg (by omega) h7
        by_cases q : 0 ≤ p
        · exact q
        · have := Int.mul_neg_of_neg_of_pos (show p < 0 by omega) hc1
          omega
      · intro z
        refine Int.mul_nonneg ?_ (by omega)
        have h8 : 0 ≤ p * c := Int.mul_nonneg z (by omega)
        by_cases q : 0 ≤ p'
        · exact q
        · have := Int.mul_neg_of_pos_of_neg g0 (show p' < 0 by omega)
          omega
    by_cases z : 0 ≤ p
    · rw [if_pos z, if_pos (es.mpr z)]
    · rw [if_neg z, if_neg (fun q => z (es.mp q))]
  generalize hNN : nearN p w places share = N at *
  obtain ⟨a, b, g2, hm, g20, e3, e4, b0, _⟩ := mk_red (P := rn (p' * 10 ^ places) w') (W := 10 ^ places) hk0 (by rw [hrn, Int.natAbs_mul, Int.natAbs_natCast]; split <;> (show 1 * N < _; omega)) (by omega)
  have hrv : rndV p' w' (places : Int) = .num a b := by
    unfold rndV
    rw [Int.natAbs_natCast, if_neg (by omega), if_pos (by omega)]
    exact hm
  have eq1 : (10 ^ places : Int) / b = g2 := by rw [e4]; exact Int.mul_ediv_cancel _ (by omega)
  have eN : a.natAbs * ((10 ^ places : Int) / b).toNat = N := by
    rw [eq1]
    have h9 : (g2 * a).natAbs = g2.natAbs * a.natAbs := Int.natAbs_mul ..
    rw [← e3, hrn, Int.natAbs_mul, Int.natAbs_natCast] at h9
    have h10 : (if 0 ≤ p then (1 : Int) else 0 - 1).natAbs * N = N := by
      split <;> (show 1 * N = N; omega)
    rw [h10] at h9
    rw [show g2.toNat = g2.natAbs by omega, Nat.mul_comm]
    exact h9.symm
  have sneg : a < 0 ↔ p < 0 ∧ 0 < N := by
    rw [hrn] at e3
    by_cases z : 0 ≤ p
    · rw [if_pos z, Int.one_mul] at e3
      constructor
      · intro q
        have := Int.mul_neg_of_pos_of_neg g20 q
        omega
      · intro q; omega
    · rw [if_neg z] at e3
      have e3 : -1 * (N : Int) = g2 * a := e3
      constructor
      · intro q
        have := Int.mul_neg_of_pos_of_neg g20 q
        omega
      · intro q
        by_cases r : a < 0
        · exact r
        · have := Int.mul_nonneg (show 0 ≤ g2 by omega) (show 0 ≤ a by omega)
          omega
  have spos : ¬ (p < 0 ∧ 0 < N) → (0 < a ↔ 0 < N) := fun hn => by
    rw [hrn] at e3
    by_cases z : 0 ≤ p
    · rw [if_pos z, Int.one_mul] at e3
      constructor
      · intro q
        have := Int.mul_pos g20 q
        omega
      · intro q
        by_cases r : 0 < a
        · exact r
        · have := Int.mul_nonneg (show 0 ≤ g2 by omega) (show 0 ≤ -a by omega)
          rw [Int.mul_neg] at this
          omega
    · have n0 : N = 0 := by omega
      rw [n0, if_neg z] at e3
      have e3 : (0 : Int) = g2 * a := e3
      constructor
      · intro q
        have := Int.mul_pos g20 q
        omega
      · intro q; omega
  show shownF (fmOf head fg tail places share signed) (rndF (fmOf head fg tail places share signed) (if share = true then mkNum (p * 100) w else .num p w)) = _
  rw [hv]
  show shownF (fmOf head fg tail places share signed) (rndV p' w' (places : Int)) = _
  rw [hrv]
  show shownP (fmOf head fg tail places share signed) a b = _
  rw [shownP_W (wh := natD (N / 10 ^ places)) (re := fw places (N % 10 ^ places)) (by
    show (padL places (natD (a.natAbs * ((10 ^ places : Int) / b).toNat))).take ((padL places (natD (a.natAbs * ((10 ^ places : Int) / b).toNat))).length - places) = _
    rw [eN]; exact dg_take _ _) (by
    show (padL places (natD (a.natAbs * ((10 ^ places : Int) / b).toNat))).drop ((padL places (natD (a.natAbs * ((10 ^ places : Int) / b).toNat))).length - places) = _
    rw [eN]; exact dg_drop _ _)]
  unfold lawL
  rw [hNN]
  show (if a < 0 then [45] else if signed = true ∧ 0 < a then [43] else ([] : List Nat)) ++ head ++
    (if decide (fg = hashL) = true then partL (if natD (N / 10 ^ places) = [48] ∧ leastOf fg = 0 then [] else List.replicate (leastOf fg - (natD (N / 10 ^ places)).length) 48 ++ natD (N / 10 ^ places)) else (if natD (N / 10 ^ places) = [48] ∧ leastOf fg = 0 then [] else List.replicate (leastOf fg - (natD (N / 10 ^ places)).length) 48 ++ natD (N / 10 ^ places))) ++
    (if 0 < places then 46 :: fw places (N % 10 ^ places) else []) ++ tail = _
  rw [front_ok h2 (natD_ne _)]
  have s1 : (if a < 0 then [45] else if signed = true ∧ 0 < a then [43] else ([] : List Nat)) = (if p < 0 ∧ 0 < N then [45] else if signed = true ∧ 0 < N then [43] else []) := by
    by_cases z : p < 0 ∧ 0 < N
    · rw [if_pos z, if_pos (sneg.mpr z)]
    · rw [if_neg z, if_neg (fun q => z (sneg.mp q))]
      by_cases y : 0 < N
      · by_cases x : signed = true
        · rw [if_pos ⟨x, (spos z).mpr y⟩, if_pos ⟨x, y⟩]
        · rw [if_neg (fun q => x q.1), if_neg (fun q => x q.1)]
      · rw [if_neg (fun q => y ((spos z).mp q.2)), if_neg (fun q => y q.2)]
  have s2 : (if decide (fg = hashL) = true then partL (frontL fg (natD (N / 10 ^ places))) else frontL fg (natD (N / 10 ^ places))) = (if fg = hashL then partL (frontL fg (natD (N / 10 ^ places))) else frontL fg (natD (N / 10 ^ places))) := by
    by_cases z : fg = hashL
    · rw [if_pos z, if_pos (decide_eq_true z)]
    · rw [if_neg z, if_neg (by rw [decide_eq_false z]; decide)]
  have s3 : (if 0 < places then 46 :: fw places (N % 10 ^ places) else []) = (if 0 < places then 46 :: (List.replicate (places - (natD (N % 10 ^ places)).length) 48 ++ natD (N % 10 ^ places)) else []) := by
    by_cases z : 0 < places
    · rw [if_pos z, if_pos z]
      obtain ⟨k, rfl⟩ : ∃ k, places = k + 1 := ⟨places - 1, by omega⟩
      rw [fw_pad k _ (Nat.mod_lt _ (Nat.pow_pos (by decide)))]
    · rw [if_neg z, if_neg z]
  rw [s1, s2, s3]
/-! ### parted figures -/
def grpF : Nat → List Nat → List (List Nat)
  | 0, l => [l]
  | n + 1, l => if l.length ≤ 3 then [l] else grpF n (l.take (l.length - 3)) ++ [l.drop (l.length - 3)]
theorem grpF_ne : ∀ n l, grpF n l ≠ []
  | 0, l => by unfold grpF; simp
  | n + 1, l => by
    unfold grpF
    split <;> simp
theorem jn_snoc : ∀ (gs : List (List Nat)) (g : List Nat), gs ≠ [] → jn (gs ++ [g]) = jn gs ++ 44 :: g
  | [], g, h => absurd rfl h
  | [a], g, _ => rfl
  | a :: b :: r, g, _ => by
    rw [List.cons_append, jn_cons _ (by simp), jn_snoc (b :: r) g (by simp), jn_cons a (by simp)]
    simp
theorem grpF_jn : ∀ n l, jn (grpF n l) = partF n l
  | 0, l => rfl
  | n + 1, l => by
    unfold grpF partF
    split
    · rfl
    · rw [jn_snoc _ _ (grpF_ne _ _), grpF_jn n]
theorem grpF_at : ∀ (n : Nat) (l : List Nat), l.length ≤ n → ∀ (i : Nat) (p : List Nat), (grpF n l)[i]? = some p → p.length ≤ 3 ∧ (0 < i → 3 ≤ p.length) ∧ ∀ c ∈ p, c ∈ l
  | 0, l, h, i, p, e => by
    unfold grpF at e
    cases i with
    | zero => cases e; exact ⟨by omega, fun z => by omega, fun c hc => hc⟩
    | succ i => simp at e
  | n + 1, l, h, i, p, e => by
    unfold grpF at e
    by_cases c : l.length ≤ 3
    · rw [if_pos c] at e
      cases i with
      | zero => cases e; exact ⟨c, fun z => by omega, fun c hc => hc⟩
      | succ i => simp at e
    · rw [if_neg c] at e
      have hl : (l.take (l.length - 3)).length ≤ n := by rw [List.length_take]; omega
      rcases List.getElem?_append .. |>.symm.trans e |> fun e' => e' with e'
      by_cases hi : i < (grpF n (l.take (l.length - 3))).length
      · rw [List.getElem?_append_left hi] at e
        obtain ⟨a, b, d⟩ := grpF_at n _ hl i p e
        exact ⟨a, b, fun c hc => List.mem_of_mem_take (d c hc)⟩
      · rw [List.getElem?_append_right (by omega)] at e
        have : i - (grpF n (l.take (l.length - 3))).length = 0 := by
          cases q : i - (grpF n (l.take (l.length - 3))).length with
          | zero => rfl
          | succ j => rw [q] at e; simp at e
        rw [this] at e
        cases e
        exact ⟨by rw [List.length_drop]; omega, fun _ => by rw [List.length_drop]; omega, fun c hc => List.mem_of_mem_drop hc⟩
theorem partF_filter : ∀ (n : Nat) (l : List Nat), 44 ∉ l → (partF n l).filter (· != 44) = l := by
  have self : ∀ l : List Nat, 44 ∉ l → l.filter (· != 44) = l := fun l h => by
    rw [List.filter_eq_self]
    intro c hc
    have : c ≠ 44 := fun z => h (z ▸ hc)
    simpa using this
  intro n
  induction n with
  | zero => intro l h; exact self l h
  | succ n ih =>
    intro l h
    unfold partF
    split
    · exact self l h
    · rw [List.filter_append, ih _ (fun z => h (List.mem_of_mem_take z)), List.filter_cons]
      rw [if_neg (by decide), self _ (fun z => h (List.mem_of_mem_drop z)), List.take_append_drop]
theorem strike_ok {l : List Nat} (h : 44 ∉ l) : Txt.replace ⟨(partL l).toArray⟩ ("," : Str) ("" : Str) = ⟨l.toArray⟩ := by
  refine str_ext ?_
  have := PyProof.Rows.replace_strikes (⟨(partL l).toArray⟩ : Str) 44
  rw [show ((⟨#[44]⟩ : Str)) = (("," : Str)) by decide +kernel, show ((⟨#[]⟩ : Str)) = (("" : Str)) by decide +kernel] at this
  rw [this]
  exact partF_filter _ _ h
theorem split_ok {l : List Nat} (h : 44 ∉ l) : Txt.split ⟨(partL l).toArray⟩ ("," : Str) = (grpF l.length l).map SX.S := by
  have e := SX.split_S (a := partL l) (b := [44]) (by simp) (by decide)
  have e2 : TL.spl [44] 0 [] (partL l) = grpF l.length l := by
    have : partL l = jn (grpF l.length l) := (grpF_jn _ _).symm
    rw [this]
    refine SX.spl_join (grpF_ne _ _) fun p hp hc => ?_
    obtain ⟨i, hi⟩ := List.getElem?_of_mem hp
    exact h ((grpF_at _ _ (Nat.le_refl _) i p hi).2.2 44 hc)
  rw [e2] at e
  exact e
end K08

set_option Elab.async false
set_option linter.all false
set_option maxRecDepth 100000
set_option maxHeartbeats 4000000
namespace K08
open PySem PySem.Spec PyProof.Rows L2 G
def Inv (kq q : Addr) (S : DS) : Prop := S kq = some (.lst [.ref q]) ∧ ∃ a b d : Int, S q = some (.lst [.int a, .int b, .int d])
theorem Inv.new {kq q l : Addr} {S : DS} {o : O} (h : Inv kq q S) (hl : S l = none) : Inv kq q (put S l o) := by
  obtain ⟨h1, a, b, d, h2⟩ := h
  exact ⟨keep_put h1 hl, a, b, d, keep_put h2 hl⟩
theorem Inv.ne {kq q : Addr} {S : DS} (h : Inv kq q S) : kq ≠ q := by
  obtain ⟨h1, a, b, d, h2⟩ := h
  intro e
  rw [e, h2] at h1
  cases h1
theorem Inv.dice {kq q : Addr} {S : DS} (h : Inv kq q S) (a b d : Int) : Inv kq q (put S q (.lst [.int a, .int b, .int d])) :=
  ⟨(put_ne h.ne).trans h.1, a, b, d, put_same⟩
def End (D : EndsD) (kq q : Addr) : Prop := ∀ r S, r.length = 17 → r[1]? = some (some (.ref q)) → Inv kq q S → D.nx r S
theorem bl_str {signed : Bool} {x y : List Nat} : (if signed = true then D.str ⟨x.toArray⟩ else D.str ⟨y.toArray⟩) = .str ⟨(if signed = true then x else y).toArray⟩ := by cases signed <;> rfl
theorem dIf_bl {b : Bool} {i : Nat} {r : Env_} {x y : D} {S : DS} {Q : QD} {E : XD} (h : r[i]? = some (some (.bl b))) (k : Q (if b = true then x else y) S) : dIf (dTru (dVar i)) (dC x) (dC y) r S Q E := by
  cases b <;> exact ⟨_, h, k⟩
theorem hash_dec (fg : List Nat) : decide ((⟨fg.toArray⟩ : Str) = ("#,##0" : Str)) = decide (fg = hashL) := by
  have : (("#,##0" : Str)) = ⟨hashL.toArray⟩ := rfl
  rw [this, Bool.eq_iff_iff, decide_eq_true_iff, decide_eq_true_iff, mk_inj]
theorem tup_ok {h t : Str} (hh : PyData.strOk h = true) (ht : PyData.strOk t = true) (a c d : Bool) (b : Int) : okD 60 (.tup [.str h, .bl a, .int b, .str t, .bl c, .bl d]) = true := by
  simp [okD, okDs, hh, ht]
theorem heads_ok {h : List Nat} (m : h ∈ heads3) : PyData.strOk ⟨h.toArray⟩ = true ∧ h.length ≤ 10 := by
  have m : h = [] ∨ h = [36] ∨ h = [69, 85, 82, 32] := by simpa [heads3] using m
  rcases m with rfl | rfl | rfl <;> decide +kernel
theorem tails_ok {h : List Nat} (m : h ∈ tails3) : PyData.strOk ⟨h.toArray⟩ = true ∧ h.length ≤ 10 := by
  have m : h = [] ∨ h = [32, 107, 103] ∨ h = [45] := by simpa [tails3] using m
  rcases m with rfl | rfl | rfl <;> decide +kernel
theorem figs_ok {h : List Nat} (m : h ∈ figs4) : h.length ≤ 10 ∧ leastOf h ≤ 10 := by
  have m : h = [35] ∨ h = [48] ∨ h = [48, 48, 48] ∨ h = hashL := by simpa [figs4] using m
  rcases m with rfl | rfl | rfl | rfl <;> decide

theorem L6 {Z : Zt} {D0 : EndsD} {S : DS} {kq q : Addr} (hD : End D0 kq q) (hI : Inv kq q S) {u0 u2 u3 u4 u11 u14 u15 u16 : Option D} {fa : Addr} {v : Va} {P W : Int} {head fg tail : List Nat} {places : Nat} {share signed : Bool} (h1 : head ∈ heads3) (h2 : fg ∈ figs4) (h3 : tail ∈ tails3) (h4 : places < 5) (hfa : S fa = some (.ins 0 (fF (fmOf head fg tail places share signed)))) (hv : v = mkNum P W) (hP : P.natAbs ≤ 10 ^ 10) (hW : 0 < W) (hW2 : W ≤ 1000) :
    t_law_0_0_6 Z D0 [u0, some (.ref q), u2, u3, u4, some (.str ⟨fg.toArray⟩), some (.int (places : Int)), some (.str ⟨head.toArray⟩), some (.str ⟨tail.toArray⟩), some (.bl share), some (.bl signed), u11, some (.ref fa), some (vD v), u14, u15, u16] S := by
  obtain ⟨p, w, g, e1, g0, e2, e3, w0, _⟩ := mk_red hW (show P.natAbs < 10 ^ 30 by omega) (show W < 10 ^ 30 by omega)
  have sz := mkNum_sz P W
  rw [e1] at hv sz
  subst hv
  have hp : p.natAbs ≤ 10 ^ 10 := by
    have e : (g * p).natAbs = g.natAbs * p.natAbs := Int.natAbs_mul ..
    rw [← e2] at e
    have e3 : 1 * p.natAbs ≤ g.natAbs * p.natAbs := Nat.mul_le_mul_right _ (by omega)
    omega
  have hw : w ≤ 1000 := by
    have e4 : 1 * w ≤ g * w := Int.mul_le_mul_of_nonneg_right (by omega) (by omega)
    omega
  have l1 := (heads_ok h1).2
  have l2 := (tails_ok h3).2
  have l3 := figs_ok h2
  refine ⟨_, rfl, _, _, _, _, _, rfl, hfa, rfl, rfl, ⟨by decide, by decide, by decide, rfl⟩, rfl, _, rfl, fa, fmOf head fg tail places share signed, .num p w, rfl, hfa, sz, fun s z => (nomatch z), ?_, l3.2, ?_, ?_⟩
  · show head.length + tail.length ≤ 600
    omega
  · show places ≤ 10
    omega
  refine ⟨_, rfl, ⟨by decide, by decide, by decide, rfl⟩, _, rfl, _, rfl, _, rfl, _, rfl, _, rfl, _, rfl, _, rfl, p, w, head, fg, tail, places, share, signed, rfl, sz, by omega, l3.1, by omega, ?_⟩
  exact ite_eq (by rw [shown_ok h2 h4 hp w0 hw]) (hD _ _ rfl rfl hI)

theorem L5 {Z : Zt} {D0 : EndsD} {S : DS} {kq q : Addr} (hD : End D0 kq q) (hI : Inv kq q S) {u0 u2 u3 u4 u11 u13 u14 u15 u16 : Option D} {fa : Addr} {head fg tail : List Nat} {places : Nat} {share signed : Bool} (h1 : head ∈ heads3) (h2 : fg ∈ figs4) (h3 : tail ∈ tails3) (h4 : places < 5) (hfa : S fa = some (.ins 0 (fF (fmOf head fg tail places share signed)))) :
    t_law_0_0_5 Z D0 [u0, some (.ref q), u2, u3, u4, some (.str ⟨fg.toArray⟩), some (.int (places : Int)), some (.str ⟨head.toArray⟩), some (.str ⟨tail.toArray⟩), some (.bl share), some (.bl signed), u11, some (.ref fa), u13, u14, u15, u16] S := by
  have hfq : ∀ {S : DS} {l : Addr} {o : O}, S fa = some (.ins 0 (fF (fmOf head fg tail places share signed))) → (∃ a b d : Int, S q = some (.lst [.int a, .int b, .int d])) → put S q o fa = some (.ins 0 (fF (fmOf head fg tail places share signed))) := fun {S l o} z ⟨a, b, d, z2⟩ => by
    rw [put_ne]
    · exact z
    · intro e
      rw [e, z2] at z
      cases z
  have hI' := hI
  obtain ⟨hk, a, b, d, hq⟩ := hI
  refine ⟨_, rfl, ⟨by decide, by decide, by decide, rfl⟩, _, rfl, ⟨by decide, by decide, by decide, rfl⟩, _, rfl, ⟨by decide, by decide, by decide⟩, ⟨by decide, by decide, by decide⟩, by show 4 ≤ sizeLine; decide, fun l hl => ?_⟩
  have nq : l ≠ q := by intro z; subst z; rw [hq] at hl; cases hl
  refine ⟨_, rfl, ⟨by decide, by decide, by decide, rfl⟩, _, rfl, q, 4, a, b, d, rfl, by decide, by decide, keep_put hq hl, fun v a b d v0 v9 => ?_⟩
  have lk : put (put S l (.lst [.int 10, .int 1000, .int (10 ^ 7), .int (10 ^ 9)])) q (.lst [.int a, .int b, .int d]) l = some (.lst [.int 10, .int 1000, .int (10 ^ 7), .int (10 ^ 9)]) := by rw [put_ne nq]; exact put_same
  obtain ⟨m, hat, hm0, hm1⟩ : ∃ m : Int, atI [D.int 10, .int 1000, .int (10 ^ 7), .int (10 ^ 9)] v = some (.int m) ∧ 0 < m ∧ m ≤ 1000000000 := by
    obtain rfl | rfl | rfl | rfl : v = 0 ∨ v = 1 ∨ v = 2 ∨ v = 3 := by omega
    · exact ⟨_, rfl, by decide, by decide⟩
    · exact ⟨_, rfl, by decide, by decide⟩
    · exact ⟨_, rfl, by decide, by decide⟩
    · exact ⟨_, rfl, by decide, by decide⟩
  have hI1 := (hI'.new (o := .lst [.int 10, .int 1000, .int (10 ^ 7), .int (10 ^ 9)]) hl).dice a b d
  have hf1 := hfq (l := l) (o := .lst [.int a, .int b, .int d]) (keep_put (u := .lst [.int 10, .int 1000, .int (10 ^ 7), .int (10 ^ 9)]) hfa hl) ⟨_, _, _, keep_put hq hl⟩
  refine ⟨_, _, lk, hat, q, m, a, b, d, rfl, hm0, hm1, put_same, fun v1 a1 b1 d1 x0 x1 => ?_⟩
  have hI2 := hI1.dice a1 b1 d1
  have hf2 := hfq (l := l) (o := .lst [.int a1, .int b1, .int d1]) hf1 ⟨_, _, _, put_same⟩
  refine ⟨_, rfl, ⟨by decide, by decide, by decide, rfl⟩, _, rfl, q, 3, a1, b1, d1, rfl, by decide, by decide, put_same, fun v2 a2 b2 d2 y0 y1 => ?_⟩
  have hI3 := hI2.dice a2 b2 d2
  have hf3 := hfq (l := l) (o := .lst [.int a2, .int b2, .int d2]) hf2 ⟨_, _, _, put_same⟩
  refine ⟨mulR (by decide), by show 5 ≤ sizeLine; decide, fun l2 hl2 => ?_⟩
  have hI4 := hI3.new (o := .lst [.int 1, .int 3, .int 8, .int 1000, .int 7]) hl2
  have hf4 := keep_put (u := .lst [.int 1, .int 3, .int 8, .int 1000, .int 7]) hf3 hl2
  have nq2 : l2 ≠ q := by intro z; subst z; rw [put_same] at hl2; cases hl2
  refine ⟨_, rfl, ⟨by decide, by decide, by decide, rfl⟩, _, rfl, q, 5, a2, b2, d2, rfl, by decide, by decide, keep_put put_same hl2, fun v3 a3 b3 d3 z0 z1 => ?_⟩
  have hI5 := hI4.dice a3 b3 d3
  have hf5 := hfq (l := l) (o := .lst [.int a3, .int b3, .int d3]) hf4 ⟨_, _, _, keep_put put_same hl2⟩
  obtain ⟨W, hat2, hW0, hW1⟩ : ∃ W : Int, atI [D.int 1, .int 3, .int 8, .int 1000, .int 7] v3 = some (.int W) ∧ 0 < W ∧ W ≤ 1000 := by
    obtain rfl | rfl | rfl | rfl | rfl : v3 = 0 ∨ v3 = 1 ∨ v3 = 2 ∨ v3 = 3 ∨ v3 = 4 := by omega
    · exact ⟨_, rfl, by decide, by decide⟩
    · exact ⟨_, rfl, by decide, by decide⟩
    · exact ⟨_, rfl, by decide, by decide⟩
    · exact ⟨_, rfl, by decide, by decide⟩
    · exact ⟨_, rfl, by decide, by decide⟩
  refine ⟨_, _, (by rw [put_ne nq2]; exact put_same), hat2, v1 - v2 * 500, W, rfl, ⟨sz200 (by omega), sz200 (by omega), fun h => by omega⟩, ?_⟩
  exact L6 hD hI5 h1 h2 h3 h4 hf5 rfl (by omega) hW0 hW1

theorem L3 {Z : Zt} {D0 : EndsD} {S : DS} {kq q : Addr} (hD : End D0 kq q) (hI : Inv kq q S) {u0 u2 u3 u4 u12 u13 u14 u15 u16 : Option D} {head fg tail : List Nat} {places : Nat} {share signed : Bool} (h1 : head ∈ heads3) (h2 : fg ∈ figs4) (h3 : tail ∈ tails3) (h4 : places < 5) :
    t_law_0_0_3 Z D0 [u0, some (.ref q), u2, u3, u4, some (.str ⟨fg.toArray⟩), some (.int (places : Int)), some (.str ⟨head.toArray⟩), some (.str ⟨tail.toArray⟩), some (.bl share), some (.bl signed), some (.str ⟨(patL head fg tail places share signed).toArray⟩), u12, u13, u14, u15, u16] S := by
  have l1 := (heads_ok h1).2
  have l2 := (tails_ok h3).2
  have l3 := (figs_ok h2).1
  have e := pat_ok (share := share) (signed := signed) h1 h2 h3 h4
  refine ⟨_, rfl, ⟨by decide, by decide, by decide, rfl⟩, _, rfl, patL head fg tail places share signed, rfl, ?_, fun z => absurd (e.symm.trans z) (fun z => nomatch z), fun m hm fa hfa => ?_⟩
  · unfold patL
    simp only [List.length_append]
    have a1 : (if signed = true then [43] else ([] : List Nat)).length ≤ 1 := by cases signed <;> decide
    have a2 : (if share = true then [120, 49, 48, 48] else ([] : List Nat)).length ≤ 4 := by cases share <;> decide
    have a3 : (if 0 < places then 46 :: List.replicate places 48 else ([] : List Nat)).length ≤ 6 := by
      split
      · rw [List.length_cons, List.length_replicate]; omega
      · simp
    omega
  rw [e] at hm
  cases hm
  have hq := hI
  have hI2 := hI.new (o := .ins 0 (fF (fmOf head fg tail places share signed))) hfa
  have hf : put S fa (.ins 0 (fF (fmOf head fg tail places share signed))) fa = some (.ins 0 (fF (fmOf head fg tail places share signed))) := put_same
  generalize put S fa (.ins 0 (fF (fmOf head fg tail places share signed))) = S2 at *
  have s6 : 6 ≤ sizeLine := by decide
  refine ⟨_, rfl, _, _, _, _, rfl, hf, rfl, rfl, _, rfl, _, _, _, _, rfl, hf, rfl, rfl, _, rfl, _, _, _, _, rfl, hf, rfl, rfl, _, rfl, _, _, _, _, rfl, hf, rfl, rfl, _, rfl, _, _, _, _, rfl, hf, rfl, rfl, _, rfl, _, _, _, _, rfl, hf, rfl, rfl, s6, ?_⟩
  refine ⟨_, rfl, _, rfl, _, rfl, _, rfl, _, rfl, _, rfl, s6, ?_⟩
  rw [hash_dec]
  have ok := tup_ok (heads_ok h1).1 (tails_ok h3).1 (decide (fg = hashL)) share signed (places : Int)
  refine ⟨ok, ok, ?_⟩
  exact ite_no (deq_refl 60 _ ok) (L5 hD hI2 h1 h2 h3 h4 hf)

theorem L2_ {Z : Zt} {D0 : EndsD} {S : DS} {kq q : Addr} (hD : End D0 kq q) (hI : Inv kq q S) {u0 u2 u3 u4 u11 u12 u13 u14 u15 u16 : Option D} {head fg tail : List Nat} {places : Nat} {share signed : Bool} (h1 : head ∈ heads3) (h2 : fg ∈ figs4) (h3 : tail ∈ tails3) (h4 : places < 5) :
    t_law_0_0_2 Z D0 [u0, some (.ref q), u2, u3, u4, some (.str ⟨fg.toArray⟩), some (.int (places : Int)), some (.str ⟨head.toArray⟩), some (.str ⟨tail.toArray⟩), some (.bl share), some (.bl signed), u11, u12, u13, u14, u15, u16] S := by
  have l1 := (heads_ok h1).2
  have l2 := (tails_ok h3).2
  have l3 := (figs_ok h2).1
  have h := L3 (Z := Z) hD hI (u0 := u0) (u2 := u2) (u3 := u3) (u4 := u4) (u12 := u12) (u13 := u13) (u14 := u14) (u15 := u15) (u16 := u16) (share := share) (signed := signed) h1 h2 h3 h4
  unfold patL at h
  have a1 : (if signed = true then [43] else ([] : List Nat)).length ≤ 1 := by cases signed <;> decide
  have a2 : (if share = true then [120, 49, 48, 48] else ([] : List Nat)).length ≤ 4 := by cases share <;> decide
  have ex : (("x100" : Str)) = ⟨[120, 49, 48, 48].toArray⟩ := rfl
  have ep : (("+" : Str)) = ⟨[43].toArray⟩ := rfl
  have ee : (("" : Str)) = ⟨([] : List Nat).toArray⟩ := rfl
  have ed : (("." : Str)) = ⟨[46].toArray⟩ := rfl
  dsimp only [t_law_0_0_2, dSeq, dAsg, dOp]
  refine dIf_bl rfl ?_
  rw [ep, ee, bl_str]
  refine ⟨_, rfl, sh2 (by omega), ?_⟩
  rw [cat_mk]
  refine ⟨_, rfl, sh2 (by simp only [List.length_append]; omega), ?_⟩
  rw [cat_mk]
  have fin1 : ∀ x : List Nat, x.length ≤ 50 → t_law_0_0_3 Z D0 [u0, some (.ref q), u2, u3, u4, some (.str ⟨fg.toArray⟩), some (.int (places : Int)), some (.str ⟨head.toArray⟩), some (.str ⟨tail.toArray⟩), some (.bl share), some (.bl signed), some (.str ⟨(x ++ tail ++ (if share = true then [120, 49, 48, 48] else ([] : List Nat))).toArray⟩), u12, u13, u14, u15, u16] S → (fun (x : D) (S1 : DS) => dVar 8 [u0, some (.ref q), u2, u3, u4, some (.str ⟨fg.toArray⟩), some (.int (places : Int)), some (.str ⟨head.toArray⟩), some (.str ⟨tail.toArray⟩), some (.bl share), some (.bl signed), u11, u12, u13, u14, u15, u16] S1 (fun y S2 => opAdd x y S2 fun x S1 => dIf (dTru (dVar 9)) (dC (.str "x100")) (dC (.str "")) [u0, some (.ref q), u2, u3, u4, some (.str ⟨fg.toArray⟩), some (.int (places : Int)), some (.str ⟨head.toArray⟩), some (.str ⟨tail.toArray⟩), some (.bl share), some (.bl signed), u11, u12, u13, u14, u15, u16] S1 (fun y S2 => opAdd x y S2 fun d S1 => gN 11 d [u0, some (.ref q), u2, u3, u4, some (.str ⟨fg.toArray⟩), some (.int (places : Int)), some (.str ⟨head.toArray⟩), some (.str ⟨tail.toArray⟩), some (.bl share), some (.bl signed), u11, u12, u13, u14, u15, u16] S1 (t_law_0_0_3 Z D0) fun c S2 => D0.ex c [u0, some (.ref q), u2, u3, u4, some (.str ⟨fg.toArray⟩), some (.int (places : Int)), some (.str ⟨head.toArray⟩), some (.str ⟨tail.toArray⟩), some (.bl share), some (.bl signed), u11, u12, u13, u14, u15, u16] S2) fun c S1 => D0.ex c [u0, some (.ref q), u2, u3, u4, some (.str ⟨fg.toArray⟩), some (.int (places : Int)), some (.str ⟨head.toArray⟩), some (.str ⟨tail.toArray⟩), some (.bl share), some (.bl signed), u11, u12, u13, u14, u15, u16] S1) fun c S1 => D0.ex c [u0, some (.ref q), u2, u3, u4, some (.str ⟨fg.toArray⟩), some (.int (places : Int)), some (.str ⟨head.toArray⟩), some (.str ⟨tail.toArray⟩), some (.bl share), some (.bl signed), u11, u12, u13, u14, u15, u16] S1) (.str ⟨x.toArray⟩) S := fun x hx h => by
    refine ⟨_, rfl, sh2 (by omega), ?_⟩
    rw [cat_mk]
    refine dIf_bl rfl ?_
    rw [ex, ee, bl_str]
    refine ⟨sh2 (by simp only [List.length_append]; omega), ?_⟩
    rw [cat_mk]
    exact h
  refine ⟨_, rfl, ?_⟩
  refine itd (fun c => ?_) (fun c => ?_)
  · have c' : 0 < places := by omega
    rw [if_pos c'] at h
    refine ⟨_, rfl, rep_ok (by omega), ?_⟩
    rw [rep_self, ed]
    refine ⟨sh2 (by simp; omega), ?_⟩
    rw [cat_mk]
    refine ⟨sh2 (by simp only [List.length_append, List.length_replicate, List.length_singleton]; omega), ?_⟩
    rw [cat_mk]
    exact fin1 _ (by simp only [List.length_append, List.length_replicate, List.length_singleton]; omega) h
  · have c' : ¬ 0 < places := by omega
    rw [if_neg c'] at h
    refine ⟨sh2 (m := []) (by simp only [List.length_append, List.length_nil]; omega), ?_⟩
    rw [cat_mk]
    exact fin1 _ (by simp only [List.length_append, List.length_nil]; omega) h

theorem L1 {Z : Zt} {D0 : EndsD} {S : DS} {kq q : Addr} (hD : End D0 kq q) (hI : Inv kq q S) {u0 u2 u3 u4 u7 u8 u9 u10 u11 u12 u13 u14 u15 u16 : Option D} {fg : List Nat} {places : Nat} (h2 : fg ∈ figs4) (h4 : places < 5) :
    t_law_0_0_1 Z D0 [u0, some (.ref q), u2, u3, u4, some (.str ⟨fg.toArray⟩), some (.int (places : Int)), u7, u8, u9, u10, u11, u12, u13, u14, u15, u16] S := by
  have hI' := hI
  obtain ⟨hk, a, b, d, hq⟩ := hI
  refine ⟨by show 3 ≤ sizeLine; decide, fun l hl => ?_⟩
  have nq : l ≠ q := by intro z; subst z; rw [hq] at hl; cases hl
  refine ⟨_, rfl, ⟨by decide, by decide, by decide, rfl⟩, _, rfl, q, 3, a, b, d, rfl, by decide, by decide, keep_put hq hl, fun v a b d v0 v9 => ?_⟩
  obtain ⟨head, hat, h1⟩ : ∃ head : List Nat, atI [D.str "", .str "$", .str "EUR "] v = some (.str ⟨head.toArray⟩) ∧ head ∈ heads3 := by
    obtain rfl | rfl | rfl : v = 0 ∨ v = 1 ∨ v = 2 := by omega
    · exact ⟨[], rfl, by simp [heads3]⟩
    · exact ⟨[36], rfl, by simp [heads3]⟩
    · exact ⟨[69, 85, 82, 32], rfl, by simp [heads3]⟩
  have hI1 := (hI'.new (o := .lst [.str "", .str "$", .str "EUR "]) hl).dice a b d
  refine ⟨_, _, (by rw [put_ne nq]; exact put_same), hat, by show 3 ≤ sizeLine; decide, fun l2 hl2 => ?_⟩
  have nq2 : l2 ≠ q := by intro z; subst z; rw [put_same] at hl2; cases hl2
  refine ⟨_, rfl, ⟨by decide, by decide, by decide, rfl⟩, _, rfl, q, 3, a, b, d, rfl, by decide, by decide, keep_put put_same hl2, fun v2 a b d w0 w9 => ?_⟩
  obtain ⟨tail, hat2, h3⟩ : ∃ tail : List Nat, atI [D.str "", .str " kg", .str "-"] v2 = some (.str ⟨tail.toArray⟩) ∧ tail ∈ tails3 := by
    obtain rfl | rfl | rfl : v2 = 0 ∨ v2 = 1 ∨ v2 = 2 := by omega
    · exact ⟨[], rfl, by simp [tails3]⟩
    · exact ⟨[32, 107, 103], rfl, by simp [tails3]⟩
    · exact ⟨[45], rfl, by simp [tails3]⟩
  have hI2 := (hI1.new (o := .lst [.str "", .str " kg", .str "-"]) hl2).dice a b d
  refine ⟨_, _, (by rw [put_ne nq2]; exact put_same), hat2, ?_⟩
  refine ⟨_, rfl, ⟨by decide, by decide, by decide, rfl⟩, _, rfl, q, 3, a, b, d, rfl, by decide, by decide, put_same, fun v3 a b d x0 x9 => ?_⟩
  refine ⟨_, rfl, ⟨by decide, by decide, by decide, rfl⟩, _, rfl, q, 2, _, _, _, rfl, by decide, by decide, put_same, fun v4 a b d y0 y9 => ?_⟩
  refine ⟨by show 4 ≤ sizeLine; decide, rfl, rfl, ?_⟩
  exact L2_ hD ((hI2.dice _ _ _).dice _ _ _) h1 h2 h3 h4

theorem L0 {Z : Zt} {D0 : EndsD} {S : DS} {kq q : Addr} (hD : End D0 kq q) (hI : Inv kq q S) {u0 u2 u3 u4 u5 u6 u7 u8 u9 u10 u11 u12 u13 u14 u15 u16 : Option D}  :
    t_law_0_0_0 Z D0 [u0, some (.ref q), u2, u3, u4, u5, u6, u7, u8, u9, u10, u11, u12, u13, u14, u15, u16] S := by
  have hI' := hI
  obtain ⟨hk, a, b, d, hq⟩ := hI
  refine ⟨by show 4 ≤ sizeLine; decide, fun l hl => ?_⟩
  have nq : l ≠ q := by intro z; subst z; rw [hq] at hl; cases hl
  refine ⟨_, rfl, ⟨by decide, by decide, by decide, rfl⟩, _, rfl, q, 4, a, b, d, rfl, by decide, by decide, keep_put hq hl, fun v a b d v0 v9 => ?_⟩
  obtain ⟨fg, hat, h2⟩ : ∃ fg : List Nat, atI [D.str "#", .str "0", .str "000", .str "#,##0"] v = some (.str ⟨fg.toArray⟩) ∧ fg ∈ figs4 := by
    obtain rfl | rfl | rfl | rfl : v = 0 ∨ v = 1 ∨ v = 2 ∨ v = 3 := by omega
    · exact ⟨[35], rfl, by simp [figs4]⟩
    · exact ⟨[48], rfl, by simp [figs4]⟩
    · exact ⟨[48, 48, 48], rfl, by simp [figs4]⟩
    · exact ⟨hashL, rfl, by simp [figs4]⟩
  have hI1 := (hI'.new (o := .lst [.str "#", .str "0", .str "000", .str "#,##0"]) hl).dice a b d
  refine ⟨_, _, (by rw [put_ne nq]; exact put_same), hat, ?_⟩
  refine ⟨_, rfl, ⟨by decide, by decide, by decide, rfl⟩, _, rfl, q, 5, a, b, d, rfl, by decide, by decide, put_same, fun v2 a b d w0 w9 => ?_⟩
  have e : v2 = ((v2.toNat : Nat) : Int) := by omega
  rw [e]
  exact L1 hD (hI1.dice _ _ _) h2 (by omega)

theorem L02 {Z : Zt} {D0 : EndsD} {S : DS} {kq q : Addr} (hD : End D0 kq q) (hI : Inv kq q S) {u0 u2 u3 u4 u6 u7 u8 u9 u10 u11 u12 u13 u14 u15 u16 : Option D} {n : Nat} (hn : n < 10 ^ 9) :
    t_law_0_2 Z D0 [u0, some (.ref q), u2, u3, u4, some (.str ⟨(natD n).toArray⟩), u6, u7, u8, u9, u10, u11, u12, u13, u14, u15, u16] S := by
  have hl := natD_len 8 n hn
  have h44 : 44 ∉ natD n := fun z => by
    have := natD_digits n 44 z
    omega
  have hpl := partL_len (natD n)
  have h9 : (partL (natD n)).length ≤ 18 := by omega
  refine ⟨_, rfl, ⟨by decide, by decide, by decide, rfl⟩, _, rfl, natD n, rfl, by omega, ?_⟩
  refine ⟨by rw [len_mk]; show _ + (_ + 1) * 0 ≤ _; omega, _, rfl, ?_⟩
  refine ite_eq (strike_ok h44) ?_
  refine ⟨_, rfl, ⟨by decide, by decide, by decide, rfl⟩, _, rfl, natD n, rfl, by omega, ⟨_, rfl⟩, by decide, by rw [len_mk, sizeLine_eq]; omega, fun l hl' => ?_⟩
  rw [split_ok h44]
  have hgl : (grpF (natD n).length (natD n)).length ≤ 100000 := by
    have : ∀ (k : Nat) (l : List Nat), (grpF k l).length ≤ k + 1 := fun k => by
      induction k with
      | zero => intro l; exact Nat.le_refl _
      | succ k ih =>
        intro l
        unfold grpF
        split
        · simp
        · rw [List.length_append, List.length_singleton]
          have := ih (l.take (l.length - 3))
          omega
    have := this (natD n).length (natD n)
    omega
  refine ⟨_, put_same, by rw [numD_len, List.length_map, List.length_map, sizeLine_eq]; omega, fun i acc S' => acc = [] ∧ S' = put S l (.lst (((grpF (natD n).length (natD n)).map SX.S).map D.str)), ⟨rfl, rfl⟩, ?_, ?_, ?_⟩
  · rintro i acc S' ⟨rfl, rfl⟩
    exact put_same
  · rintro i d acc S' h ⟨rfl, rfl⟩
    obtain ⟨e, he, rfl⟩ := numD_at h
    rw [List.map_map, List.getElem?_map] at he
    cases hp : (grpF (natD n).length (natD n))[i]? with
    | none => rw [hp] at he; cases he
    | some p =>
      rw [hp] at he
      cases he
      obtain ⟨g1, g2, _⟩ := grpF_at _ _ (Nat.le_refl _) i p hp
      refine ⟨rfl, rfl, ?_⟩
      refine ⟨_, rfl, sh (by omega), ?_⟩
      rw [len_mk]
      refine itd (fun c => absurd c (by omega)) (fun _ => ?_)
      refine ⟨_, rfl, ?_⟩
      refine itd (fun c => ?_) (fun _ => ?_)
      · refine ⟨_, rfl, sh (by omega), ?_⟩
        rw [len_mk]
        refine itd (fun c2 => absurd (g2 (by omega)) (by omega)) (fun _ => ?_)
        exact ⟨_, Sub.refl _, rfl, rfl⟩
      · exact ⟨_, Sub.refl _, rfl, rfl⟩
  · rintro acc S' g ⟨rfl, rfl⟩ hg
    refine ⟨by show 0 ≤ sizeLine; decide, fun g2 hg2 => ⟨_, _, keep_put put_same hg2, put_same, rfl, rfl, ?_⟩⟩
    exact hD _ _ rfl rfl (((hI.new hl').new hg).new hg2)

theorem L01 {Z : Zt} {D0 : EndsD} {S : DS} {kq q : Addr} (hD : End D0 kq q) (hI : Inv kq q S) {u0 u2 u3 u4 u5 u6 u7 u8 u9 u10 u11 u12 u13 u14 u15 u16 : Option D}  :
    t_law_0_1 Z D0 [u0, some (.ref q), u2, u3, u4, u5, u6, u7, u8, u9, u10, u11, u12, u13, u14, u15, u16] S := by
  have hI' := hI
  obtain ⟨hk, a, b, d, hq⟩ := hI
  refine ⟨_, rfl, ⟨by decide, by decide, by decide, rfl⟩, _, rfl, ⟨by decide, by decide, by decide⟩, q, 10 ^ 9, a, b, d, rfl, by decide, by decide, hq, fun v a b d v0 v9 => ?_⟩
  have e : v = ((v.toNat : Nat) : Int) := by omega
  refine ⟨?_, ?_⟩
  · exact Nat.lt_trans (log2_of_lt (k := 40) (by omega) (by decide)) (by decide)
  rw [e]
  have e2 : (Str.ofString (toString ((v.toNat : Nat) : Int))) = ⟨(natD v.toNat).toArray⟩ := toString_nat' _
  rw [e2]
  exact L02 hD (hI'.dice _ _ _) (by omega)

theorem L00 {Z : Zt} {D0 : EndsD} {S : DS} {kq q : Addr} (hD : End D0 kq q) (hI : Inv kq q S) {u0 u2 u3 u4 u5 u6 u7 u8 u9 u10 u11 u12 u13 u14 u15 u16 : Option D}  :
    t_law_0_0 Z D0 [u0, some (.ref q), u2, u3, u4, u5, u6, u7, u8, u9, u10, u11, u12, u13, u14, u15, u16] S := by
  refine ⟨⟨by decide, by decide⟩, fun i r S' => r.length = 17 ∧ r[1]? = some (some (.ref q)) ∧ Inv kq q S', ⟨rfl, rfl, hI⟩, fun _ _ _ _ => trivial, ?_, ?_⟩
  · rintro i d r S' h ⟨h1, h2, h3⟩
    match r, h1 with
    | [u0, u1, u2, u3, u4, u5, u6, u7, u8, u9, u10, u11, u12, u13, u14, u15, u16], _ =>
      cases h2
      refine L0 (kq := kq) (q := q) ?_ h3
      exact fun r S a b c => ⟨_, Sub.refl _, a, b, c⟩
  · rintro r S' ⟨h1, h2, h3⟩
    match r, h1 with
    | [u0, u1, u2, u3, u4, u5, u6, u7, u8, u9, u10, u11, u12, u13, u14, u15, u16], _ =>
      cases h2
      exact L01 hD h3

theorem T4 {Z : Zt} {Q : QD} {E : XD} {S : DS} (hQ : ∀ S, Q (.bl true) S) {u0 u1 u2 u4 u5 u6 u7 u8 u9 u10 u11 u12 u13 u14 u15 u16 : Option D} {g : Addr} {ds : List D} (hg : S g = some (.lst ds)) (hl : ds.length ≤ 12) (hd : ∀ (i : Nat) (d : D), ds[i]? = some d → ∃ (f : Addr) (j : Nat), d = .ref f ∧ S f = some (.oth (isLam Z j)) ∧ j < 12) :
    t_law_4 Z (fin Q E) [u0, u1, u2, some (.ref g), u4, u5, u6, u7, u8, u9, u10, u11, u12, u13, u14, u15, u16] S := by
  refine ⟨_, rfl, _, hg, by rw [sizeLine_eq]; omega, fun i acc S' => acc = [] ∧ S' = S, ⟨rfl, rfl⟩, ?_, ?_, ?_⟩
  · rintro i acc S' ⟨rfl, rfl⟩
    exact hg
  · rintro i d acc S' h ⟨rfl, rfl⟩
    obtain ⟨f, j, rfl, hf, hj⟩ := hd i d h
    refine ⟨_, rfl, ⟨by show 6 ≤ 6; decide, by show 1 ≤ 1; decide, by show 1 ≤ 1 + 0; decide, rfl⟩, _, rfl, f, j, rfl, hf, hj, ?_⟩
    exact ⟨_, Sub.refl _, rfl, rfl⟩
  · rintro acc S' l ⟨rfl, rfl⟩ hl'
    refine ⟨by show 0 ≤ sizeLine; decide, fun g2 hg2 => ⟨_, _, keep_put put_same hg2, put_same, rfl, rfl, ?_⟩⟩
    have em : fmtOf [48, 120, 49, 48, 48] = some ⟨[], 1, false, 0, [], true, false⟩ := by decide +kernel
    refine ⟨_, rfl, ⟨by decide, by decide, by decide, rfl⟩, [48, 120, 49, 48, 48], congrArg (fun x => [D.str x]) (by decide +kernel), by decide, fun z => absurd (em.symm.trans z) (fun z => nomatch z), fun m hm fa hfa => ?_⟩
    rw [em] at hm
    cases hm
    refine ⟨_, _, _, _, _, rfl, put_same, rfl, rfl, ⟨by decide, by decide, by decide, rfl⟩, rfl, ⟨by decide, by decide, by decide⟩, by show 2 ≤ sizeLine; decide, fa, ⟨[], 1, false, 0, [], true, false⟩, .num (10 ^ 29) 1, rfl, put_same, ⟨by decide, by decide, by decide⟩, fun s z => (nomatch z), by decide, by decide, by decide, ?_⟩
    rw [show fmtT ⟨[], 1, false, 0, [], true, false⟩ (.num (10 ^ 29) 1) = largeL by decide +kernel]
    refine ⟨_, Sub.refl _, ?_⟩
    rw [show decide ((⟨largeL.toArray⟩ : Str) = ("#too large" : Str)) = true by decide +kernel]
    exact hQ _

theorem T3 {Z : Zt} {Q : QD} {E : XD} {S : DS} (hQ : ∀ S, Q (.bl true) S) {u0 u1 u2 u3 u4 u5 u6 u7 u8 u9 u10 u11 u12 u13 u14 u15 u16 : Option D}  :
    t_law_3 Z (fin Q E) [u0, u1, u2, u3, u4, u5, u6, u7, u8, u9, u10, u11, u12, u13, u14, u15, u16] S := by
  refine fun f0 h0 f1 h1 f2 h2 f3 h3 f4 h4 f5 h5 f6 h6 f7 h7 f8 h8 f9 h9 f10 h10 f11 h11 => ?_
  refine ⟨by show 12 ≤ sizeLine; decide, fun g hg => ?_⟩
  refine T4 hQ put_same (Nat.le_refl _) fun i d hd => ?_
  match i, hd with
  | 0, hd => cases hd; exact ⟨f0, 0, rfl, (keep_put (keep_put (keep_put (keep_put (keep_put (keep_put (keep_put (keep_put (keep_put (keep_put (keep_put (keep_put put_same h1) h2) h3) h4) h5) h6) h7) h8) h9) h10) h11) hg), by decide⟩
  | 1, hd => cases hd; exact ⟨f1, 1, rfl, (keep_put (keep_put (keep_put (keep_put (keep_put (keep_put (keep_put (keep_put (keep_put (keep_put (keep_put put_same h2) h3) h4) h5) h6) h7) h8) h9) h10) h11) hg), by decide⟩
  | 2, hd => cases hd; exact ⟨f2, 2, rfl, (keep_put (keep_put (keep_put (keep_put (keep_put (keep_put (keep_put (keep_put (keep_put (keep_put put_same h3) h4) h5) h6) h7) h8) h9) h10) h11) hg), by decide⟩
  | 3, hd => cases hd; exact ⟨f3, 3, rfl, (keep_put (keep_put (keep_put (keep_put (keep_put (keep_put (keep_put (keep_put (keep_put put_same h4) h5) h6) h7) h8) h9) h10) h11) hg), by decide⟩
  | 4, hd => cases hd; exact ⟨f4, 4, rfl, (keep_put (keep_put (keep_put (keep_put (keep_put (keep_put (keep_put (keep_put put_same h5) h6) h7) h8) h9) h10) h11) hg), by decide⟩
  | 5, hd => cases hd; exact ⟨f5, 5, rfl, (keep_put (keep_put (keep_put (keep_put (keep_put (keep_put (keep_put put_same h6) h7) h8) h9) h10) h11) hg), by decide⟩
  | 6, hd => cases hd; exact ⟨f6, 6, rfl, (keep_put (keep_put (keep_put (keep_put (keep_put (keep_put put_same h7) h8) h9) h10) h11) hg), by decide⟩
  | 7, hd => cases hd; exact ⟨f7, 7, rfl, (keep_put (keep_put (keep_put (keep_put (keep_put put_same h8) h9) h10) h11) hg), by decide⟩
  | 8, hd => cases hd; exact ⟨f8, 8, rfl, (keep_put (keep_put (keep_put (keep_put put_same h9) h10) h11) hg), by decide⟩
  | 9, hd => cases hd; exact ⟨f9, 9, rfl, (keep_put (keep_put (keep_put put_same h10) h11) hg), by decide⟩
  | 10, hd => cases hd; exact ⟨f10, 10, rfl, (keep_put (keep_put put_same h11) hg), by decide⟩
  | 11, hd => cases hd; exact ⟨f11, 11, rfl, (keep_put put_same hg), by decide⟩
  | n + 12, hd => cases hd

theorem T2 {Z : Zt} {Q : QD} {E : XD} {S : DS} (hQ : ∀ S, Q (.bl true) S) {u0 u1 u3 u4 u5 u6 u7 u8 u9 u10 u11 u12 u13 u14 u15 u16 : Option D} {fa : Addr} (hfa : S fa = some (.ins 0 (fF ⟨[], 1, false, 1, [], false, false⟩))) :
    t_law_2 Z (fin Q E) [u0, u1, some (.ref fa), u3, u4, u5, u6, u7, u8, u9, u10, u11, u12, u13, u14, u15, u16] S := by
  have z2 : 2 ≤ sizeLine := by decide
  have z7 : 7 ≤ sizeLine := by decide
  refine ⟨z2, z2, z2, ⟨by decide, by decide, by decide⟩, z2, z7, fun l hl => ⟨_, put_same, z7, fun i acc S' => acc = ([D.str ⟨(fmtT ⟨[], 1, false, 1, [], false, false⟩ (.non)).toArray⟩, D.str ⟨(fmtT ⟨[], 1, false, 1, [], false, false⟩ (.bl true)).toArray⟩, D.str ⟨(fmtT ⟨[], 1, false, 1, [], false, false⟩ (.str "ab")).toArray⟩, D.str ⟨(fmtT ⟨[], 1, false, 1, [], false, false⟩ (.wr "kind")).toArray⟩, D.str ⟨(fmtT ⟨[], 1, false, 1, [], false, false⟩ (.num 19 20)).toArray⟩, D.str ⟨(fmtT ⟨[], 1, false, 1, [], false, false⟩ (.num (-1) 100)).toArray⟩, D.str ⟨(fmtT ⟨[], 1, false, 1, [], false, false⟩ (.num (10 ^ 29) 1)).toArray⟩]).take i ∧ S' = put S l (.lst [.non, .bl true, .str "ab", .tup [.str "#", .str "kind"], .tup [.int 19, .int 20], .tup [.int (-1), .int 100], .tup [.int (10 ^ 29), .int 1]]), ⟨rfl, rfl⟩, ?_, ?_, ?_⟩⟩
  · rintro i acc S' ⟨rfl, rfl⟩
    exact put_same
  · rintro i d acc S' hd ⟨rfl, rfl⟩
    have hf := keep_put (u := .lst [.non, .bl true, .str "ab", .tup [.str "#", .str "kind"], .tup [.int 19, .int 20], .tup [.int (-1), .int 100], .tup [.int (10 ^ 29), .int 1]]) hfa hl
    match i, hd with
    | 0, hd =>
      cases hd
      exact ⟨_, rfl, _, _, _, _, _, rfl, hf, rfl, rfl, ⟨by decide, by decide, by decide, rfl⟩, rfl, _, rfl, fa, ⟨[], 1, false, 1, [], false, false⟩, .non, rfl, hf, trivial, fun s z => (nomatch z), by decide, by decide, by decide, _, Sub.refl _, rfl, rfl⟩
    | 1, hd =>
      cases hd
      exact ⟨_, rfl, _, _, _, _, _, rfl, hf, rfl, rfl, ⟨by decide, by decide, by decide, rfl⟩, rfl, _, rfl, fa, ⟨[], 1, false, 1, [], false, false⟩, .bl true, rfl, hf, trivial, fun s z => (nomatch z), by decide, by decide, by decide, _, Sub.refl _, rfl, rfl⟩
    | 2, hd =>
      cases hd
      exact ⟨_, rfl, _, _, _, _, _, rfl, hf, rfl, rfl, ⟨by decide, by decide, by decide, rfl⟩, rfl, _, rfl, fa, ⟨[], 1, false, 1, [], false, false⟩, .str "ab", rfl, hf, by show PyData.strOk _ = true; decide +kernel, fun s z => (nomatch z), by decide, by decide, by decide, _, Sub.refl _, rfl, rfl⟩
    | 3, hd =>
      cases hd
      exact ⟨_, rfl, _, _, _, _, _, rfl, hf, rfl, rfl, ⟨by decide, by decide, by decide, rfl⟩, rfl, _, rfl, fa, ⟨[], 1, false, 1, [], false, false⟩, .wr "kind", rfl, hf, by show PyData.strOk _ = true; decide +kernel, fun s z => by cases z; decide, by decide, by decide, by decide, _, Sub.refl _, rfl, rfl⟩
    | 4, hd =>
      cases hd
      exact ⟨_, rfl, _, _, _, _, _, rfl, hf, rfl, rfl, ⟨by decide, by decide, by decide, rfl⟩, rfl, _, rfl, fa, ⟨[], 1, false, 1, [], false, false⟩, .num 19 20, rfl, hf, ⟨by decide, by decide, by decide⟩, fun s z => (nomatch z), by decide, by decide, by decide, _, Sub.refl _, rfl, rfl⟩
    | 5, hd =>
      cases hd
      exact ⟨_, rfl, _, _, _, _, _, rfl, hf, rfl, rfl, ⟨by decide, by decide, by decide, rfl⟩, rfl, _, rfl, fa, ⟨[], 1, false, 1, [], false, false⟩, .num (-1) 100, rfl, hf, ⟨by decide, by decide, by decide⟩, fun s z => (nomatch z), by decide, by decide, by decide, _, Sub.refl _, rfl, rfl⟩
    | 6, hd =>
      cases hd
      exact ⟨_, rfl, _, _, _, _, _, rfl, hf, rfl, rfl, ⟨by decide, by decide, by decide, rfl⟩, rfl, _, rfl, fa, ⟨[], 1, false, 1, [], false, false⟩, .num (10 ^ 29) 1, rfl, hf, ⟨by decide, by decide, by decide⟩, fun s z => (nomatch z), by decide, by decide, by decide, _, Sub.refl _, rfl, rfl⟩
    | n + 7, hd => cases hd
  · rintro acc S' g ⟨rfl, rfl⟩ hg
    refine ⟨rep_ok (by decide), by rw [rep_len (n := 29) rfl]; show 1 + 29 ≤ sizeLine; decide, by rw [show (29 : Int) = ((29 : Nat) : Int) from rfl, rep_self]; show (⟨#[49]⟩ ++ (⟨(List.replicate 29 48).toArray⟩ : Str)).length + 2 ≤ sizeLine; decide +kernel, z7, fun g2 hg2 => ⟨_, _, keep_put put_same hg2, put_same, by decide +kernel, by decide +kernel, ?_⟩⟩
    exact ite_no (by decide +kernel) (T3 hQ)

theorem T1 {Z : Zt} {Q : QD} {E : XD} {S : DS} (hQ : ∀ S, Q (.bl true) S) {u0 u1 u2 u3 u4 u5 u6 u7 u8 u9 u10 u11 u12 u13 u14 u15 u16 : Option D}  :
    t_law_1 Z (fin Q E) [u0, u1, u2, u3, u4, u5, u6, u7, u8, u9, u10, u11, u12, u13, u14, u15, u16] S := by
  have em : fmtOf [48, 46, 48] = some ⟨[], 1, false, 1, [], false, false⟩ := by decide +kernel
  refine ⟨_, rfl, ⟨by decide, by decide, by decide, rfl⟩, [48, 46, 48], congrArg (fun x => [D.str x]) (by decide +kernel), by decide, fun z => absurd (em.symm.trans z) (fun z => nomatch z), fun m hm fa hfa => ?_⟩
  rw [em] at hm
  cases hm
  exact T2 hQ put_same

theorem law_read {Z : Zt} : ∀ ds S Q0 E0, sp_law ds S Q0 E0 → t_law_0 Z (fin Q0 E0) (startD ["script", "dice", "plain", "bad", "turn", "figures", "places", "head", "tail", "share", "signed", "pattern", "found", "value", "f", "k", "part"] ds) S := by
  rintro ds S Q E ⟨ns, x, rfl, hx, hQ⟩
  refine ⟨_, rfl, ⟨by decide, by decide, by decide, rfl⟩, _, rfl, ns, x, rfl, hx, fun a b d p q hp hq hpq => ?_⟩
  have hp2 : put (put S p (.lst [.int a, .int b, .int d])) q (.lst [.ref p]) p = some (.lst [.int a, .int b, .int d]) := (put_ne hpq).trans put_same
  refine ⟨[.ref p], put_same, fun i r S' => (i = 0 ∧ r = startD ["script", "dice", "plain", "bad", "turn", "figures", "places", "head", "tail", "share", "signed", "pattern", "found", "value", "f", "k", "part"] [x] ∧ S' = put (put S p (.lst [.int a, .int b, .int d])) q (.lst [.ref p])) ∨ (i = 1 ∧ r.length = 17 ∧ S' q = some (.lst [.ref p])), .inl ⟨rfl, rfl, rfl⟩, ?_, ?_, ?_⟩
  · rintro i r S' (⟨_, _, rfl⟩ | ⟨_, _, h⟩)
    · exact put_same
    · exact h
  · rintro i d' r S' hd (⟨rfl, rfl, rfl⟩ | ⟨rfl, _, h⟩)
    · cases hd
      refine L00 (kq := q) (q := p) ?_ ⟨put_same, a, b, d, hp2⟩
      exact fun r S hr _ hk => ⟨S, Sub.refl _, .inr ⟨rfl, hr, hk.1⟩⟩
    · cases hd
  · rintro r S' (⟨h, _⟩ | ⟨_, hr, _⟩)
    · cases h
    · match r, hr with
      | [u0, u1, u2, u3, u4, u5, u6, u7, u8, u9, u10, u11, u12, u13, u14, u15, u16], _ => exact T1 hQ

end K08

set_option Elab.async false
set_option linter.all false
set_option maxRecDepth 100000
set_option maxHeartbeats 4000000
namespace K08
open PySem PySem.Spec PyProof.Rows L2 G
theorem ok_ten_to {P : Program} {w : World} {K : PySem.W.Frag} {mg : Str → Option Value} {base : Heap} {Z : Zt} {f : Addr} {fd : FuncData} {cdv : Value} (hfn : ∀ i, Z.fn i = fnOf' fnT i) (hlm : ∀ j, Z.lm j = lmT j) (hM : TxOk P w K mg base Z tx (M0 Z)) (F : FunC K "ten_to" "ten_to" s_ten_to f fd cdv .none) : FnD P w K mg base Z 1 f (e_ten_to) := by
  have nd := sc_ten_to.nd
  refine FnD.mk0 (ps := ["power"]) (fn_bodyC F sc_ten_to (fun ds S Q E h => ?len) _ (fun A outer s H E hr => (pdss_cons (pds_set nd (i := 1) pd_int)
    (pdss_cons (pds_for (passes_of rfl) (by rfl) (pdi_range1 hM 4 (by rfl) (pda_cons (pd_var 0) pda_nil)) (pdg_name nd (i := 2)) (pdss_one (pds_aug nd (i := 1) pd_int id_mul)))
    (pdss_one (pds_ret (pd_var 1)))))) (fun ds S Q E h => ?hb)) rfl rfl (F.binds fun _ _ _ _ _ _ us hl => match us, hl with | [_], _ => rfl)
  case len => obtain ⟨_, rfl, _⟩ := h; rfl
  case hb =>
    obtain ⟨n, rfl, hn, h1⟩ := h
    refine ⟨_, rfl, ⟨by omega, by omega⟩, fun i r S' => (∃ o, r = [some (.int n), some (.int (10 ^ i)), o]) ∧ S' = S, ⟨⟨_, rfl⟩, rfl⟩, fun _ _ _ _ => trivial, ?_, ?_⟩
    · rintro i d r S' hd ⟨⟨o, rfl⟩, rfl⟩
      refine ⟨_, rfl, .inr (by decide), _, Sub.refl _, ⟨some d, ?_⟩, rfl⟩
      rw [Int.pow_succ]
      rfl
    · rintro r S' ⟨⟨o, rfl⟩, rfl⟩
      refine ⟨_, rfl, _, Sub.refl _, ?_⟩
      rw [rngD_len]
      exact h1

theorem ok_greatest_part {P : Program} {w : World} {K : PySem.W.Frag} {mg : Str → Option Value} {base : Heap} {Z : Zt} {f : Addr} {fd : FuncData} {cdv : Value} (hfn : ∀ i, Z.fn i = fnOf' fnT i) (hlm : ∀ j, Z.lm j = lmT j) (hM : TxOk P w K mg base Z tx (M1 Z)) (F : FunC K "greatest_part" "greatest_part" s_greatest_part f fd cdv .none) : FnD P w K mg base Z 1 f (e_greatest_part) := by
  have nd := sc_greatest_part.nd
  refine FnD.mk0 (ps := ["one", "other"]) (fn_bodyC F sc_greatest_part (fun ds S Q E h => ?len) _ (fun A outer s H E hr => (pdss_cons (pds_par2 (i := 0) (j := 1) (by rfl) nd (pda_cons (pd_bi hM cd_abs 8 (by rfl) (by rfl) bt_abs (pda_cons (pd_var 0) pda_nil)) (pda_cons (pd_bi hM cd_abs 8 (by rfl) (by rfl) bt_abs (pda_cons (pd_var 1) pda_nil)) pda_nil)) (by rfl))
    (pdss_cons (pds_while (sts := []) (passes_of rfl) (pdt_cmp (od_ne (hu64 hr)) (pd_var 1) pd_int) (pdss_one (pds_par2 (i := 0) (j := 1) (by rfl) nd (pda_cons (pd_var 1) (pda_cons (pd_op od_sub (pd_var 0) (pd_op od_mul (pd_op od_div (pd_var 0) (pd_var 1)) (pd_var 1))) pda_nil)) (by rfl))))
    (pdss_one (pds_ret (pd_var 0)))))) (fun ds S Q E h => ?hb)) rfl rfl (F.binds fun _ _ _ _ _ _ us hl => match us, hl with | [_, _], _ => rfl)
  case len => obtain ⟨_, _, rfl, _⟩ := h; rfl
  case hb =>
    obtain ⟨a, b, rfl, ha, hb, h1⟩ := h
    refine ⟨_, rfl, _, rfl, ?_⟩
    refine ⟨fun m r S' => ∃ x y : Nat, y = m ∧ x < 2 ^ 8000 ∧ y < 2 ^ 8000 ∧ Nat.gcd x y = Int.gcd a b ∧ r = [some (.int x), some (.int y)] ∧ S' = S, ⟨_, a.natAbs, b.natAbs, rfl, ha, hb, rfl, by show [some (D.int (if a < 0 then -a else a)), some (D.int (if b < 0 then -b else b))] = _; rw [abs_if, abs_if], rfl⟩, ?_⟩
    rintro m r S' ⟨x, y, rfl, hx, hy, hg, rfl, rfl⟩
    refine ⟨_, rfl, ?_⟩
    refine itn (fun c => ?_) (fun c => ?_)
    · have y0 : 0 < y := by omega
      have e : (x : Int) - (x : Int).fdiv (y : Int) * (y : Int) = ((x % y : Nat) : Int) := by
        rw [Int.fdiv_eq_ediv_of_nonneg _ (by omega)]
        have := Int.mul_ediv_add_emod (x : Int) (y : Int)
        rw [Int.natCast_emod]
        have h2 : (y : Int) * ((x : Int) / (y : Int)) = (x : Int) / (y : Int) * (y : Int) := Int.mul_comm _ _
        omega
      refine ⟨_, rfl, _, rfl, _, rfl, _, rfl, div_pos (by omega) hy, _, rfl, ?_⟩
      refine ⟨mul_sz ?_ hy, ?_⟩
      · rw [Int.fdiv_eq_ediv_of_nonneg _ (by omega)]
        show ((x : Int) / (y : Int)).natAbs < 2 ^ 8000
        rw [show (x : Int) / (y : Int) = ((x / y : Nat) : Int) from rfl, Int.natAbs_natCast]
        exact Nat.lt_of_le_of_lt (Nat.div_le_self _ _) hx
      · have hm := Nat.mod_lt x y0
        exact ⟨_, x % y, Sub.refl _, hm, y, x % y, rfl, hy, Nat.lt_trans hm hy, by rw [← hg, Nat.gcd_comm x y, Nat.gcd_rec y x, Nat.gcd_comm], by show [some (D.int (y : Int)), some (D.int ((x : Int) - (x : Int).fdiv (y : Int) * (y : Int)))] = _; rw [e], rfl⟩
    · have y0 : y = 0 := by omega
      subst y0
      refine ⟨_, rfl, _, Sub.refl _, ?_⟩
      rw [Nat.gcd_zero_right] at hg
      rw [hg]
      exact h1

theorem ok_number {P : Program} {w : World} {K : PySem.W.Frag} {mg : Str → Option Value} {base : Heap} {Z : Zt} {f : Addr} {fd : FuncData} {cdv dV : Value} (hfn : ∀ i, Z.fn i = fnOf' fnT i) (hlm : ∀ j, Z.lm j = lmT j) (hM : TxOk P w K mg base Z tx (M2 Z)) (F : FunC K "number" "number" s_number f fd cdv dV) (hkp : PySem.W.keepIn K (.ref f) = true) {dvs : List V} (hdl : dvs.length = 1) (hdD : DflV K dV dvs) (hdV : ∀ H, DVs K H (e_number).dfl dvs) : FnD P w K mg base Z 2 f (e_number) := by
  have nd := sc_number.nd
  have hdne : dvs ≠ [] := fun z => by rw [z] at hdl; cases hdl
  refine FnD.mkD (ps := ["part", "whole"]) (dvs := dvs) (fn_bodyC F sc_number (fun ds S Q E h => ?len) _ (fun A outer s H E hr => (pdss_cons (pds_if (pdt_cmp (od_eq (hu64 hr)) (pd_var 1) pd_int) (pdss_one (pds_ret (pd_glob hM 2 (by rfl) (by rfl)))) pdss_nil)
    (pdss_cons (pds_set nd (i := 2) (pd_call hM hr 1 2 (by rfl) (by rfl) (pda_cons (pd_var 0) (pda_cons (pd_var 1) pda_nil))))
    (pdss_cons (pds_if (pdt_cmp od_lt (pd_var 1) pd_int) (pdss_one (pds_set nd (i := 2) (pd_op od_sub pd_int (pd_var 2)))) pdss_nil)
    (pdss_cons (pds_par2 (i := 0) (j := 1) (by rfl) nd (pda_cons (pd_op od_div (pd_var 0) (pd_var 2)) (pda_cons (pd_op od_div (pd_var 1) (pd_var 2)) pda_nil)) (by rfl))
    (pdss_cons (pds_if (PDW.pt (pdw_or (pdt_cmp od_ge (pd_bi hM cd_abs 8 (by rfl) (by rfl) bt_abs (pda_cons (pd_var 0) pda_nil)) (pd_glob hM 1 (by rfl) (by rfl))) (pdw_or1 (pdt_cmp od_ge (pd_var 1) (pd_glob hM 1 (by rfl) (by rfl)))))) (pdss_one (pds_ret (pd_glob hM 3 (by rfl) (by rfl)))) pdss_nil)
    (pdss_one (pds_ret (pd_tup (pda_cons (pd_var 0) (pda_cons (pd_var 1) pda_nil))))))))))) (fun ds S Q E h => ?hb)) rfl hdV hdl.symm (fun m hm => match m, (hdl ▸ hm : m ≤ 1) with | 0, _ => (F.toD hkp hdD).binds1 1 0 hdne (by rw [hdl] <;> rfl) (fun _ _ _ _ _ _ _ us its hl hl2 => match us, hl, its, hl2.trans hdl with | [_], _, [_], _ => ⟨_, rfl, rfl⟩) | 1, _ => (F.toD hkp hdD).binds1 2 1 hdne (by rw [hdl] <;> rfl) (fun _ _ _ _ _ _ _ us its hl hl2 => match us, hl, its, hl2.trans hdl with | [_, _], _, [_], _ => ⟨_, rfl, rfl⟩) | n + 2, hm => absurd hm (by omega))
  case len => obtain ⟨_, _, rfl, _⟩ := h; rfl
  case hb =>
    obtain ⟨p, w, rfl, ⟨hp, hw, hg⟩, h1⟩ := h
    unfold mkNum at h1
    refine ⟨_, rfl, ?_⟩
    refine itd (fun c => ?_) (fun c => ?_)
    · rw [if_pos c] at h1
      exact ⟨_, Sub.refl _, h1⟩
    rw [if_neg c] at h1
    have g0 : 0 < Int.gcd p w := Int.gcd_pos_of_ne_zero_right _ c
    have gs : Int.gcd p w < 2 ^ 8000 := by
      have := Int.gcd_le_natAbs_right (a := p) c
      exact Nat.lt_of_le_of_lt this hw
    refine ⟨_, rfl, ⟨by decide, by decide, by decide, rfl⟩, _, rfl, _, rfl, p, w, rfl, hp, hw, ?_⟩
    have tail : ∀ s : Int, s = (if w < 0 then -(Int.gcd p w : Int) else (Int.gcd p w : Int)) → DivOk s → dSeq (dPar2 0 1 (dCons (dOp opDiv (dVar 0) (dVar 2)) (dCons (dOp opDiv (dVar 1) (dVar 2)) dNil))) (dSeq (dIfS (dOr (dTest (dOp opGe (dBi rAbs (dCons (dVar 0) dNil)) (dC (.int (10 ^ 30))))) (dTest (dOp opGe (dVar 1) (dC (.int (10 ^ 30)))))) (dRet (dC (.tup [.str "#", .str "too large"]))) dNext) (dRet (dTup (dCons (dVar 0) (dCons (dVar 1) dNil))))) (fin Q E) [some (.int p), some (.int w), some (.int s)] S := fun s hs ds => by
      subst hs
      refine ⟨_, rfl, _, rfl, ds, _, rfl, _, rfl, ds, ?_⟩
      refine ⟨_, rfl, ?_⟩
      refine itd (fun c1 => ?_) (fun c1 => ?_)
      · rw [if_pos (.inl c1)] at h1
        exact ⟨_, Sub.refl _, h1⟩
      refine ⟨_, rfl, ?_⟩
      refine itd (fun c2 => ?_) (fun c2 => ?_)
      · rw [if_pos (.inr c2)] at h1
        exact ⟨_, Sub.refl _, h1⟩
      rw [if_neg (fun z => z.elim c1 c2)] at h1
      exact ⟨_, rfl, _, rfl, by show 2 ≤ sizeLine; decide, _, Sub.refl _, h1⟩
    refine ⟨_, rfl, ?_⟩
    refine itd (fun c3 => ?_) (fun c3 => ?_)
    · refine ⟨_, rfl, ?_⟩
      have := hg c3
      exact tail _ (by rw [if_pos c3]; omega) ⟨by omega, .inl (by omega)⟩
    · exact tail _ (by rw [if_neg c3]) (div_pos (by omega) (by unfold Sz; omega))

theorem ok_is_wrong {P : Program} {w : World} {K : PySem.W.Frag} {mg : Str → Option Value} {base : Heap} {Z : Zt} {f : Addr} {fd : FuncData} {cdv : Value} (hfn : ∀ i, Z.fn i = fnOf' fnT i) (hlm : ∀ j, Z.lm j = lmT j) (hM : TxOk P w K mg base Z tx (M3 Z)) (F : FunC K "is_wrong" "is_wrong" s_is_wrong f fd cdv .none) : FnD P w K mg base Z 1 f (e_is_wrong) := by
  have nd := sc_is_wrong.nd
  refine FnD.mk0 (ps := ["value"]) (fn_bodyC F sc_is_wrong (fun ds S Q E h => ?len) _ (fun A outer s H E hr => (pdss_one (pds_ret (pd_and (pd_isi "tuple" (by simp) hM 9 10 (by rfl) (by rfl) (by rfl) (by rfl) bt_isinstance bt_tuple (pd_var 0)) (pd_one (pd_cmp (od_eq (hu64 hr)) (pd_ix (pd_var 0) pd_int) pd_str)))))) (fun ds S Q E h => ?hb)) rfl rfl (F.binds fun _ _ _ _ _ _ us hl => match us, hl with | [_], _ => rfl)
  case len => obtain ⟨_, rfl, _⟩ := h; rfl
  case hb =>
    obtain ⟨v, rfl, h1⟩ := h
    refine ⟨_, rfl, by cases v <;> rfl, ?_⟩
    cases v with
    | num p w => exact ⟨_, rfl, _, rfl, rfl, by decide +kernel, _, Sub.refl _, h1⟩
    | wr s => exact ⟨_, rfl, _, rfl, _, Sub.refl _, h1⟩
    | _ => exact ⟨_, Sub.refl _, h1⟩

theorem ok_is_number {P : Program} {w : World} {K : PySem.W.Frag} {mg : Str → Option Value} {base : Heap} {Z : Zt} {f : Addr} {fd : FuncData} {cdv : Value} (hfn : ∀ i, Z.fn i = fnOf' fnT i) (hlm : ∀ j, Z.lm j = lmT j) (hM : TxOk P w K mg base Z tx (M4 Z)) (F : FunC K "is_number" "is_number" s_is_number f fd cdv .none) : FnD P w K mg base Z 1 f (e_is_number) := by
  have nd := sc_is_number.nd
  refine FnD.mk0 (ps := ["value"]) (fn_bodyC F sc_is_number (fun ds S Q E h => ?len) _ (fun A outer s H E hr => (pdss_one (pds_ret (pd_and (pd_isi "tuple" (by simp) hM 9 10 (by rfl) (by rfl) (by rfl) (by rfl) bt_isinstance bt_tuple (pd_var 0)) (pd_one (pd_cmp (od_ne (hu64 hr)) (pd_ix (pd_var 0) pd_int) pd_str)))))) (fun ds S Q E h => ?hb)) rfl rfl (F.binds fun _ _ _ _ _ _ us hl => match us, hl with | [_], _ => rfl)
  case len => obtain ⟨_, rfl, _⟩ := h; rfl
  case hb =>
    obtain ⟨v, rfl, h1⟩ := h
    refine ⟨_, rfl, by cases v <;> rfl, ?_⟩
    cases v with
    | num p w => exact ⟨_, rfl, _, rfl, rfl, by decide +kernel, _, Sub.refl _, h1⟩
    | wr s => exact ⟨_, rfl, _, rfl, _, Sub.refl _, h1⟩
    | _ => exact ⟨_, Sub.refl _, h1⟩

theorem ok_number_text {P : Program} {w : World} {K : PySem.W.Frag} {mg : Str → Option Value} {base : Heap} {Z : Zt} {f : Addr} {fd : FuncData} {cdv : Value} (hfn : ∀ i, Z.fn i = fnOf' fnT i) (hlm : ∀ j, Z.lm j = lmT j) (hM : TxOk P w K mg base Z tx (M5 Z)) (F : FunC K "number_text" "number_text" s_number_text f fd cdv .none) : FnD P w K mg base Z 1 f (e_number_text) := by
  have nd := sc_number_text.nd
  refine FnD.mk0 (ps := ["value"]) (fn_bodyC F sc_number_text (fun ds S Q E h => ?len) _ (fun A outer s H E hr => (pdss_cons (pds_asg (pd_var 0) (pdg_tup (n := 2) (by rfl) (pdgs_cons (pdg_name nd (i := 1)) (pdgs_cons (pdg_name nd (i := 2)) pdgs_nil))))
    (pdss_cons (pds_par2 (i := 3) (j := 1) (by rfl) nd (pda_cons (pd_if (pdt_cmp od_lt (pd_var 1) pd_int) pd_str pd_str) (pda_cons (pd_bi hM cd_abs 8 (by rfl) (by rfl) bt_abs (pda_cons (pd_var 1) pda_nil)) pda_nil)) (by rfl))
    (pdss_cons (pds_set nd (i := 4) pd_int)
    (pdss_cons (pds_set nd (i := 5) pd_int)
    (pdss_cons (pds_while (sts := []) (passes_of rfl) (PDW.pt (pdw_and (pdt_cmp od_le (pd_var 4) pd_int) (pdw_and1 (pdt_cmp (od_ne (hu64 hr)) (pd_op od_mul (pd_op od_div (pd_var 5) (pd_var 2)) (pd_var 2)) (pd_var 5))))) (pdss_cons (pds_aug nd (i := 4) pd_int id_add)
    (pdss_one (pds_aug nd (i := 5) pd_int id_mul))))
    (pdss_cons (pds_if (pdt_cmp od_gt (pd_var 4) pd_int) (pdss_one (pds_ret (pd_joined (pdj_cons (pd_fmt (pd_var 3)) (pdj_cons (pd_fmt (pd_var 1)) (pdj_cons pd_str (pdj_cons (pd_fmt (pd_var 2)) pdj_nil))))))) pdss_nil)
    (pdss_cons (pds_set nd (i := 6) (pd_ty hM cd_str 2 (by rfl) (by rfl) bt_str (pda_cons (pd_op od_mul (pd_var 1) (pd_op od_div (pd_var 5) (pd_var 2))) pda_nil)))
    (pdss_cons (pds_if (pdt_cmp (od_eq (hu64 hr)) (pd_var 4) pd_int) (pdss_one (pds_ret (pd_op od_add (pd_var 3) (pd_var 6)))) pdss_nil)
    (pdss_cons (pds_set nd (i := 6) (pd_op od_add (pd_op od_mul pd_str (pd_bi hM (cd_max (by rfl)) 7 (by rfl) (by rfl) bt_max (pda_cons pd_int (pda_cons (pd_op od_sub (pd_op od_add (pd_var 4) pd_int) (pd_bi hM cd_len 0 (by rfl) (by rfl) bt_len (pda_cons (pd_var 6) pda_nil))) pda_nil)))) (pd_var 6)))
    (pdss_one (pds_ret (pd_op od_add (pd_op od_add (pd_op od_add (pd_var 3) (pd_slice (pd_var 6) pdo_none (pdo_some (pd_op od_sub (pd_bi hM cd_len 0 (by rfl) (by rfl) bt_len (pda_cons (pd_var 6) pda_nil)) (pd_var 4))))) pd_str) (pd_slice (pd_var 6) (pdo_some (pd_op od_sub (pd_bi hM cd_len 0 (by rfl) (by rfl) bt_len (pda_cons (pd_var 6) pda_nil)) (pd_var 4))) pdo_none)))))))))))))) (fun ds S Q E h => ?hb)) rfl rfl (F.binds fun _ _ _ _ _ _ us hl => match us, hl with | [_], _ => rfl)
  case len => obtain ⟨_, _, rfl, _⟩ := h; rfl
  case hb =>
    obtain ⟨p, w, rfl, ⟨hp, w0, hw⟩, h1⟩ := h
    unfold numL at h1
    refine ⟨_, rfl, rfl, rfl, ?_⟩
    have hsl : (sgnL p).length ≤ 1 := by unfold sgnL; split <;> simp
    have up : p.natAbs < 2 ^ 260 := Nat.lt_of_lt_of_le hp (Nat.pow_le_pow_right (by decide) (by decide))
    have uw : w.toNat < 2 ^ 260 := by
      have : w.toNat = w.natAbs := by omega
      rw [this]
      exact Nat.lt_of_lt_of_le hw (Nat.pow_le_pow_right (by decide) (by decide))
    have lp := natD_len200 up
    have lw := natD_len200 uw
    have L5 : ∀ k : Nat, k = figs w → t_number_text_5 Z (fin Q E) [some (.tup [.int p, .int w]), some (.int ((p.natAbs : Nat) : Int)), some (.int w), some (.str ⟨(sgnL p).toArray⟩), some (.int (k : Int)), some (.int (10 ^ k)), none] S := fun k hk => by
      subst hk
      refine ⟨_, rfl, ?_⟩
      refine itd (fun c => ?_) (fun c => ?_)
      · rw [if_pos (by omega)] at h1
        have e1 : (toString ((p.natAbs : Nat) : Int) : Str) = ⟨(natD p.natAbs).toArray⟩ := toString_nat' _
        have e2 : (toString w : Str) = ⟨(natD w.toNat).toArray⟩ := toString_int (by omega)
        refine ⟨_, rfl, ?_, ?_, _, rfl, ?_, ?_, ?_, _, rfl, ?_, ?_, ?_⟩
        · exact short80 (by omega)
        · exact short80 (by show (#[] ++ (sgnL p).toArray).toList.length ≤ _; simp; omega)
        · exact Nat.lt_trans (log2_of_lt (k := 260) (by rw [Int.natAbs_natCast]; exact up) (by decide)) (by decide)
        · rw [e1]; exact short80 (by show ((#[] ++ (sgnL p).toArray) ++ (natD p.natAbs).toArray).toList.length ≤ _; simp; omega)
        · rw [e1]; exact short80 (by show (((#[] ++ (sgnL p).toArray) ++ (natD p.natAbs).toArray) ++ #[47]).toList.length ≤ _; simp; omega)
        · exact Nat.lt_trans (log2_of_lt (k := 200) hw (by decide)) (by decide)
        · rw [e1, e2]; exact short80 (by show ((((#[] ++ (sgnL p).toArray) ++ (natD p.natAbs).toArray) ++ #[47]) ++ (natD w.toNat).toArray).toList.length ≤ _; simp; omega)
        · rw [e1, e2]
          have e3 : (Str.empty ++ ⟨(sgnL p).toArray⟩ ++ ⟨(natD p.natAbs).toArray⟩ ++ Str.ofString "/" ++ ⟨(natD w.toNat).toArray⟩ : Str) = ⟨(sgnL p ++ natD p.natAbs ++ [47] ++ natD w.toNat).toArray⟩ := by
            refine str_ext ?_
            show ((((#[] ++ (sgnL p).toArray) ++ (natD p.natAbs).toArray) ++ #[47]) ++ (natD w.toNat).toArray).toList = _
            simp
          rw [e3]
          unfold dJs
          exact ⟨_, Sub.refl _, h1⟩
      · rw [if_neg (by omega)] at h1
        have hp10 : (0 : Int) ≤ 10 ^ figs w := Int.le_of_lt (Int.pow_pos (by decide))
        have q0 := Int.ediv_nonneg hp10 (by omega : 0 ≤ w)
        have q1 := Int.ediv_le_self w hp10
        have q2 : (10 : Int) ^ figs w ≤ 10 ^ 12 := by
          have : (10 : Nat) ^ figs w ≤ 10 ^ 12 := Nat.pow_le_pow_right (by decide) (by omega)
          exact_mod_cast this
        have efd : (10 ^ figs w : Int).fdiv w = 10 ^ figs w / w := Int.fdiv_eq_ediv_of_nonneg _ (by omega)
        have q3 : ((10 ^ figs w : Int) / w).toNat ≤ 10 ^ 12 := by omega
        have hq : p.natAbs * ((10 ^ figs w : Int) / w).toNat < 2 ^ 260 := Nat.lt_of_le_of_lt (Nat.mul_le_mul (Nat.le_of_lt hp) q3) (by decide +kernel)
        have ei : ((p.natAbs : Nat) : Int) * ((10 ^ figs w : Int).fdiv w) = ((p.natAbs * ((10 ^ figs w : Int) / w).toNat : Nat) : Int) := by
          rw [efd, Int.natCast_mul, Int.toNat_of_nonneg q0]
        have lq := natD_len200 hq
        refine ⟨_, rfl, _, rfl, _, rfl, div_pos w0 (sz200 hw), ?_, ?_, ?_⟩
        · refine mul_sz (sz200 (by omega)) ?_
          rw [efd]
          exact sz200 (Nat.lt_of_le_of_lt (m := 10 ^ 12) (by omega) (by decide))
        · rw [ei]
          exact Nat.lt_trans (log2_of_lt (k := 260) (by rw [Int.natAbs_natCast]; exact hq) (by decide)) (by decide)
        rw [ei]
        have e1 : (Str.ofString (toString ((p.natAbs * ((10 ^ figs w : Int) / w).toNat : Nat) : Int))) = ⟨(natD (p.natAbs * ((10 ^ figs w : Int) / w).toNat)).toArray⟩ := toString_nat' _
        rw [e1]
        clear e1 ei hq
        generalize natD (p.natAbs * ((10 ^ figs w : Int) / w).toNat) = dg at *
        show t_number_text_7 Z (fin Q E) [some (.tup [.int p, .int w]), some (.int ((p.natAbs : Nat) : Int)), some (.int w), some (.str ⟨(sgnL p).toArray⟩), some (.int (figs w : Int)), some (.int (10 ^ figs w)), some (.str ⟨dg.toArray⟩)] S
        refine ⟨_, rfl, ?_⟩
        refine itd (fun c0 => ?_) (fun c0 => ?_)
        · rw [if_pos (by omega)] at h1
          have e3 : (⟨(sgnL p).toArray⟩ ++ ⟨dg.toArray⟩ : Str) = ⟨(sgnL p ++ dg).toArray⟩ := by
            refine str_ext ?_
            show ((sgnL p).toArray ++ dg.toArray).toList = _
            simp
          rw [← e3] at h1
          refine ⟨_, rfl, _, rfl, ?_, _, Sub.refl _, h1⟩
          show (sgnL p).toArray.size + dg.toArray.size ≤ 2 ^ 24
          simp only [List.size_toArray]
          omega
        · rw [if_neg (by omega)] at h1
          have el : (⟨dg.toArray⟩ : Str).length = dg.length := by show dg.toArray.size = _; simp
          obtain ⟨n, hn, eN⟩ : ∃ n : Nat, n = figs w + 1 - dg.length ∧ (if ((figs w : Int) + 1 - ((⟨dg.toArray⟩ : Str).length : Int)) > 0 then ((figs w : Int) + 1 - ((⟨dg.toArray⟩ : Str).length : Int)) else 0) = (n : Int) := by
            refine ⟨_, rfl, ?_⟩
            rw [el]; split <;> omega
          refine ⟨_, rfl, _, rfl, short80 (by omega), ?_⟩
          dsimp only [opSub, G.rMax, dNil]
          rw [eN]
          have er : repS (Str.ofString "0") (n : Int) ++ ⟨dg.toArray⟩ = (⟨(padL (figs w) dg).toArray⟩ : Str) := by
            refine str_ext ?_
            show ((List.replicate n [48]).flatten.toArray ++ dg.toArray).toList = _
            unfold padL
            rw [hn]
            simp
          have lp2 : (padL (figs w) dg).length ≤ 100 ∧ figs w ≤ (padL (figs w) dg).length := by
            unfold padL
            rw [List.length_append, List.length_replicate]
            omega
          have lr : (repS (Str.ofString "0") (n : Int)).length = n := by
            show ((List.replicate n [48]).flatten.toArray).size = n
            simp
          refine ⟨⟨by omega, by omega, ?_⟩, _, rfl, ?_, ?_⟩
          · show 1 * n ≤ 2 ^ 24
            omega
          · rw [lr, el]
            show n + dg.length ≤ 2 ^ 24
            omega
          rw [er]
          clear er
          generalize padL (figs w) dg = pg at *
          have ep : (⟨pg.toArray⟩ : Str).length = pg.length := by show pg.toArray.size = _; simp
          have ek : ((⟨pg.toArray⟩ : Str).length : Int) - (figs w : Int) = ((pg.length - figs w : Nat) : Int) := by rw [ep]; omega
          have ct : L2.cutS ⟨pg.toArray⟩ none (some (((⟨pg.toArray⟩ : Str).length : Int) - (figs w : Int))) = ⟨(pg.take (pg.length - figs w)).toArray⟩ := by
            rw [ek, cutS_to (by rw [ep]; omega)]
          have cf : L2.cutS ⟨pg.toArray⟩ (some (((⟨pg.toArray⟩ : Str).length : Int) - (figs w : Int))) none = ⟨(pg.drop (pg.length - figs w)).toArray⟩ := by
            rw [ek, cutS_from (by rw [ep]; omega)]
          refine ⟨_, rfl, _, rfl, _, rfl, short80 (by omega), _, rfl, short80 (by omega), ?_⟩
          rw [ct]
          have lt1 : (pg.take (pg.length - figs w)).length ≤ 100 := by rw [List.length_take]; omega
          have ld1 : (pg.drop (pg.length - figs w)).length ≤ 100 := by rw [List.length_drop]; omega
          refine ⟨?_, ?_⟩
          · show (sgnL p).toArray.size + (pg.take (pg.length - figs w)).toArray.size ≤ 2 ^ 24
            simp only [List.size_toArray]
            omega
          refine ⟨?_, _, rfl, _, rfl, short80 (by omega), _, rfl, short80 (by omega), ?_⟩
          · show ((sgnL p).toArray ++ (pg.take (pg.length - figs w)).toArray).size + 1 ≤ 2 ^ 24
            simp only [Array.size_append, List.size_toArray]
            omega
          rw [cf]
          refine ⟨?_, _, Sub.refl _, ?_⟩
          · show (((sgnL p).toArray ++ (pg.take (pg.length - figs w)).toArray) ++ #[46]).size + (pg.drop (pg.length - figs w)).toArray.size ≤ 2 ^ 24
            simp only [Array.size_append, List.size_toArray]
            show _ + 1 + _ ≤ _
            omega
          · have e3 : (⟨(sgnL p).toArray⟩ ++ ⟨(pg.take (pg.length - figs w)).toArray⟩ ++ Str.ofString "." ++ ⟨(pg.drop (pg.length - figs w)).toArray⟩ : Str) = ⟨(sgnL p ++ dotL (figs w) pg).toArray⟩ := by
              refine str_ext ?_
              show ((((sgnL p).toArray ++ (pg.take (pg.length - figs w)).toArray) ++ #[46]) ++ (pg.drop (pg.length - figs w)).toArray).toList = _
              unfold dotL
              simp
            rw [e3]
            exact h1
    have L2 : t_number_text_2 Z (fin Q E) [some (.tup [.int p, .int w]), some (.int ((p.natAbs : Nat) : Int)), some (.int w), some (.str ⟨(sgnL p).toArray⟩), none, none, none] S := by
      refine ⟨fun m r S' => ∃ k : Nat, m + k = 13 ∧ figF w k (13 - k) = figs w ∧ r = [some (.tup [.int p, .int w]), some (.int ((p.natAbs : Nat) : Int)), some (.int w), some (.str ⟨(sgnL p).toArray⟩), some (.int (k : Int)), some (.int (10 ^ k)), none] ∧ S' = S, ⟨13, 0, rfl, rfl, rfl, rfl⟩, ?_⟩
      rintro m r S' ⟨k, hm, hf, rfl, rfl⟩
      refine ⟨_, rfl, ?_⟩
      refine itd (fun c1 => ?_) (fun c1 => L5 k ?_)
      · have hk : k ≤ 12 := by omega
        have e13 : 13 - k = (12 - k) + 1 := by omega
        rw [e13] at hf
        unfold figF at hf
        refine ⟨_, rfl, _, rfl, div_pos w0 (sz200 hw), ?_⟩
        refine ⟨_, rfl, mul_sz ?_ (sz200 hw), _, rfl, ?_⟩
        · have h10 : (10 : Int) ^ k ≤ 10 ^ 12 := by
            have : (10 : Nat) ^ k ≤ 10 ^ 12 := Nat.pow_le_pow_right (by decide) hk
            exact_mod_cast this
          have hp10 : (0 : Int) ≤ 10 ^ k := Int.le_of_lt (Int.pow_pos (by decide))
          rw [Int.fdiv_eq_ediv_of_nonneg _ (by omega)]
          have h2 := Int.ediv_le_self w hp10
          have h3 := Int.ediv_nonneg hp10 (by omega : 0 ≤ w)
          refine sz200 (Nat.lt_of_le_of_lt (m := 10 ^ 12) ?_ (by decide))
          omega
        · refine itn (fun c2 => ?_) (fun c2 => L5 k ?_)
          · rw [Int.fdiv_eq_ediv_of_nonneg _ (by omega)] at c2
            rw [if_neg c2] at hf
            refine ⟨_, rfl, _, rfl, .inr (by decide), _, m - 1, Sub.refl _, by omega, k + 1, by omega, ?_, ?_, rfl⟩
            · rw [show 13 - (k + 1) = 12 - k by omega]; exact hf
            · rw [Int.pow_succ]; rfl
          · rw [Int.fdiv_eq_ediv_of_nonneg _ (by omega)] at c2
            rw [if_pos c2] at hf
            exact hf
      · have e13 : k = 13 := by omega
        subst e13
        exact hf
    refine ⟨_, rfl, ?_⟩
    by_cases c : p < 0
    · have es : sgnL p = [45] := if_pos c
      rw [es] at L2
      refine itd (fun _ => ?_) (fun z => absurd c z)
      refine ⟨_, rfl, ?_⟩
      have := L2
      rw [← abs_if] at this
      exact this
    · have es : sgnL p = [] := if_neg c
      rw [es] at L2
      refine itd (fun z => absurd z c) (fun _ => ?_)
      refine ⟨_, rfl, ?_⟩
      have := L2
      rw [← abs_if] at this
      exact this

theorem ok_as_text {P : Program} {w : World} {K : PySem.W.Frag} {mg : Str → Option Value} {base : Heap} {Z : Zt} {f : Addr} {fd : FuncData} {cdv : Value} (hfn : ∀ i, Z.fn i = fnOf' fnT i) (hlm : ∀ j, Z.lm j = lmT j) (hM : TxOk P w K mg base Z tx (M6 Z)) (F : FunC K "as_text" "as_text" s_as_text f fd cdv .none) : FnD P w K mg base Z 2 f (e_as_text) := by
  have nd := sc_as_text.nd
  refine FnD.mk0 (ps := ["value"]) (fn_bodyC F sc_as_text (fun ds S Q E h => ?len) _ (fun A outer s H E hr => (pdss_cons (pds_if (pdt_cmp od_isN (pd_var 0) pd_non) (pdss_one (pds_ret pd_str)) pdss_nil)
    (pdss_cons (pds_if (pdt_tru (pd_isi "bool" (by simp) hM 9 11 (by rfl) (by rfl) (by rfl) (by rfl) bt_isinstance bt_bool (pd_var 0))) (pdss_one (pds_ret (pd_if (pdt_tru (pd_var 0)) pd_str pd_str))) pdss_nil)
    (pdss_one (pds_ret (pd_if (PDW.pt (pdw_or (pdt_tru (pd_isi "str" (by simp) hM 9 2 (by rfl) (by rfl) (by rfl) (by rfl) bt_isinstance bt_str (pd_var 0))) (pdw_or1 (pdt_tru (pd_call hM hr 3 1 (by rfl) (by rfl) (pda_cons (pd_var 0) pda_nil)))))) (pd_var 0) (pd_call hM hr 5 1 (by rfl) (by rfl) (pda_cons (pd_var 0) pda_nil)))))))) (fun ds S Q E h => ?hb)) rfl rfl (F.binds fun _ _ _ _ _ _ us hl => match us, hl with | [_], _ => rfl)
  case len => obtain ⟨_, rfl, _⟩ := h; rfl
  case hb =>
    obtain ⟨v, rfl, hv, h1⟩ := h
    refine ⟨_, rfl, ?_⟩
    cases v with
    | non => exact ⟨_, Sub.refl _, h1⟩
    | bl b => cases b <;> exact ⟨_, rfl, rfl, _, rfl, _, Sub.refl _, h1⟩
    | str s => exact ⟨_, rfl, rfl, _, rfl, rfl, _, rfl, _, Sub.refl _, h1⟩
    | wr s => exact ⟨_, rfl, rfl, _, rfl, rfl, _, rfl, ⟨by decide, by decide, by decide, rfl⟩, _, rfl, .wr s, rfl, _, rfl, _, Sub.refl _, h1⟩
    | num p w => exact ⟨_, rfl, rfl, _, rfl, rfl, _, rfl, ⟨by decide, by decide, by decide, rfl⟩, _, rfl, .num p w, rfl, _, rfl, ⟨by decide, by decide, by decide, rfl⟩, _, rfl, p, w, rfl, hv, _, Sub.refl _, h1⟩

theorem ok_rounded {P : Program} {w : World} {K : PySem.W.Frag} {mg : Str → Option Value} {base : Heap} {Z : Zt} {f : Addr} {fd : FuncData} {cdv : Value} (hfn : ∀ i, Z.fn i = fnOf' fnT i) (hlm : ∀ j, Z.lm j = lmT j) (hM : TxOk P w K mg base Z tx (M7 Z)) (F : FunC K "rounded" "rounded" s_rounded f fd cdv .none) : FnD P w K mg base Z 3 f (e_rounded) := by
  have nd := sc_rounded.nd
  refine FnD.mk0 (ps := ["value", "places"]) (fn_bodyC F sc_rounded (fun ds S Q E h => ?len) _ (fun A outer s H E hr => (pdss_cons (pds_if (pdt_cmp od_gt (pd_bi hM cd_abs 8 (by rfl) (by rfl) bt_abs (pda_cons (pd_var 1) pda_nil)) (pd_glob hM 0 (by rfl) (by rfl))) (pdss_one (pds_ret (pd_glob hM 3 (by rfl) (by rfl)))) pdss_nil)
    (pdss_cons (pds_asg (pd_var 0) (pdg_tup (n := 2) (by rfl) (pdgs_cons (pdg_name nd (i := 2)) (pdgs_cons (pdg_name nd (i := 3)) pdgs_nil))))
    (pdss_cons (pds_set nd (i := 4) (pd_call hM hr 0 1 (by rfl) (by rfl) (pda_cons (pd_bi hM cd_abs 8 (by rfl) (by rfl) bt_abs (pda_cons (pd_var 1) pda_nil)) pda_nil)))
    (pdss_cons (pds_if (pdt_cmp od_ge (pd_var 1) pd_int) (pdss_one (pds_aug nd (i := 2) (pd_var 4) id_mul)) (pdss_one (pds_aug nd (i := 3) (pd_var 4) id_mul)))
    (pdss_cons (pds_set nd (i := 5) (pd_if (pdt_cmp od_ge (pd_var 2) pd_int) pd_int (pd_op od_sub pd_int pd_int)))
    (pdss_cons (pds_set nd (i := 6) (pd_op od_mul (pd_var 5) (pd_op od_div (pd_op od_add (pd_op od_mul pd_int (pd_bi hM cd_abs 8 (by rfl) (by rfl) bt_abs (pda_cons (pd_var 2) pda_nil))) (pd_var 3)) (pd_op od_mul pd_int (pd_var 3)))))
    (pdss_one (pds_ret (pd_if (pdt_cmp od_ge (pd_var 1) pd_int) (pd_call hM hr 2 2 (by rfl) (by rfl) (pda_cons (pd_var 6) (pda_cons (pd_var 4) pda_nil))) (pd_call hM hr 2 1 (by rfl) (by rfl) (pda_cons (pd_op od_mul (pd_var 6) (pd_var 4)) pda_nil)))))))))))) (fun ds S Q E h => ?hb)) rfl rfl (F.binds fun _ _ _ _ _ _ us hl => match us, hl with | [_, _], _ => rfl)
  case len => obtain ⟨_, _, _, rfl, _⟩ := h; rfl
  case hb =>
    obtain ⟨p, w, n, rfl, ⟨hp, w0, hw⟩, hn, h1⟩ := h
    unfold rndV at h1
    have e200 : (2 : Nat) ^ 300 = 2 ^ 100 * 2 ^ 200 := by rw [← Nat.pow_add]
    have h100 : (2 : Nat) ^ 100 = 1267650600228229401496703205376 := by decide
    have tail : ∀ t l k : Int, k = 10 ^ n.natAbs → n.natAbs ≤ 10 → t.natAbs < 2 ^ 300 → 0 < l → l.natAbs < 2 ^ 300 → Q (vD (if 0 ≤ n then mkNum (rn t l) (10 ^ n.natAbs) else mkNum (rn t l * 10 ^ n.natAbs) 1)) S →
        t_rounded_4 Z (fin Q E) [some (.tup [.int p, .int w]), some (.int n), some (.int t), some (.int l), some (.int k), none, none] S := fun t l k hk hn10 ht l0 hl h2 => by
      subst hk
      have e301 : (2 : Nat) ^ 302 = 2 ^ 300 + 2 ^ 300 + 2 ^ 300 + 2 ^ 300 := by rw [Nat.pow_succ, Nat.pow_succ]; omega
      have s302 : ∀ {i : Int}, i.natAbs < 2 ^ 302 → Sz i := fun h => Nat.lt_of_lt_of_le h (Nat.pow_le_pow_right (by decide) (by decide))
      have two : Sz 2 := s302 (by rw [e301]; omega)
      have hr := rn_abs t l l0
      have h10 : ((10 : Int) ^ n.natAbs).natAbs ≤ 10 ^ 10 := by
        rw [Int.natAbs_pow]
        exact Nat.pow_le_pow_right (by decide) hn10
      have h10p : (0 : Int) < 10 ^ n.natAbs := Int.pow_pos (by decide)
      have hs10 : Sz (10 ^ n.natAbs) := s302 (by rw [e301]; omega)
      have fin1 : t_rounded_6 Z (fin Q E) [some (.tup [.int p, .int w]), some (.int n), some (.int t), some (.int l), some (.int (10 ^ n.natAbs)), some (.int (if 0 ≤ t then 1 else 0 - 1)), some (.int (rn t l))] S := by
        refine ⟨_, rfl, ?_⟩
        refine itd (fun c => ?_) (fun c => ?_)
        · rw [if_pos c] at h2
          exact ⟨_, rfl, ⟨by decide, by decide, by decide, rfl⟩, _, rfl, _, rfl, _, _, rfl, ⟨s302 (by rw [e301]; omega), hs10, fun h => by omega⟩, _, Sub.refl _, h2⟩
        · rw [if_neg c] at h2
          refine ⟨_, rfl, ⟨by decide, by decide, by decide, rfl⟩, _, rfl, _, rfl, mul_sz (s302 (by rw [e301]; omega)) hs10, _, _, rfl, ⟨?_, s302 (by rw [e301]; omega), fun h => by omega⟩, _, Sub.refl _, h2⟩
          refine Nat.lt_of_lt_of_le (m := 2 ^ 302 * 10 ^ 10) ?_ ?_
          · rw [Int.natAbs_mul]
            exact Nat.lt_of_le_of_lt (Nat.mul_le_mul_left _ h10) (Nat.mul_lt_mul_of_pos_right (by omega) (by decide))
          · rw [show (8000 : Nat) = 302 + 7698 from rfl, Nat.pow_add]
            exact Nat.mul_le_mul_left _ (Nat.le_trans (by decide : 10 ^ 10 ≤ 2 ^ 100) (Nat.pow_le_pow_right (by decide) (by decide)))
      have mid : t_rounded_5 Z (fin Q E) [some (.tup [.int p, .int w]), some (.int n), some (.int t), some (.int l), some (.int (10 ^ n.natAbs)), some (.int (if 0 ≤ t then 1 else 0 - 1)), none] S := by
        unfold rn at fin1
        rw [← abs_if] at fin1
        refine ⟨_, rfl, _, rfl, ?_, _, rfl, _, rfl, ?_, ?_, ?_, fin1⟩
        · refine mul_sz two (s302 ?_)
          rw [abs_if, Int.natAbs_natCast, e301]; omega
        · exact mul_sz two (s302 (by rw [e301]; omega))
        · exact div_pos (by omega) (s302 (by rw [e301]; omega))
        · refine mulL ?_
          split <;> decide
      refine ⟨_, rfl, ?_⟩
      by_cases c : 0 ≤ t
      · rw [if_pos c] at mid
        exact itd (fun _ => mid) (fun z => absurd c z)
      · rw [if_neg c] at mid
        exact itd (fun z => absurd z c) (fun _ => mid)
    refine ⟨_, rfl, ?_⟩
    refine itd (fun c => ?_) (fun c => ?_)
    · rw [if_pos (by rw [abs_if] at c; omega)] at h1
      exact ⟨_, Sub.refl _, h1⟩
    rw [abs_if] at c
    have hn30 : ¬ 30 < n.natAbs := by omega
    rw [if_neg hn30] at h1
    have hn10 : n.natAbs ≤ 10 := by omega
    have h10 : ((10 : Int) ^ n.natAbs).natAbs ≤ 10 ^ 10 := by
      rw [Int.natAbs_pow]
      exact Nat.pow_le_pow_right (by decide) hn10
    have h10p : (0 : Int) < 10 ^ n.natAbs := Int.pow_pos (by decide)
    have cm : ∀ i : Int, CMul i (10 ^ n.natAbs) := fun i => .inr (by constructor <;> omega)
    have mul3 : ∀ {i : Int}, i.natAbs < 2 ^ 200 → (i * 10 ^ n.natAbs).natAbs < 2 ^ 300 := fun {i} h => by
      rw [Int.natAbs_mul, e200, Nat.mul_comm]
      exact Nat.mul_lt_mul'' (by omega) h
    have lt3 : ∀ {i : Int}, i.natAbs < 2 ^ 200 → i.natAbs < 2 ^ 300 := fun h => by omega
    refine ⟨_, rfl, rfl, rfl, ?_⟩
    refine ⟨_, rfl, ⟨by decide, by decide, by decide, rfl⟩, _, rfl, n.natAbs, by rw [abs_if]; rfl, by omega, ?_⟩
    refine ⟨_, rfl, ?_⟩
    refine itd (fun c => ?_) (fun c => ?_)
    · refine ⟨_, rfl, _, rfl, cm _, ?_⟩
      exact tail _ _ _ rfl hn10 (mul3 hp) w0 (lt3 hw) (by rw [if_pos c] at h1 ⊢; exact h1)
    · refine ⟨_, rfl, _, rfl, cm _, ?_⟩
      exact tail _ _ _ rfl hn10 (lt3 hp) (Int.mul_pos w0 h10p) (mul3 hw) (by rw [if_neg c] at h1 ⊢; exact h1)

theorem ok_Format___init__ {P : Program} {w : World} {K : PySem.W.Frag} {mg : Str → Option Value} {base : Heap} {Z : Zt} {f : Addr} {fd : FuncData} {cdv dV : Value} (hfn : ∀ i, Z.fn i = fnOf' fnT i) (hlm : ∀ j, Z.lm j = lmT j) (hM : TxOk P w K mg base Z tx (M8 Z)) (F : FunC K "__init__" "Format.__init__" s_Format___init__ f fd cdv dV) (hkp : PySem.W.keepIn K (.ref f) = true) {dvs : List V} (hdl : dvs.length = 2) (hdD : DflV K dV dvs) (hdV : ∀ H, DVs K H (e_Format___init__).dfl dvs) {cA PA : Addr} (hcd : cdv = .ref cA) (hTB : GxR.TabB base mg cA PA) (hTm : PA ∈ Z.T) (hTn : ∀ p ∈ Z.TL, p.1 ≠ PA) : FnD P w K mg base Z 1 f (e_Format___init__) := by
  have nd := sc_Format___init__.nd
  have T : ∀ (A : Around) (outer : List Env) (s : Shared) (H : Hp) (E : XK), TabD (cxOf (L2.CX P w) P w K mg base ["self", "head", "least", "parted", "places", "tail", "share", "signed"] "Format.__init__" (defScope s_Format___init__) f cdv A outer s H E) Z cA PA := fun A outer s H E => ⟨hTB, hcd, hTm, hTn⟩
  have hdne : dvs ≠ [] := fun z => by rw [z] at hdl; cases hdl
  refine FnD.mkD (ps := ["self", "head", "least", "parted", "places", "tail", "share", "signed"]) (dvs := dvs) (fn_bodyC F sc_Format___init__ (fun ds S Q E h => ?len) _ (fun A outer s H E hr => (pdss_cons (pds_if (PDW.pt (pdw_or (pdt_not (pdt_chain pd_int (pdcht_c od_le (pd_var 2) (pdcht_1 od_le (pd_glob hM 4 (by rfl) (by rfl)))))) (pdw_or (pdt_not (pdt_chain pd_int (pdcht_c od_le (pd_var 4) (pdcht_1 od_le (pd_glob hM 4 (by rfl) (by rfl)))))) (pdw_or1 (pdt_tru (pd_anyG hM 1 (by rfl) hr (by rfl) (T A outer s H E) (genS_by (by decide +kernel)) (pd_op od_add (pd_var 1) (pd_var 5)) (elt_in_lit rfl rfl))))))) (pdss_one (pds_raise hM 0 (by rfl) (by rfl) (by rfl))) pdss_nil)
    (pdss_cons (pds_fld hM 0 ((hfn 0).trans rfl) (pd_var 0) (pd_var 1))
    (pdss_cons (pds_fld hM 1 ((hfn 1).trans rfl) (pd_var 0) (pd_var 2))
    (pdss_cons (pds_fld hM 2 ((hfn 2).trans rfl) (pd_var 0) (pd_var 3))
    (pdss_cons (pds_fld hM 3 ((hfn 3).trans rfl) (pd_var 0) (pd_var 4))
    (pdss_cons (pds_fld hM 4 ((hfn 4).trans rfl) (pd_var 0) (pd_var 5))
    (pdss_cons (pds_fld hM 5 ((hfn 5).trans rfl) (pd_var 0) (pd_var 6))
    (pdss_one (pds_fld hM 6 ((hfn 6).trans rfl) (pd_var 0) (pd_var 7))))))))))) (fun ds S Q E h => ?hb)) rfl hdV hdl.symm (fun m hm => match m, (hdl ▸ hm : m ≤ 2) with | 0, _ => (F.toD hkp hdD).binds1 6 0 hdne (by rw [hdl] <;> rfl) (fun _ _ _ _ _ _ _ us its hl hl2 => match us, hl, its, hl2.trans hdl with | [_, _, _, _, _, _], _, [_, _], _ => ⟨_, rfl, rfl⟩) | 1, _ => (F.toD hkp hdD).binds1 7 1 hdne (by rw [hdl] <;> rfl) (fun _ _ _ _ _ _ _ us its hl hl2 => match us, hl, its, hl2.trans hdl with | [_, _, _, _, _, _, _], _, [_, _], _ => ⟨_, rfl, rfl⟩) | 2, _ => (F.toD hkp hdD).binds1 8 2 hdne (by rw [hdl] <;> rfl) (fun _ _ _ _ _ _ _ us its hl hl2 => match us, hl, its, hl2.trans hdl with | [_, _, _, _, _, _, _, _], _, [_, _], _ => ⟨_, rfl, rfl⟩) | n + 3, hm => absurd hm (by omega))
  case len => obtain ⟨_, _, _, _, _, _, _, _, rfl, _⟩ := h; rfl
  case hb =>
    obtain ⟨p, h, tl, least, places, parted, share, signed, rfl, hp, hz, h1, h2⟩ := h
    have bad : fmOk h least places tl = false → (fin Q E).ex 0 [some (.ref p), some (.str ⟨h.toArray⟩), some (.int least), some (.bl parted), some (.int places), some (.str ⟨tl.toArray⟩), some (.bl share), some (.bl signed)] S := fun e => ⟨_, Sub.refl _, h2 e⟩
    unfold fmOk at h1 bad
    refine ⟨_, rfl, ?_⟩
    refine itd (fun c1 => ?_) (fun c1 => bad (by rw [decide_eq_false (fun q => c1 q.1)]; rfl))
    refine itn (fun c2 => bad (by rw [decide_eq_false (fun q => c2 q.2)]; rfl)) (fun c2 => ?_)
    rw [decide_eq_true (⟨c1, c2⟩ : 0 ≤ least ∧ least ≤ 10)] at h1 bad
    refine ⟨_, rfl, ?_⟩
    refine itd (fun c3 => ?_) (fun c3 => bad (by rw [decide_eq_false (fun q => c3 q.1)]; rfl))
    refine itn (fun c4 => bad (by rw [decide_eq_false (fun q => c4 q.2)]; rfl)) (fun c4 => ?_)
    rw [decide_eq_true (⟨c3, c4⟩ : 0 ≤ places ∧ places ≤ 10)] at h1 bad
    refine ⟨_, rfl, _, rfl, sh2 (by omega), ?_⟩
    rw [cat_mk]
    refine itb (fun c5 => bad (by rw [show ((h ++ tl).any fun c => decide (c ∈ ("0#,." : Str).cps.toList)) = true from c5]; rfl)) (fun c5 => ?_)
    have h1 := h1 (by rw [show ((h ++ tl).any fun c => decide (c ∈ ("0#,." : Str).cps.toList)) = false from c5]; rfl)
    refine ⟨_, rfl, _, rfl, _, _, _, rfl, hp, rfl, by decide, ?_⟩
    refine ⟨_, rfl, _, rfl, _, _, _, rfl, put_same, rfl, by show 1 < 900; decide, ?_⟩
    refine ⟨_, rfl, _, rfl, _, _, _, rfl, put_same, rfl, by show 2 < 900; decide, ?_⟩
    refine ⟨_, rfl, _, rfl, _, _, _, rfl, put_same, rfl, by show 3 < 900; decide, ?_⟩
    refine ⟨_, rfl, _, rfl, _, _, _, rfl, put_same, rfl, by show 4 < 900; decide, ?_⟩
    refine ⟨_, rfl, _, rfl, _, _, _, rfl, put_same, rfl, by show 5 < 900; decide, ?_⟩
    refine ⟨_, rfl, _, rfl, _, _, _, rfl, put_same, rfl, by show 6 < 900; decide, ?_⟩
    refine ⟨_, Sub.refl _, ?_⟩
    rw [put_put, put_put, put_put, put_put, put_put, put_put]
    have e1 : ((least.toNat : Nat) : Int) = least := by omega
    have e2 : ((places.toNat : Nat) : Int) = places := by omega
    unfold fF at h1
    dsimp only at h1
    rw [e1, e2] at h1
    exact h1

theorem ok_parted_figures {P : Program} {w : World} {K : PySem.W.Frag} {mg : Str → Option Value} {base : Heap} {Z : Zt} {f : Addr} {fd : FuncData} {cdv : Value} (hfn : ∀ i, Z.fn i = fnOf' fnT i) (hlm : ∀ j, Z.lm j = lmT j) (hM : TxOk P w K mg base Z tx (M9 Z)) (F : FunC K "parted_figures" "parted_figures" s_parted_figures f fd cdv .none) : FnD P w K mg base Z 1 f (e_parted_figures) := by
  have nd := sc_parted_figures.nd
  refine FnD.mk0 (ps := ["figures"]) (fn_bodyC F sc_parted_figures (fun ds S Q E h => ?len) _ (fun A outer s H E hr => (pdss_cons (pds_set nd (i := 1) (pd_if (pdt_cmp od_gt (pd_bi hM cd_len 0 (by rfl) (by rfl) bt_len (pda_cons (pd_var 0) pda_nil)) pd_int) (pd_slice (pd_var 0) (pdo_some (pd_op od_sub (pd_bi hM cd_len 0 (by rfl) (by rfl) bt_len (pda_cons (pd_var 0) pda_nil)) pd_int)) pdo_none) (pd_var 0)))
    (pdss_cons (pds_set nd (i := 2) (pd_if (pdt_cmp od_gt (pd_bi hM cd_len 0 (by rfl) (by rfl) bt_len (pda_cons (pd_var 0) pda_nil)) pd_int) (pd_slice (pd_var 0) pdo_none (pdo_some (pd_op od_sub (pd_bi hM cd_len 0 (by rfl) (by rfl) bt_len (pda_cons (pd_var 0) pda_nil)) pd_int))) pd_str))
    (pdss_cons (pds_while (sts := []) (passes_of rfl) (pdt_cmp (od_ne (hu64 hr)) (pd_var 2) pd_str) (pdss_cons (pds_set nd (i := 3) (pd_if (pdt_cmp od_gt (pd_bi hM cd_len 0 (by rfl) (by rfl) bt_len (pda_cons (pd_var 2) pda_nil)) pd_int) (pd_slice (pd_var 2) (pdo_some (pd_op od_sub (pd_bi hM cd_len 0 (by rfl) (by rfl) bt_len (pda_cons (pd_var 2) pda_nil)) pd_int)) pdo_none) (pd_var 2)))
    (pdss_cons (pds_set nd (i := 2) (pd_if (pdt_cmp od_gt (pd_bi hM cd_len 0 (by rfl) (by rfl) bt_len (pda_cons (pd_var 2) pda_nil)) pd_int) (pd_slice (pd_var 2) pdo_none (pdo_some (pd_op od_sub (pd_bi hM cd_len 0 (by rfl) (by rfl) bt_len (pda_cons (pd_var 2) pda_nil)) pd_int))) pd_str))
    (pdss_one (pds_set nd (i := 1) (pd_op od_add (pd_op od_add (pd_var 3) pd_str) (pd_var 1)))))))
    (pdss_one (pds_ret (pd_var 1))))))) (fun ds S Q E h => ?hb)) rfl rfl (F.binds fun _ _ _ _ _ _ us hl => match us, hl with | [_], _ => rfl)
  case len => obtain ⟨_, rfl, _⟩ := h; rfl
  case hb =>
    obtain ⟨t, rfl, ht, h1⟩ := h
    have L2' : ∀ (l f : List Nat), f.length + 2 * l.length ≤ 1300 → partL t = (if l = [] then f else partL l ++ 44 :: f) → t_parted_figures_2 Z (fin Q E) [some (.str ⟨t.toArray⟩), some (.str ⟨f.toArray⟩), some (.str ⟨l.toArray⟩), none] S := fun l f hlf hpl => by
      refine ⟨fun m r S' => ∃ (l f : List Nat) (o3 : Option D), m = l.length ∧ f.length + 2 * l.length ≤ 1300 ∧ partL t = (if l = [] then f else partL l ++ 44 :: f) ∧ r = [some (.str ⟨t.toArray⟩), some (.str ⟨f.toArray⟩), some (.str ⟨l.toArray⟩), o3] ∧ S' = S, ⟨_, l, f, none, rfl, hlf, hpl, rfl, rfl⟩, ?_⟩
      rintro m r S' ⟨l, f, o3, rfl, hlf, hpl, rfl, rfl⟩
      refine ⟨_, rfl, ?_⟩
      have ee : ("" : Str) = ⟨([] : List Nat).toArray⟩ := rfl
      refine itn (fun c => ?_) (fun c => ?_)
      · rw [ee, mk_inj] at c
        rw [if_neg c] at hpl
        have hl0 : 0 < l.length := List.length_pos_iff.mpr c
        refine ⟨_, rfl, sh (by omega), ?_⟩
        rw [len_mk]
        refine itd (fun c3 => ?_) (fun c3 => ?_)
        · have c3' : 3 < l.length := by omega
          refine ⟨_, rfl, _, rfl, sh (by omega), sh (by omega), ?_⟩
          rw [len_mk, cut3_from c3']
          refine ⟨_, rfl, sh (by omega), ?_⟩
          rw [len_mk]
          refine itd (fun _ => ?_) (fun z => absurd c3 z)
          refine ⟨_, rfl, _, rfl, sh (by omega), sh (by omega), ?_⟩
          rw [len_mk, cut3_to c3']
          have ld : (l.drop (l.length - 3)).length = 3 := by rw [List.length_drop]; omega
          have lt : (l.take (l.length - 3)).length = l.length - 3 := by rw [List.length_take]; omega
          rw [partL_big c3', List.append_assoc] at hpl
          generalize l.drop (l.length - 3) = dr at *
          have hne : l.take (l.length - 3) ≠ [] := by intro z; rw [z] at lt; simp at lt; omega
          generalize hTk : l.take (l.length - 3) = tk at *
          have ec : (",": Str) = ⟨[44].toArray⟩ := rfl
          refine ⟨_, rfl, sh2 (m := [44]) (by simp; omega), _, rfl, ?_⟩
          rw [ec, cat_mk]
          refine ⟨sh2 (by simp; omega), ?_⟩
          rw [cat_mk]
          refine ⟨_, tk.length, Sub.refl _, by omega, tk, dr ++ [44] ++ f, _, rfl, ?_, ?_, rfl, rfl⟩
          · simp; omega
          · rw [if_neg hne, hpl]
            simp
        · have c3' : l.length ≤ 3 := by omega
          refine ⟨_, rfl, ?_⟩
          refine ⟨_, rfl, sh (by omega), ?_⟩
          rw [len_mk]
          refine itd (fun z => absurd z c3) (fun _ => ?_)
          rw [partL_small c3'] at hpl
          have ec : (",": Str) = ⟨[44].toArray⟩ := rfl
          refine ⟨_, rfl, sh2 (m := [44]) (by simp; omega), _, rfl, ?_⟩
          rw [ec, cat_mk]
          refine ⟨sh2 (by simp; omega), ?_⟩
          rw [cat_mk]
          refine ⟨_, 0, Sub.refl _, by omega, [], l ++ [44] ++ f, _, rfl, ?_, ?_, rfl, rfl⟩
          · simp; omega
          · rw [if_pos rfl, hpl]
            simp
      · rw [ee, mk_inj] at c
        rw [if_pos c] at hpl
        rw [hpl] at h1
        exact ⟨_, rfl, _, Sub.refl _, h1⟩
    refine ⟨_, rfl, sh (by omega), ?_⟩
    rw [len_mk]
    refine itd (fun c3 => ?_) (fun c3 => ?_)
    · have c3' : 3 < t.length := by omega
      refine ⟨_, rfl, _, rfl, sh (by omega), sh (by omega), ?_⟩
      rw [len_mk, cut3_from c3']
      refine ⟨_, rfl, sh (by omega), ?_⟩
      rw [len_mk]
      refine itd (fun _ => ?_) (fun z => absurd c3 z)
      refine ⟨_, rfl, _, rfl, sh (by omega), sh (by omega), ?_⟩
      rw [len_mk, cut3_to c3']
      have lt : (t.take (t.length - 3)).length = t.length - 3 := by rw [List.length_take]; omega
      refine L2' _ _ ?_ ?_
      · rw [lt, List.length_drop]; omega
      · rw [if_neg (by intro z; rw [z] at lt; simp at lt; omega)]
        exact partL_big c3'
    · have c3' : t.length ≤ 3 := by omega
      refine ⟨_, rfl, ?_⟩
      refine ⟨_, rfl, sh (by omega), ?_⟩
      rw [len_mk]
      refine itd (fun z => absurd z c3) (fun _ => ?_)
      have ee : ("" : Str) = ⟨([] : List Nat).toArray⟩ := rfl
      exact L2' [] t (by simp; omega) (by rw [if_pos rfl]; exact partL_small c3')

theorem ok_Format_text {P : Program} {w : World} {K : PySem.W.Frag} {mg : Str → Option Value} {base : Heap} {Z : Zt} {f : Addr} {fd : FuncData} {cdv : Value} (hfn : ∀ i, Z.fn i = fnOf' fnT i) (hlm : ∀ j, Z.lm j = lmT j) (hM : TxOk P w K mg base Z tx (M10 Z)) (F : FunC K "text" "Format.text" s_Format_text f fd cdv .none) : FnD P w K mg base Z 4 f (e_Format_text) := by
  have nd := sc_Format_text.nd
  refine FnD.mk0 (ps := ["self", "value"]) (fn_bodyC F sc_Format_text (fun ds S Q E h => ?len) _ (fun A outer s H E hr => (pdss_cons (pds_if (pdt_not (pdt_tru (pd_call hM hr 4 1 (by rfl) (by rfl) (pda_cons (pd_var 1) pda_nil)))) (pdss_one (pds_ret (pd_if (pdt_tru (pd_isi "tuple" (by simp) hM 9 10 (by rfl) (by rfl) (by rfl) (by rfl) bt_isinstance bt_tuple (pd_var 1))) (pd_op od_add pd_str (pd_ix (pd_var 1) pd_int)) (pd_call hM hr 6 1 (by rfl) (by rfl) (pda_cons (pd_var 1) pda_nil))))) pdss_nil)
    (pdss_cons (pds_if (pdt_tru (pd_fld hM 5 ((hfn 5).trans rfl) (pd_var 0))) (pdss_one (pds_set nd (i := 1) (pd_call hM hr 2 2 (by rfl) (by rfl) (pda_cons (pd_op od_mul (pd_ix (pd_var 1) pd_int) pd_int) (pda_cons (pd_ix (pd_var 1) pd_int) pda_nil))))) pdss_nil)
    (pdss_cons (pds_set nd (i := 2) (pd_if (pdt_tru (pd_call hM hr 4 1 (by rfl) (by rfl) (pda_cons (pd_var 1) pda_nil))) (pd_call hM hr 7 2 (by rfl) (by rfl) (pda_cons (pd_var 1) (pda_cons (pd_fld hM 3 ((hfn 3).trans rfl) (pd_var 0)) pda_nil))) (pd_var 1)))
    (pdss_cons (pds_if (pdt_not (pdt_tru (pd_call hM hr 4 1 (by rfl) (by rfl) (pda_cons (pd_var 2) pda_nil)))) (pdss_one (pds_ret pd_str)) pdss_nil)
    (pdss_cons (pds_set nd (i := 3) (pd_call hM hr 0 1 (by rfl) (by rfl) (pda_cons (pd_fld hM 3 ((hfn 3).trans rfl) (pd_var 0)) pda_nil)))
    (pdss_cons (pds_set nd (i := 4) (pd_ty hM cd_str 2 (by rfl) (by rfl) bt_str (pda_cons (pd_op od_mul (pd_bi hM cd_abs 8 (by rfl) (by rfl) bt_abs (pda_cons (pd_ix (pd_var 2) pd_int) pda_nil)) (pd_op od_div (pd_var 3) (pd_ix (pd_var 2) pd_int))) pda_nil)))
    (pdss_cons (pds_set nd (i := 4) (pd_op od_add (pd_op od_mul pd_str (pd_bi hM (cd_max (by rfl)) 7 (by rfl) (by rfl) bt_max (pda_cons pd_int (pda_cons (pd_op od_sub (pd_op od_add (pd_fld hM 3 ((hfn 3).trans rfl) (pd_var 0)) pd_int) (pd_bi hM cd_len 0 (by rfl) (by rfl) bt_len (pda_cons (pd_var 4) pda_nil))) pda_nil)))) (pd_var 4)))
    (pdss_cons (pds_par2 (i := 5) (j := 6) (by rfl) nd (pda_cons (pd_slice (pd_var 4) pdo_none (pdo_some (pd_op od_sub (pd_bi hM cd_len 0 (by rfl) (by rfl) bt_len (pda_cons (pd_var 4) pda_nil)) (pd_fld hM 3 ((hfn 3).trans rfl) (pd_var 0))))) (pda_cons (pd_slice (pd_var 4) (pdo_some (pd_op od_sub (pd_bi hM cd_len 0 (by rfl) (by rfl) bt_len (pda_cons (pd_var 4) pda_nil)) (pd_fld hM 3 ((hfn 3).trans rfl) (pd_var 0)))) pdo_none) pda_nil)) (by rfl))
    (pdss_cons (pds_set nd (i := 5) (pd_if (PDW.pt (pdw_and (pdt_cmp (od_eq (hu64 hr)) (pd_var 5) pd_str) (pdw_and1 (pdt_cmp (od_eq (hu64 hr)) (pd_fld hM 1 ((hfn 1).trans rfl) (pd_var 0)) pd_int)))) pd_str (pd_op od_add (pd_op od_mul pd_str (pd_bi hM (cd_max (by rfl)) 7 (by rfl) (by rfl) bt_max (pda_cons pd_int (pda_cons (pd_op od_sub (pd_fld hM 1 ((hfn 1).trans rfl) (pd_var 0)) (pd_bi hM cd_len 0 (by rfl) (by rfl) bt_len (pda_cons (pd_var 5) pda_nil))) pda_nil)))) (pd_var 5))))
    (pdss_cons (pds_set nd (i := 5) (pd_if (pdt_tru (pd_fld hM 2 ((hfn 2).trans rfl) (pd_var 0))) (pd_call hM hr 9 1 (by rfl) (by rfl) (pda_cons (pd_var 5) pda_nil)) (pd_var 5)))
    (pdss_cons (pds_set nd (i := 7) (pd_if (pdt_cmp od_lt (pd_ix (pd_var 2) pd_int) pd_int) pd_str (pd_if (PDW.pt (pdw_and (pdt_tru (pd_fld hM 6 ((hfn 6).trans rfl) (pd_var 0))) (pdw_and1 (pdt_cmp od_gt (pd_ix (pd_var 2) pd_int) pd_int)))) pd_str pd_str)))
    (pdss_one (pds_ret (pd_op od_add (pd_op od_add (pd_op od_add (pd_op od_add (pd_var 7) (pd_fld hM 0 ((hfn 0).trans rfl) (pd_var 0))) (pd_var 5)) (pd_if (pdt_cmp od_gt (pd_fld hM 3 ((hfn 3).trans rfl) (pd_var 0)) pd_int) (pd_op od_add pd_str (pd_var 6)) pd_str)) (pd_fld hM 4 ((hfn 4).trans rfl) (pd_var 0))))))))))))))))) (fun ds S Q E h => ?hb)) rfl rfl (F.binds fun _ _ _ _ _ _ us hl => match us, hl with | [_, _], _ => rfl)
  case len => obtain ⟨_, _, _, rfl, _⟩ := h; rfl
  case hb =>
    obtain ⟨a, m, v, rfl, ha, hv, hw, hlen, hle, hpl, h1⟩ := h
    have fld : ∀ {f : Nat} {d : D} {T : D → Prop}, tx.fl 0 f = true → lk (fF m) f = some d → T d → ∃ (a' : Addr) (c : Nat) (fs : List (Nat × D)) (d' : D), D.ref a = .ref a' ∧ S a' = some (.ins c fs) ∧ tx.fl c f = true ∧ lk fs f = some d' ∧ T d' := fun h1 h2 h3 => ⟨a, 0, fF m, _, rfl, ha, h1, h2, h3⟩
    cases v with
    | non => exact ⟨_, rfl, ⟨by decide, by decide, by decide, rfl⟩, _, rfl, .non, rfl, _, rfl, rfl, _, rfl, ⟨by decide, by decide, by decide, rfl⟩, _, rfl, .non, rfl, trivial, _, Sub.refl _, h1⟩
    | bl b =>
      refine ⟨_, rfl, ⟨by decide, by decide, by decide, rfl⟩, _, rfl, .bl b, rfl, _, rfl, rfl, _, rfl, ⟨by decide, by decide, by decide, rfl⟩, _, rfl, .bl b, rfl, trivial, _, Sub.refl _, ?_⟩
      cases b <;> exact h1
    | str s =>
      refine ⟨_, rfl, ⟨by decide, by decide, by decide, rfl⟩, _, rfl, .str s, rfl, _, rfl, rfl, _, rfl, ⟨by decide, by decide, by decide, rfl⟩, _, rfl, .str s, rfl, hv, _, Sub.refl _, ?_⟩
      have h1 : Q (.str ⟨s.cps.toList.toArray⟩) S := h1
      rw [str_eta] at h1
      exact h1
    | wr s =>
      refine ⟨_, rfl, ⟨by decide, by decide, by decide, rfl⟩, _, rfl, .wr s, rfl, _, rfl, rfl, _, rfl, _, rfl, ?_, _, Sub.refl _, ?_⟩
      · have := hw s rfl
        show 1 + s.length ≤ sizeLine
        rw [sizeLine_eq]; omega
      · have h1 : Q (.str ⟨([35] ++ s.cps.toList).toArray⟩) S := h1
        rw [← cat_mk, str_eta] at h1
        exact h1
    | num p w =>
      refine ⟨_, rfl, ⟨by decide, by decide, by decide, rfl⟩, _, rfl, .num p w, rfl, ?_⟩
      have L4 : ∀ (u1 : Option D) (x y : Int), SzV (.num x y) → Q (.str ⟨(shownP m x y).toArray⟩) S → t_Format_text_4 Z (fin Q E) [some (.ref a), u1, some (.tup [.int x, .int y]), none, none, none, none, none] S := fun u1 x y ⟨hx, y0, hy⟩ h1 => by
        unfold shownP at h1
        refine ⟨_, rfl, ⟨by decide, by decide, by decide, rfl⟩, _, rfl, _, _, _, _, rfl, ha, rfl, rfl, m.places, rfl, by omega, ?_⟩
        have hp10 : (0 : Int) ≤ 10 ^ m.places := Int.le_of_lt (Int.pow_pos (by decide))
        have q0 := Int.ediv_nonneg hp10 (by omega : 0 ≤ y)
        have q1 := Int.ediv_le_self y hp10
        have q2 : (10 : Int) ^ m.places ≤ 10 ^ 12 := by
          have : (10 : Nat) ^ m.places ≤ 10 ^ 12 := Nat.pow_le_pow_right (by decide) (by omega)
          exact_mod_cast this
        have efd : (10 ^ m.places : Int).fdiv y = 10 ^ m.places / y := Int.fdiv_eq_ediv_of_nonneg _ (by omega)
        have q3 : ((10 ^ m.places : Int) / y).toNat ≤ 10 ^ 12 := by omega
        have hq : x.natAbs * ((10 ^ m.places : Int) / y).toNat < 2 ^ 260 := Nat.lt_of_le_of_lt (Nat.mul_le_mul (Nat.le_of_lt hx) q3) (by decide +kernel)
        have ei : (if x < 0 then -x else x) * ((10 ^ m.places : Int).fdiv y) = ((x.natAbs * ((10 ^ m.places : Int) / y).toNat : Nat) : Int) := by
          rw [abs_if, efd, Int.natCast_mul, Int.toNat_of_nonneg q0]
        have lq := natD_len200 hq
        refine ⟨_, rfl, _, rfl, _, rfl, _, rfl, _, rfl, div_pos y0 (sz200 hy), ?_, ?_, ?_⟩
        · refine mul_sz (sz200 (by rw [abs_if, Int.natAbs_natCast]; exact hx)) ?_
          rw [efd]
          exact sz200 (Nat.lt_of_le_of_lt (m := 10 ^ 12) (by omega) (by decide))
        · rw [ei]
          exact Nat.lt_trans (log2_of_lt (k := 260) (by rw [Int.natAbs_natCast]; exact hq) (by decide)) (by decide)
        rw [ei]
        have e1 : (Str.ofString (toString ((x.natAbs * ((10 ^ m.places : Int) / y).toNat : Nat) : Int))) = ⟨(natD (x.natAbs * ((10 ^ m.places : Int) / y).toNat)).toArray⟩ := toString_nat' _
        rw [e1]
        clear e1 ei hq
        generalize natD (x.natAbs * ((10 ^ m.places : Int) / y).toNat) = dg at *
        show t_Format_text_6 Z (fin Q E) [some (.ref a), u1, some (.tup [.int x, .int y]), some (.int (10 ^ m.places)), some (.str ⟨dg.toArray⟩), none, none, none] S
        have hb6 : -1000 ≤ ((m.places : Nat) : Int) + 1 - ((dg.length : Nat) : Int) ∧ ((m.places : Nat) : Int) + 1 - ((dg.length : Nat) : Int) ≤ 1000 := by omega
        have hn6 : (if ((m.places : Nat) : Int) + 1 - ((dg.length : Nat) : Int) > 0 then ((m.places : Nat) : Int) + 1 - ((dg.length : Nat) : Int) else 0).toNat = m.places + 1 - dg.length := by rw [max0]; omega
        refine ⟨_, rfl, _, _, _, _, rfl, ha, rfl, rfl, _, rfl, sh (by omega), ?_⟩
        dsimp only [opSub, opAdd, G.rMax, dNil]
        rw [len_mk]
        refine ⟨rep_ok (max0b hb6), _, rfl, ?_, ?_⟩
        · rw [rep_len hn6, len_mk, sizeLine_eq]; omega
        rw [rep_eq hn6]
        have lp2 : (padL m.places dg).length ≤ 100 ∧ m.places ≤ (padL m.places dg).length := by
          unfold padL
          rw [List.length_append, List.length_replicate]
          omega
        show t_Format_text_7 Z (fin Q E) [some (.ref a), u1, some (.tup [.int x, .int y]), some (.int (10 ^ m.places)), some (.str ⟨(padL m.places dg).toArray⟩), none, none, none] S
        generalize padL m.places dg = pg at *
        clear hb6 hn6
        refine ⟨_, rfl, _, rfl, sh (by omega), _, rfl, _, _, _, _, rfl, ha, rfl, rfl, sh (by omega), _, rfl, _, rfl, sh (by omega), _, rfl, _, _, _, _, rfl, ha, rfl, rfl, sh (by omega), ?_⟩
        rw [len_mk, cutN_to lp2.2, cutN_from lp2.2]
        have lwh : (pg.take (pg.length - m.places)).length ≤ 100 := by rw [List.length_take]; omega
        have lre : (pg.drop (pg.length - m.places)).length ≤ 100 := by rw [List.length_drop]; omega
        generalize pg.take (pg.length - m.places) = wh at *
        generalize pg.drop (pg.length - m.places) = re at *
        show t_Format_text_8 Z (fin Q E) [some (.ref a), u1, some (.tup [.int x, .int y]), some (.int (10 ^ m.places)), some (.str ⟨pg.toArray⟩), some (.str ⟨wh.toArray⟩), some (.str ⟨re.toArray⟩), none] S
        have L11 : ∀ (w3 sg : List Nat), w3.length ≤ 400 → sg.length ≤ 1 → Q (.str ⟨(sg ++ m.head ++ w3 ++ (if 0 < m.places then 46 :: re else []) ++ m.tail).toArray⟩) S → t_Format_text_11 Z (fin Q E) [some (.ref a), u1, some (.tup [.int x, .int y]), some (.int (10 ^ m.places)), some (.str ⟨pg.toArray⟩), some (.str ⟨w3.toArray⟩), some (.str ⟨re.toArray⟩), some (.str ⟨sg.toArray⟩)] S := fun w3 sg hw3 hsg h1 => by
          refine ⟨_, rfl, _, rfl, _, _, _, _, rfl, ha, rfl, rfl, sh2 (by omega), _, rfl, ?_⟩
          rw [cat_mk]
          refine ⟨sh2 (by simp; omega), _, rfl, _, _, _, _, rfl, ha, rfl, rfl, ?_⟩
          rw [cat_mk]
          refine itd (fun c => ?_) (fun c => ?_)
          · rw [if_pos (by omega)] at h1
            refine ⟨_, rfl, sh2 (l := [46]) (by simp; omega), ?_⟩
            rw [show ((("." : Str)) ++ ⟨re.toArray⟩) = (⟨(46 :: re).toArray⟩ : Str) from cat_mk [46] re]
            refine ⟨sh2 (by simp; omega), _, rfl, _, _, _, _, rfl, ha, rfl, rfl, ?_⟩
            rw [cat_mk]
            refine ⟨sh2 (by simp; omega), _, Sub.refl _, ?_⟩
            rw [cat_mk]
            exact h1
          · rw [if_neg (by omega)] at h1
            refine ⟨sh2 (m := []) (by simp; omega), _, rfl, _, _, _, _, rfl, ha, rfl, rfl, ?_⟩
            rw [show ((⟨(sg ++ m.head ++ w3).toArray⟩ : Str) ++ (("" : Str))) = ⟨(sg ++ m.head ++ w3 ++ []).toArray⟩ from cat_mk _ []]
            refine ⟨sh2 (by simp; omega), _, Sub.refl _, ?_⟩
            rw [cat_mk]
            exact h1
        have L10 : ∀ w3 : List Nat, w3.length ≤ 400 → Q (.str ⟨((if x < 0 then [45] else if m.signed = true ∧ 0 < x then [43] else []) ++ m.head ++ w3 ++ (if 0 < m.places then 46 :: re else []) ++ m.tail).toArray⟩) S → t_Format_text_10 Z (fin Q E) [some (.ref a), u1, some (.tup [.int x, .int y]), some (.int (10 ^ m.places)), some (.str ⟨pg.toArray⟩), some (.str ⟨w3.toArray⟩), some (.str ⟨re.toArray⟩), none] S := fun w3 hw3 h1 => by
          refine ⟨_, rfl, _, rfl, ?_⟩
          refine itd (fun c => ?_) (fun c => ?_)
          · rw [if_pos c] at h1
            exact L11 w3 [45] hw3 (by simp) h1
          rw [if_neg c] at h1
          refine ⟨_, rfl, _, _, _, _, rfl, ha, rfl, rfl, ?_⟩
          refine itb (fun c2 => ?_) (fun c2 => ?_)
          · refine ⟨_, rfl, _, rfl, ?_⟩
            refine itd (fun c3 => ?_) (fun c3 => ?_)
            · rw [if_pos ⟨c2, c3⟩] at h1
              exact L11 w3 [43] hw3 (by simp) h1
            · rw [if_neg (show ¬ (m.signed = true ∧ 0 < x) from fun z => c3 z.2)] at h1
              exact L11 w3 [] hw3 (by simp) h1
          · rw [if_neg (show ¬ (m.signed = true ∧ 0 < x) from fun z => by rw [c2] at z; exact absurd z.1 (by decide))] at h1
            exact L11 w3 [] hw3 (by simp) h1
        have L9 : ∀ w2 : List Nat, w2.length ≤ 150 → Q (.str ⟨((if x < 0 then [45] else if m.signed = true ∧ 0 < x then [43] else []) ++ m.head ++ (if m.parted = true then partL w2 else w2) ++ (if 0 < m.places then 46 :: re else []) ++ m.tail).toArray⟩) S → t_Format_text_9 Z (fin Q E) [some (.ref a), u1, some (.tup [.int x, .int y]), some (.int (10 ^ m.places)), some (.str ⟨pg.toArray⟩), some (.str ⟨w2.toArray⟩), some (.str ⟨re.toArray⟩), none] S := fun w2 hw2 h1 => by
          have := partL_len w2
          refine ⟨_, rfl, _, _, _, _, rfl, ha, rfl, rfl, ?_⟩
          refine itb (fun c => ?_) (fun c => ?_)
          · rw [if_pos c] at h1
            exact ⟨_, rfl, ⟨by decide, by decide, by decide, rfl⟩, _, rfl, w2, rfl, by omega, L10 _ (by omega) h1⟩
          · rw [if_neg (show ¬ (m.parted = true) from by rw [c]; decide)] at h1
            exact ⟨_, rfl, L10 _ (by omega) h1⟩
        have hbl : -1000 ≤ ((m.least : Nat) : Int) - ((wh.length : Nat) : Int) ∧ ((m.least : Nat) : Int) - ((wh.length : Nat) : Int) ≤ 1000 := by omega
        have hnl : (if ((m.least : Nat) : Int) - ((wh.length : Nat) : Int) > 0 then ((m.least : Nat) : Int) - ((wh.length : Nat) : Int) else 0).toNat = m.least - wh.length := by rw [max0]; omega
        have pad : ¬ (wh = [48] ∧ m.least = 0) → (dOp opAdd (dOp opMul (dC (.str "0")) (dBi G.rMax (dCons (dC (.int 0)) (dCons (dOp opSub (dFld tx 1 (dVar 0)) (dBi rLen (dCons (dVar 5) dNil))) dNil)))) (dVar 5)) [some (.ref a), u1, some (.tup [.int x, .int y]), some (.int (10 ^ m.places)), some (.str ⟨pg.toArray⟩), some (.str ⟨wh.toArray⟩), some (.str ⟨re.toArray⟩), none] S (fun d S1 => gN 5 d [some (.ref a), u1, some (.tup [.int x, .int y]), some (.int (10 ^ m.places)), some (.str ⟨pg.toArray⟩), some (.str ⟨wh.toArray⟩), some (.str ⟨re.toArray⟩), none] S1 (t_Format_text_9 Z (fin Q E)) (fun _ _ => False)) (fun c S1 => (fin Q E).ex c [some (.ref a), u1, some (.tup [.int x, .int y]), some (.int (10 ^ m.places)), some (.str ⟨pg.toArray⟩), some (.str ⟨wh.toArray⟩), some (.str ⟨re.toArray⟩), none] S1) := fun hn => by
          rw [if_neg hn] at h1
          refine ⟨_, rfl, _, _, _, _, rfl, ha, rfl, rfl, _, rfl, sh (by omega), ?_⟩
          dsimp only [opSub, opAdd, G.rMax, dNil]
          rw [len_mk]
          refine ⟨rep_ok (max0b hbl), _, rfl, ?_, ?_⟩
          · rw [rep_len hnl, len_mk, sizeLine_eq]; omega
          rw [rep_eq hnl]
          exact L9 _ (by rw [List.length_append, List.length_replicate]; omega) h1
        have e0 : ((("0" : Str))) = ⟨[48].toArray⟩ := rfl
        refine ⟨_, rfl, ?_⟩
        refine itd (fun c => ?_) (fun c => ?_)
        · rw [e0, mk_inj] at c
          refine ⟨_, rfl, _, _, _, _, rfl, ha, rfl, rfl, ?_⟩
          refine itd (fun c2 => ?_) (fun c2 => ?_)
          · rw [if_pos (show wh = [48] ∧ m.least = 0 from ⟨c, by omega⟩)] at h1
            exact L9 [] (by simp) h1
          · exact pad fun z => c2 (by rw [z.2]; rfl)
        · rw [e0, mk_inj] at c
          exact iff_ (pad fun z => c z.1)
      have L3 : ∀ (u1 : Option D) (f : Va), SzV f → Q (.str ⟨(shownF m f).toArray⟩) S → t_Format_text_3 Z (fin Q E) [some (.ref a), u1, some (vD f), none, none, none, none, none] S := fun u1 f hf h1 => by
        refine ⟨_, rfl, ⟨by decide, by decide, by decide, rfl⟩, _, rfl, f, rfl, ?_⟩
        cases f with
        | num x y => exact L4 u1 x y hf h1
        | _ => exact ⟨_, Sub.refl _, h1⟩
      have L2' : ∀ v1 : Va, SzV v1 → Q (.str ⟨(shownF m (rndF m v1)).toArray⟩) S → t_Format_text_2 Z (fin Q E) [some (.ref a), some (vD v1), none, none, none, none, none, none] S := fun v1 hv1 h1 => by
        refine ⟨_, rfl, ⟨by decide, by decide, by decide, rfl⟩, _, rfl, v1, rfl, ?_⟩
        cases v1 with
        | num x y => exact ⟨_, rfl, ⟨by decide, by decide, by decide, rfl⟩, _, rfl, _, rfl, _, _, _, _, rfl, ha, rfl, rfl, x, y, m.places, rfl, hv1, .inl (by omega), L3 _ _ (rndV_sz _ _ _) h1⟩
        | non => exact ⟨_, rfl, L3 _ .non hv1 h1⟩
        | bl b => exact ⟨_, rfl, L3 _ (.bl b) hv1 h1⟩
        | str s => exact ⟨_, rfl, L3 _ (.str s) hv1 h1⟩
        | wr s => exact ⟨_, rfl, L3 _ (.wr s) hv1 h1⟩
      have h1 : Q (.str ⟨(shownF m (rndF m (if m.share = true then mkNum (p * 100) w else .num p w))).toArray⟩) S := h1
      refine ⟨_, rfl, _, _, _, _, rfl, ha, rfl, rfl, ?_⟩
      obtain ⟨hp, w0, hw'⟩ := id hv
      refine itb (fun c => ?_) (fun c => ?_)
      · rw [if_pos c] at h1
        refine ⟨_, rfl, ⟨by decide, by decide, by decide, rfl⟩, _, rfl, _, rfl, mulR (by decide), _, rfl, _, rfl, p * 100, w, rfl, ⟨?_, sz200 hw', fun h => by omega⟩, L2' _ (mkNum_sz _ _) h1⟩
        rw [show (p * 100) = p * 100 from rfl]
        have : (p * 100).natAbs < 2 ^ 400 := mul_lt200 hp (by decide)
        exact sz400 this
      · rw [if_neg (show ¬ (m.share = true) from by rw [c]; decide)] at h1
        exact L2' (.num p w) hv h1

theorem ok_parse_format {P : Program} {w : World} {K : PySem.W.Frag} {mg : Str → Option Value} {base : Heap} {Z : Zt} {f : Addr} {fd : FuncData} {cdv : Value} (hfn : ∀ i, Z.fn i = fnOf' fnT i) (hlm : ∀ j, Z.lm j = lmT j) (hM : TxOk P w K mg base Z tx (M11 Z)) (F : FunC K "parse_format" "parse_format" s_parse_format f fd cdv .none) : FnD P w K mg base Z 3 f (e_parse_format) := by
  have nd := sc_parse_format.nd
  refine FnD.mk0 (ps := ["text"]) (fn_bodyC F sc_parse_format (fun ds S Q E h => ?len) _ (fun A outer s H E hr => (pdss_cons (pds_set nd (i := 1) (pd_sm PySem.F.slot_str_startswith PySem.F.type_str_startswith md_startswith (pd_var 0) (pda_cons pd_str pda_nil)))
    (pdss_cons (pds_set nd (i := 2) (pd_if (pdt_tru (pd_var 1)) (pd_slice (pd_var 0) (pdo_some pd_int) pdo_none) (pd_var 0)))
    (pdss_cons (pds_set nd (i := 3) (pd_sm PySem.F.slot_str_endswith PySem.F.type_str_endswith md_endswith (pd_var 2) (pda_cons pd_str pda_nil)))
    (pdss_cons (pds_set nd (i := 2) (pd_if (pdt_tru (pd_var 3)) (pd_slice (pd_var 2) pdo_none (pdo_some (pd_op od_sub (pd_bi hM cd_len 0 (by rfl) (by rfl) bt_len (pda_cons (pd_var 2) pda_nil)) pd_int))) (pd_var 2)))
    (pdss_cons (pds_set nd (i := 4) pd_int)
    (pdss_cons (pds_while (sts := []) (passes_of rfl) (PDW.pt (pdw_and (pdt_cmp od_lt (pd_var 4) (pd_bi hM cd_len 0 (by rfl) (by rfl) bt_len (pda_cons (pd_var 2) pda_nil))) (pdw_and1 (pdt_cmp od_notIn (pd_ix (pd_var 2) (pd_var 4)) pd_str)))) (pdss_one (pds_aug nd (i := 4) pd_int id_add)))
    (pdss_cons (pds_set nd (i := 5) (pd_var 4))
    (pdss_cons (pds_while (sts := []) (passes_of rfl) (PDW.pt (pdw_and (pdt_cmp od_lt (pd_var 5) (pd_bi hM cd_len 0 (by rfl) (by rfl) bt_len (pda_cons (pd_var 2) pda_nil))) (pdw_and1 (pdt_cmp od_in (pd_ix (pd_var 2) (pd_var 5)) pd_str)))) (pdss_one (pds_aug nd (i := 5) pd_int id_add)))
    (pdss_cons (pds_par3 (i := 6) (j := 7) (l := 8) (by rfl) nd (pda_cons (pd_slice (pd_var 2) (pdo_some (pd_var 4)) (pdo_some (pd_var 5))) (pda_cons pd_int (pda_cons (pd_var 5) pda_nil))) (by rfl))
    (pdss_cons (pds_if (pdt_cmp (od_eq (hu64 hr)) (pd_slice (pd_var 2) (pdo_some (pd_var 5)) (pdo_some (pd_op od_add (pd_var 5) pd_int))) pd_str) (pdss_cons (pds_set nd (i := 8) (pd_op od_add (pd_var 5) pd_int))
    (pdss_cons (pds_while (sts := []) (passes_of rfl) (PDW.pt (pdw_and (pdt_cmp od_lt (pd_var 8) (pd_bi hM cd_len 0 (by rfl) (by rfl) bt_len (pda_cons (pd_var 2) pda_nil))) (pdw_and1 (pdt_cmp (od_eq (hu64 hr)) (pd_ix (pd_var 2) (pd_var 8)) pd_str)))) (pdss_one (pds_aug nd (i := 8) pd_int id_add)))
    (pdss_cons (pds_set nd (i := 7) (pd_op od_sub (pd_op od_sub (pd_var 8) (pd_var 5)) pd_int))
    (pdss_one (pds_if (pdt_cmp (od_eq (hu64 hr)) (pd_var 7) pd_int) (pdss_one (pds_raise hM 0 (by rfl) (by rfl) (by rfl))) pdss_nil))))) pdss_nil)
    (pdss_cons (pds_set nd (i := 9) (pd_if (pdt_cmp (od_eq (hu64 hr)) (pd_var 6) pd_str) pd_int (pd_if (pdt_cmp (od_eq (hu64 hr)) (pd_var 6) pd_str) pd_int (pd_bi hM cd_len 0 (by rfl) (by rfl) bt_len (pda_cons (pd_var 6) pda_nil)))))
    (pdss_cons (pds_if (PDW.pt (pdw_or (pdt_cmp (od_eq (hu64 hr)) (pd_var 6) pd_str) (pdw_or1 (PDW.pt (pdw_and (pdt_cmp od_notIn (pd_var 6) (pd_tup (pda_cons pd_str (pda_cons pd_str pda_nil)))) (pdw_and1 (pdt_cmp (od_ne (hu64 hr)) (pd_var 6) (pd_op od_mul pd_str (pd_bi hM cd_len 0 (by rfl) (by rfl) bt_len (pda_cons (pd_var 6) pda_nil)))))))))) (pdss_one (pds_raise hM 0 (by rfl) (by rfl) (by rfl))) pdss_nil)
    (pdss_one (pds_ret (pd_make hM hr 0 7 (by rfl) (by rfl) (pda_cons (pd_slice (pd_var 2) pdo_none (pdo_some (pd_var 4))) (pda_cons (pd_var 9) (pda_cons (pd_cmp (od_eq (hu64 hr)) (pd_var 6) pd_str) (pda_cons (pd_var 7) (pda_cons (pd_slice (pd_var 2) (pdo_some (pd_var 8)) pdo_none) (pda_cons (pd_var 3) (pda_cons (pd_var 1) pda_nil))))))))))))))))))))))) (fun ds S Q E h => ?hb)) rfl rfl (F.binds fun _ _ _ _ _ _ us hl => match us, hl with | [_], _ => rfl)
  case len => obtain ⟨_, rfl, _⟩ := h; rfl
  case hb =>
    obtain ⟨t, rfl, ht, hE, hQ⟩ := h
    have ehash : (("#,##0" : Str)) = ⟨hashL.toArray⟩ := rfl
    have eone : (("#" : Str)) = ⟨[35].toArray⟩ := rfl
    have ee : (("" : Str)) = ⟨([] : List Nat).toArray⟩ := rfl
    have L10 : ∀ (l fg : List Nat) (signed share : Bool) (start stop places : Nat) (u5 : Option D), l.length ≤ 500 → start ≤ l.length → stop ≤ l.length → fg.length ≤ 500 →
        (fmtFin (l.take start) fg places (l.drop stop) share signed = none → E 0 S) → (∀ m, fmtFin (l.take start) fg places (l.drop stop) share signed = some m → ∀ q, S q = none → Q (.ref q) (put S q (.ins 0 (fF m)))) →
        t_parse_format_10 Z (fin Q E) [some (.str ⟨t.toArray⟩), some (.bl signed), some (.str ⟨l.toArray⟩), some (.bl share), some (.int (start : Int)), u5, some (.str ⟨fg.toArray⟩), some (.int (places : Int)), some (.int (stop : Int)), none] S := fun l fg signed share start stop places u5 hl hs1 hs2 hfg hE hQ => by
      have L11 : t_parse_format_11 Z (fin Q E) [some (.str ⟨t.toArray⟩), some (.bl signed), some (.str ⟨l.toArray⟩), some (.bl share), some (.int (start : Int)), u5, some (.str ⟨fg.toArray⟩), some (.int (places : Int)), some (.int (stop : Int)), some (.int ((leastOf fg : Nat) : Int))] S := by
        unfold fmtFin at hE hQ
        have L12 : ¬ (fg = [] ∨ (¬ (fg = [35] ∨ fg = hashL) ∧ fg ≠ List.replicate fg.length 48)) → t_parse_format_12 Z (fin Q E) [some (.str ⟨t.toArray⟩), some (.bl signed), some (.str ⟨l.toArray⟩), some (.bl share), some (.int (start : Int)), u5, some (.str ⟨fg.toArray⟩), some (.int (places : Int)), some (.int (stop : Int)), some (.int ((leastOf fg : Nat) : Int))] S := fun hn => by
          rw [if_neg hn] at hE hQ
          refine ⟨_, _, rfl, rfl, ⟨by decide, by decide, by decide, rfl⟩, _, rfl, _, rfl, sh (by omega), ?_⟩
          rw [cut_to hs1]
          refine ⟨_, rfl, _, rfl, _, rfl, _, rfl, _, rfl, sh (by omega), ?_⟩
          rw [cut_from hs2]
          refine ⟨_, rfl, _, rfl, fun a ha => ⟨a, l.take start, l.drop stop, leastOf fg, places, _, share, signed, rfl, put_same, ?_, fun hok => ⟨rfl, ?_⟩, fun hbad => ?_⟩⟩
          · rw [List.length_take, List.length_drop]; omega
          · rw [if_pos hok] at hQ
            refine ⟨_, Sub.refl _, ?_⟩
            have := hQ _ rfl a ha
            rw [put_put]
            rw [ehash]
            have ed : decide ((⟨fg.toArray⟩ : Str) = ⟨hashL.toArray⟩) = decide (fg = hashL) := by rw [Bool.eq_iff_iff, decide_eq_true_iff, decide_eq_true_iff, mk_inj]
            rw [ed]
            simpa using this
          · rw [if_neg (by rw [hbad]; decide)] at hE
            exact ⟨S, Sub.new ha, hE rfl⟩
        refine ⟨_, rfl, ?_⟩
        refine itd (fun c => ?_) (fun c => ?_)
        · rw [ee, mk_inj] at c
          rw [if_pos (.inl c)] at hE
          exact ⟨_, Sub.refl _, hE rfl⟩
        rw [ee, mk_inj] at c
        refine ⟨_, rfl, by show 2 ≤ sizeLine; decide, rfl, rfl, ?_⟩
        rw [in_hash]
        refine itn (fun c2 => ?_) (fun c2 => ?_)
        · refine ⟨_, rfl, _, rfl, sh (by omega), ?_⟩
          rw [len_mk]
          refine ⟨rep_ok (by omega), ?_⟩
          rw [rep_self]
          dsimp only [opNe, opEq]
          refine itn (fun c3 => ?_) (fun c3 => ?_)
          · rw [mk_inj] at c3
            rw [if_pos (.inr ⟨c2, c3⟩)] at hE
            exact ⟨_, Sub.refl _, hE rfl⟩
          · rw [mk_inj] at c3
            exact L12 (by rintro (z | z); exact c z; exact z.2 c3)
        · exact iff_ (L12 (by rintro (z | z); exact c z; exact z.1 c2))
      unfold leastOf at L11
      refine ⟨_, rfl, ?_⟩
      refine itd (fun c => ?_) (fun c => ?_)
      · rw [eone, mk_inj] at c
        rw [if_pos c] at L11
        exact L11
      rw [eone, mk_inj] at c
      rw [if_neg c] at L11
      refine ⟨_, rfl, ?_⟩
      refine itd (fun c2 => ?_) (fun c2 => ?_)
      · rw [ehash, mk_inj] at c2
        rw [if_pos c2] at L11
        exact L11
      rw [ehash, mk_inj] at c2
      rw [if_neg c2] at L11
      refine ⟨_, rfl, sh (by omega), ?_⟩
      rw [len_mk]
      exact L11
    have L4 : ∀ (l : List Nat) (signed share : Bool), l.length ≤ 500 → (fmtMid share signed l = none → E 0 S) → (∀ m, fmtMid share signed l = some m → ∀ q, S q = none → Q (.ref q) (put S q (.ins 0 (fF m)))) →
        t_parse_format_4 Z (fin Q E) [some (.str ⟨t.toArray⟩), some (.bl signed), some (.str ⟨l.toArray⟩), some (.bl share), none, none, none, none, none, none] S := fun l signed share hl hE hQ => by
      have h1le := tw_le (fun c => !isF c) l
      have h1t := tw_take (fun c => !isF c) l
      have h1d := tw_drop (fun c => !isF c) l
      unfold fmtMid at hE hQ
      have h2le := tw_le isG (l.dropWhile fun c => !isF c)
      have h2t := tw_take isG (l.dropWhile fun c => !isF c)
      have h2d := tw_drop isG (l.dropWhile fun c => !isF c)
      have hd1 : (l.dropWhile fun c => !isF c).length = l.length - (l.takeWhile fun c => !isF c).length := by rw [← h1d, List.length_drop]
      -- the third part
      have L8 : t_parse_format_8 Z (fin Q E) [some (.str ⟨t.toArray⟩), some (.bl signed), some (.str ⟨l.toArray⟩), some (.bl share), some (.int ((l.takeWhile fun c => !isF c).length : Int)), some (.int (((l.takeWhile fun c => !isF c).length + ((l.dropWhile fun c => !isF c).takeWhile isG).length : Nat) : Int)), none, none, none, none] S := by
        have e4 : l.drop ((l.takeWhile fun c => !isF c).length + ((l.dropWhile fun c => !isF c).takeWhile isG).length) = (l.dropWhile fun c => !isF c).dropWhile isG := by
          rw [← List.drop_drop, h1d, h2d]
        refine ⟨_, rfl, _, rfl, _, rfl, sh (by omega), ?_⟩
        rw [cut_mid (by omega), Nat.add_sub_cancel_left, h1d, h2t]
        refine ⟨_, rfl, ?_⟩
        rw [← h1t] at hE hQ
        have hen : (l.takeWhile fun c => !isF c).length + ((l.dropWhile fun c => !isF c).takeWhile isG).length ≤ l.length := by omega
        have hgl : ((l.dropWhile fun c => !isF c).takeWhile isG).length ≤ 500 := by omega
        have hst : (l.takeWhile fun c => !isF c).length ≤ l.length := h1le
        generalize (l.dropWhile fun c => !isF c).takeWhile isG = fg at *
        generalize (l.dropWhile fun c => !isF c).dropWhile isG = l4 at *
        generalize (l.takeWhile fun c => !isF c).length = st at *
        clear h1t h1d h2le h2t h2d hd1 h1le
        generalize hEn : st + fg.length = en at *
        show t_parse_format_9 Z (fin Q E) [some (.str ⟨t.toArray⟩), some (.bl signed), some (.str ⟨l.toArray⟩), some (.bl share), some (.int (st : Int)), some (.int (en : Int)), some (.str ⟨fg.toArray⟩), some (.int 0), some (.int (en : Int)), none] S
        refine ⟨_, rfl, _, rfl, _, rfl, sh (by omega), ?_⟩
        have e1 : ((en : Nat) : Int) + 1 = ((en + 1 : Nat) : Int) := by omega
        rw [e1, cut_mid hen, Nat.add_sub_cancel_left, e4]
        have hcmp : (⟨(l4.take 1).toArray⟩ : Str) = ("." : Str) ↔ l4.head? = some 46 := by
          rw [show (("." : Str)) = ⟨[46].toArray⟩ from rfl, mk_inj]
          cases l4 with
          | nil => simp
          | cons c r => simp
        dsimp only [opEq]
        refine itd (fun c => ?_) (fun c => ?_)
        · have c' := hcmp.mp c
          rw [if_pos c'] at hE hQ
          obtain ⟨r4, rfl⟩ : ∃ r4, l4 = 46 :: r4 := by
            cases l4 with
            | nil => cases c'
            | cons d r => exact ⟨r, by rw [show d = 46 from Option.some.inj c']⟩
          have e5 : l.drop (en + 1) = r4 := by rw [← List.drop_drop, e4]; rfl
          have hen1 : en + 1 ≤ l.length := by
            have := congrArg List.length e4
            rw [List.length_drop, List.length_cons] at this
            omega
          have l4l : r4.length = l.length - (en + 1) := by rw [← e5, List.length_drop]
          have hE : (if r4.takeWhile isZ = [] then none else fmtFin (l.take st) fg (r4.takeWhile isZ).length (r4.dropWhile isZ) share signed) = none → E 0 S := hE
          have hQ : ∀ m, (if r4.takeWhile isZ = [] then none else fmtFin (l.take st) fg (r4.takeWhile isZ).length (r4.dropWhile isZ) share signed) = some m → ∀ q, S q = none → Q (.ref q) (put S q (.ins 0 (fF m))) := hQ
          have h3le := tw_le isZ r4
          have h3d := tw_drop isZ r4
          refine ⟨_, rfl, ?_⟩
          refine ⟨fun m r S' => ∃ j : Nat, m + j = r4.length ∧ j ≤ (r4.takeWhile isZ).length ∧ r = [some (.str ⟨t.toArray⟩), some (.bl signed), some (.str ⟨l.toArray⟩), some (.bl share), some (.int (st : Int)), some (.int (en : Int)), some (.str ⟨fg.toArray⟩), some (.int 0), some (.int ((en + 1 + j : Nat) : Int)), none] ∧ S' = S, ⟨_, 0, rfl, Nat.zero_le _, (by rw [Nat.add_zero, ← e1]; rfl), rfl⟩, ?_⟩
          rintro m r S' ⟨j, hm, hj, rfl, rfl⟩
          have stop : j = (r4.takeWhile isZ).length → t_parse_format_9_2 Z {nx := t_parse_format_10 Z (fin Q E), rt := (fin Q E).rt, bk := (fin Q E).bk, ct := (fin Q E).ct, ex := (fin Q E).ex} [some (.str ⟨t.toArray⟩), some (.bl signed), some (.str ⟨l.toArray⟩), some (.bl share), some (.int (st : Int)), some (.int (en : Int)), some (.str ⟨fg.toArray⟩), some (.int 0), some (.int ((en + 1 + j : Nat) : Int)), none] S' := fun ej => by
            have ep : ((en + 1 + j : Nat) : Int) - (en : Int) - 1 = ((j : Nat) : Int) := by omega
            have key0 : t_parse_format_9_3 Z {nx := t_parse_format_10 Z (fin Q E), rt := (fin Q E).rt, bk := (fin Q E).bk, ct := (fin Q E).ct, ex := (fin Q E).ex} [some (.str ⟨t.toArray⟩), some (.bl signed), some (.str ⟨l.toArray⟩), some (.bl share), some (.int (st : Int)), some (.int (en : Int)), some (.str ⟨fg.toArray⟩), some (.int (j : Int)), some (.int ((en + 1 + j : Nat) : Int)), none] S' := by
              refine ⟨_, rfl, ?_⟩
              refine itd (fun c3 => ?_) (fun c3 => ?_)
              · have : r4.takeWhile isZ = [] := List.length_eq_zero_iff.mp (by omega)
                rw [if_pos this] at hE
                exact ⟨_, Sub.refl _, hE rfl⟩
              · have hne : ¬ r4.takeWhile isZ = [] := fun z => by rw [z] at ej; simp at ej; omega
                rw [if_neg hne] at hE hQ
                rw [← ej, ← h3d, ← ej] at hE hQ
                have e6 : r4.drop j = l.drop (en + 1 + j) := by rw [← e5, List.drop_drop]
                rw [e6] at hE hQ
                exact L10 l fg signed share st (en + 1 + j) j _ hl hst (by omega) hgl hE hQ
            have key : ∀ pl : Int, pl = (j : Int) → t_parse_format_9_3 Z {nx := t_parse_format_10 Z (fin Q E), rt := (fin Q E).rt, bk := (fin Q E).bk, ct := (fin Q E).ct, ex := (fin Q E).ex} [some (.str ⟨t.toArray⟩), some (.bl signed), some (.str ⟨l.toArray⟩), some (.bl share), some (.int (st : Int)), some (.int (en : Int)), some (.str ⟨fg.toArray⟩), some (.int pl), some (.int ((en + 1 + j : Nat) : Int)), none] S' := fun pl epl => by
              subst epl
              exact key0
            exact ⟨_, rfl, _, rfl, key _ ep⟩
          refine ⟨_, rfl, _, rfl, sh (by omega), ?_⟩
          rw [len_mk]
          refine itd (fun c4 => ?_) (fun c4 => stop ?_)
          · have hj4 : j < r4.length := by omega
            have hc : r4[j]? = some r4[j] := List.getElem?_eq_getElem hj4
            have hcl : (⟨l.toArray⟩ : Str).cps.toList[en + 1 + j]? = some r4[j] := by
              show l[en + 1 + j]? = _
              rw [← List.getElem?_drop, e5, hc]
            obtain ⟨s1, s2⟩ := tw_step r4 j _ hj hc
            refine ⟨_, rfl, _, rfl, sh (by omega), _, G.atI_nat hcl, ?_⟩
            have e0 : ((("0" : Str))) = ⟨#[48]⟩ := rfl
            dsimp only [opEq, dC]
            rw [e0]
            refine itd (fun c5 => ?_) (fun c5 => stop (s2 ?_))
            · rw [one_eq] at c5
              refine ⟨_, rfl, _, m - 1, Sub.refl _, by omega, j + 1, by omega, s1 (decide_eq_true c5), ?_, rfl⟩
              have : ((en + 1 + j : Nat) : Int) + 1 = ((en + 1 + (j + 1) : Nat) : Int) := by omega
              rw [← this]
              rfl
            · rw [one_eq] at c5
              exact decide_eq_false c5
          · have : ¬ j < r4.length := fun z => c4 (by omega)
            omega
        · have c' : ¬ l4.head? = some 46 := fun z => c (hcmp.mpr z)
          rw [if_neg c'] at hE hQ
          rw [← e4] at hE hQ
          exact L10 l fg signed share st en 0 _ hl hst hen hgl hE hQ
      -- the second part
      have L6 : t_parse_format_6 Z (fin Q E) [some (.str ⟨t.toArray⟩), some (.bl signed), some (.str ⟨l.toArray⟩), some (.bl share), some (.int ((l.takeWhile fun c => !isF c).length : Int)), none, none, none, none, none] S := by
        refine ⟨_, rfl, ?_⟩
        refine ⟨fun m r S' => ∃ j : Nat, m + j = (l.dropWhile fun c => !isF c).length ∧ j ≤ ((l.dropWhile fun c => !isF c).takeWhile isG).length ∧ r = [some (.str ⟨t.toArray⟩), some (.bl signed), some (.str ⟨l.toArray⟩), some (.bl share), some (.int ((l.takeWhile fun c => !isF c).length : Int)), some (.int (((l.takeWhile fun c => !isF c).length + j : Nat) : Int)), none, none, none, none] ∧ S' = S, ⟨_, 0, rfl, Nat.zero_le _, rfl, rfl⟩, ?_⟩
        rintro m r S' ⟨j, hm, hj, rfl, rfl⟩
        have stop : j = ((l.dropWhile fun c => !isF c).takeWhile isG).length → t_parse_format_8 Z (fin Q E) [some (.str ⟨t.toArray⟩), some (.bl signed), some (.str ⟨l.toArray⟩), some (.bl share), some (.int ((l.takeWhile fun c => !isF c).length : Int)), some (.int (((l.takeWhile fun c => !isF c).length + j : Nat) : Int)), none, none, none, none] S' := fun ej => by
          rw [ej]; exact L8
        refine ⟨_, rfl, _, rfl, sh (by omega), ?_⟩
        rw [len_mk]
        refine itd (fun c4 => ?_) (fun c4 => stop ?_)
        · have hj4 : j < (l.dropWhile fun c => !isF c).length := by omega
          have hc := List.getElem?_eq_getElem hj4
          have hcl : (⟨l.toArray⟩ : Str).cps.toList[(l.takeWhile fun c => !isF c).length + j]? = some (l.dropWhile fun c => !isF c)[j] := by
            show l[_]? = _
            rw [← List.getElem?_drop, h1d, hc]
          obtain ⟨s1, s2⟩ := tw_step _ j _ hj hc
          refine ⟨_, rfl, _, rfl, sh (by omega), _, G.atI_nat hcl, _, rfl, ?_⟩
          refine itd (fun c5 => ?_) (fun c5 => stop (s2 (decide_eq_false c5)))
          refine ⟨_, rfl, _, m - 1, Sub.refl _, by omega, j + 1, by omega, s1 (decide_eq_true c5), ?_, rfl⟩
          have : (((l.takeWhile fun c => !isF c).length + j : Nat) : Int) + 1 = (((l.takeWhile fun c => !isF c).length + (j + 1) : Nat) : Int) := by omega
          rw [← this]
          rfl
        · have : ¬ j < (l.dropWhile fun c => !isF c).length := fun z => c4 (by omega)
          omega
      -- the first part
      refine ⟨fun m r S' => ∃ j : Nat, m + j = l.length ∧ j ≤ (l.takeWhile fun c => !isF c).length ∧ r = [some (.str ⟨t.toArray⟩), some (.bl signed), some (.str ⟨l.toArray⟩), some (.bl share), some (.int (j : Int)), none, none, none, none, none] ∧ S' = S, ⟨_, 0, rfl, Nat.zero_le _, rfl, rfl⟩, ?_⟩
      rintro m r S' ⟨j, hm, hj, rfl, rfl⟩
      have stop : j = (l.takeWhile fun c => !isF c).length → t_parse_format_6 Z (fin Q E) [some (.str ⟨t.toArray⟩), some (.bl signed), some (.str ⟨l.toArray⟩), some (.bl share), some (.int (j : Int)), none, none, none, none, none] S' := fun ej => by
        rw [ej]; exact L6
      refine ⟨_, rfl, _, rfl, sh (by omega), ?_⟩
      rw [len_mk]
      refine itd (fun c4 => ?_) (fun c4 => stop ?_)
      · have hj4 : j < l.length := by omega
        have hc := List.getElem?_eq_getElem hj4
        obtain ⟨s1, s2⟩ := tw_step _ j _ hj hc
        refine ⟨_, rfl, _, rfl, sh (by omega), _, G.atI_nat (show (⟨l.toArray⟩ : Str).cps.toList[j]? = some l[j] from hc), _, rfl, ?_⟩
        refine itn (fun c5 => ?_) (fun c5 => stop (s2 ?_))
        · refine ⟨_, rfl, _, m - 1, Sub.refl _, by omega, j + 1, by omega, s1 ?_, ?_, rfl⟩
          · show (!decide _) = true
            rw [decide_eq_false c5]
            rfl
          · have : ((j : Nat) : Int) + 1 = ((j + 1 : Nat) : Int) := by omega
            rw [← this]
            rfl
        · show (!decide _) = false
          rw [decide_eq_true c5]
          rfl
      · have : ¬ j < l.length := fun z => c4 (by omega)
        omega
    have L2' : ∀ (l : List Nat) (signed : Bool), l.length ≤ 500 → (fmtMid (endsX l) signed (if endsX l = true then l.take (l.length - 4) else l) = none → E 0 S) → (∀ m, fmtMid (endsX l) signed (if endsX l = true then l.take (l.length - 4) else l) = some m → ∀ q, S q = none → Q (.ref q) (put S q (.ins 0 (fF m)))) →
        t_parse_format_2 Z (fin Q E) [some (.str ⟨t.toArray⟩), some (.bl signed), some (.str ⟨l.toArray⟩), none, none, none, none, none, none, none] S := fun l signed hl hE hQ => by
      refine ⟨_, rfl, ⟨_, rfl⟩, ?_⟩
      dsimp only [dCons, dC, dNil, rEnds]
      rw [ends_x]
      refine ⟨_, rfl, ?_⟩
      refine itb (fun c => ?_) (fun c => ?_)
      · rw [if_pos c] at hE hQ
        have h4 : 4 ≤ l.length := by
          unfold endsX at c
          rw [Bool.and_eq_true] at c
          exact of_decide_eq_true c.1
        refine ⟨_, rfl, _, rfl, sh (by omega), sh (by omega), ?_⟩
        rw [len_mk, show ((l.length : Nat) : Int) - 4 = ((l.length - 4 : Nat) : Int) by omega, cut_to (by omega)]
        exact L4 _ _ _ (by rw [List.length_take]; omega) hE hQ
      · rw [if_neg (by rw [c]; decide)] at hE hQ
        exact ⟨_, rfl, L4 _ _ _ hl hE hQ⟩
    unfold fmtOf at hE hQ
    refine ⟨_, rfl, ⟨_, rfl⟩, ?_⟩
    have es := starts_one t 43
    rw [show ((⟨#[43]⟩ : Str)) = (("+" : Str)) by decide +kernel] at es
    dsimp only [dCons, dC, dNil, rStarts]
    rw [es]
    refine ⟨_, rfl, ?_⟩
    refine itd (fun c => ?_) (fun c => ?_)
    · rw [if_pos c] at hE hQ
      refine ⟨_, rfl, sh (by omega), ?_⟩
      have h0 : 1 ≤ t.length := by
        cases t with
        | nil => cases c
        | cons d r => simp
      rw [show (1 : Int) = ((1 : Nat) : Int) from rfl, cut_from h0, List.drop_one, decide_eq_true c]
      exact L2' _ _ (by rw [List.length_tail]; omega) hE hQ
    · rw [if_neg c] at hE hQ
      rw [decide_eq_false c]
      exact ⟨_, rfl, L2' _ _ (by omega) hE hQ⟩
end K08

set_option Elab.async false
set_option linter.all false
set_option maxRecDepth 100000
set_option maxHeartbeats 4000000
namespace K08
open PySem PySem.Spec PyProof.Rows L2 G
theorem ok__law_dice {P : Program} {w : World} {K : PySem.W.Frag} {mg : Str → Option Value} {base : Heap} {Z : Zt} {f : Addr} {fd : FuncData} {cdv : Value} (hfn : ∀ i, Z.fn i = fnOf' fnT i) (hlm : ∀ j, Z.lm j = lmT j) (hM : TxOk P w K mg base Z tx (M12 Z)) (F : FunC K "_law_dice" "_law_dice" s__law_dice f fd cdv .none) : FnD P w K mg base Z 1 f (e__law_dice) := by
  have nd := sc__law_dice.nd
  refine FnD.mk0 (ps := ["cell"]) (fn_bodyC F sc__law_dice (fun ds S Q E h => ?len) _ (fun A outer s H E hr => (pdss_cons (pds_if (pdt_chain (pd_op od_sub pd_int pd_int) (pdcht_c od_lt (pd_var 0) (pdcht_1 od_lt pd_int))) (pdss_one (pds_ret (pd_lst (pda_cons (pd_bi hM cd_abs 8 (by rfl) (by rfl) bt_abs (pda_cons (pd_var 0) pda_nil)) (pda_cons pd_int (pda_cons pd_int pda_nil)))))) pdss_nil)
    (pdss_one (pds_ret (pd_lst (pda_cons (pd_var 0) (pda_cons (pd_op od_add pd_int (pd_op od_mod (pd_ty hM cd_int 3 (by rfl) (by rfl) bt_int (pda_cons (pd_var 0) pda_nil)) pd_int)) (pda_cons (pd_ty hM cd_int 3 (by rfl) (by rfl) bt_int (pda_cons (pd_cmp od_ge (pd_var 0) (pd_op od_pow pd_int pd_int)) pda_nil)) pda_nil)))))))) (fun ds S Q E h => ?hb)) rfl rfl (F.binds fun _ _ _ _ _ _ us hl => match us, hl with | [_], _ => rfl)
  case len => obtain ⟨_, rfl, _⟩ := h; rfl
  case hb =>
    obtain ⟨c, rfl, h1⟩ := h
    have z3 : 3 ≤ sizeLine := by decide
    refine ⟨_, rfl, ?_⟩
    have other : dRet (dLst (dCons (dVar 0) (dCons (dOp opAdd (dC (.int 1)) (dOp opMod (dBi rInt (dCons (dVar 0) dNil)) (dC (.int 1009)))) (dCons (dBi rInt (dCons (dOp opGe (dVar 0) (dOp opPow (dC (.int 10)) (dC (.int 18)))) dNil)) dNil)))) (fin Q E) [some (.int c)] S :=
      ⟨_, rfl, _, rfl, by decide, _, rfl, ⟨by decide, by decide, by decide⟩, z3, fun q hq => ⟨_, Sub.refl _, h1 _ _ _ q hq⟩⟩
    refine itd (fun c1 => ?_) (fun c1 => other)
    refine itd (fun c2 => ?_) (fun c2 => other)
    exact ⟨_, rfl, z3, fun q hq => ⟨_, Sub.refl _, h1 _ _ _ q hq⟩⟩

theorem ok__law_roll {P : Program} {w : World} {K : PySem.W.Frag} {mg : Str → Option Value} {base : Heap} {Z : Zt} {f : Addr} {fd : FuncData} {cdv : Value} (hfn : ∀ i, Z.fn i = fnOf' fnT i) (hlm : ∀ j, Z.lm j = lmT j) (hM : TxOk P w K mg base Z tx (M13 Z)) (F : FunC K "_law_roll" "_law_roll" s__law_roll f fd cdv .none) : FnD P w K mg base Z 1 f (e__law_roll) := by
  have nd := sc__law_roll.nd
  refine FnD.mk0 (ps := ["dice", "many"]) (fn_bodyC F sc__law_roll (fun ds S Q E h => ?len) _ (fun A outer s H E hr => (pdss_cons (pds_if (PDW.pt (pdw_or (pdt_cmp (od_eq (hu64 hr)) (pd_ix (pd_var 0) pd_int) pd_int) (pdw_or1 (PDW.pt (pdw_and (pdt_cmp (od_eq (hu64 hr)) (pd_ix (pd_var 0) pd_int) pd_int) (pdw_and1 (pdt_cmp od_gt (pd_ix (pd_var 0) pd_int) pd_int))))))) (pdss_cons (pds_set nd (i := 2) (pd_op od_mod (pd_ty hM cd_int 3 (by rfl) (by rfl) bt_int (pda_cons (pd_ix (pd_var 0) pd_int) pda_nil)) (pd_var 1)))
    (pdss_cons (pds_asg (pd_op od_div (pd_ix (pd_var 0) pd_int) (pd_var 1)) (pdg_ix (pd_var 0) pd_int))
    (pdss_one (pds_ret (pd_var 2))))) pdss_nil)
    (pdss_cons (pds_asg pd_int (pdg_ix (pd_var 0) pd_int))
    (pdss_cons (pds_if (pdt_cmp od_gt (pd_var 1) pd_int) (pdss_one (pds_ret (pd_op od_mod (pd_ty hM cd_int 3 (by rfl) (by rfl) bt_int (pda_cons (pd_op od_add (pd_op od_mul (pd_call hM hr 13 2 (by rfl) (by rfl) (pda_cons (pd_var 0) (pda_cons (pd_op od_add (pd_op od_div (pd_var 1) pd_int) pd_int) pda_nil))) pd_int) (pd_call hM hr 13 2 (by rfl) (by rfl) (pda_cons (pd_var 0) (pda_cons pd_int pda_nil)))) pda_nil)) (pd_var 1)))) pdss_nil)
    (pdss_cons (pds_asg (pd_op od_mod (pd_ty hM cd_int 3 (by rfl) (by rfl) bt_int (pda_cons (pd_op od_add (pd_op od_add (pd_op od_mul (pd_ix (pd_var 0) pd_int) pd_int) (pd_op od_mul (pd_ix (pd_var 0) pd_int) pd_int)) pd_int) pda_nil)) pd_int) (pdg_ix (pd_var 0) pd_int))
    (pdss_cons (pds_asg (pd_op od_add (pd_ix (pd_var 0) pd_int) pd_int) (pdg_ix (pd_var 0) pd_int))
    (pdss_one (pds_ret (pd_op od_mod (pd_ty hM cd_int 3 (by rfl) (by rfl) bt_int (pda_cons (pd_op od_div (pd_ix (pd_var 0) pd_int) pd_int) pda_nil)) (pd_var 1)))))))))) (fun ds S Q E h => ?hb)) rfl rfl (F.binds fun _ _ _ _ _ _ us hl => match us, hl with | [_, _], _ => rfl)
  case len => obtain ⟨_, _, _, _, _, rfl, _⟩ := h; rfl
  case hb =>
    obtain ⟨q, m, a, b, d, rfl, m0, m1, hq, h1⟩ := h
    have mz : m ≠ 0 := by omega
    have md : DivOk m := divS mz (by omega)
    have first : dSeq (dAsg (dOp opMod (dBi rInt (dCons (dOp opIx (dVar 0) (dC (.int 0))) dNil)) (dVar 1)) (gN 2)) (dSeq (dAsg (dOp opDiv (dOp opIx (dVar 0) (dC (.int 0))) (dVar 1)) (gIx (dVar 0) (dC (.int 0)))) (dRet (dVar 2))) (fin Q E) [some (.ref q), some (.int m), none] S := by
      refine ⟨_, rfl, _, _, hq, rfl, _, rfl, mz, _, rfl, _, _, hq, rfl, _, rfl, md, _, rfl, _, _, hq, rfl, _, rfl, _, Sub.refl _, ?_⟩
      exact h1 _ _ _ _ (by rw [Int.fmod_eq_emod_of_nonneg _ (by omega)]; exact Int.emod_nonneg _ mz) (by rw [Int.fmod_eq_emod_of_nonneg _ (by omega)]; exact Int.emod_lt_of_pos _ m0)
    have second : dSeq (dAsg (dC (.int 0)) (gIx (dVar 0) (dC (.int 2)))) (dSeq (dIfS (dTest (dOp opGt (dVar 1) (dC (.int 100000000)))) (dRet (dOp opMod (dBi rInt (dCons (dOp opAdd (dOp opMul (dCall (M13 Z) 0 13 2 (dCons (dVar 0) (dCons (dOp opAdd (dOp opDiv (dVar 1) (dC (.int 100000000))) (dC (.int 1))) dNil))) (dC (.int 100000000))) (dCall (M13 Z) 0 13 2 (dCons (dVar 0) (dCons (dC (.int 100000000)) dNil)))) dNil)) (dVar 1))) dNext)
        (dSeq (dAsg (dOp opMod (dBi rInt (dCons (dOp opAdd (dOp opAdd (dOp opMul (dOp opIx (dVar 0) (dC (.int 0))) (dC (.int 48271))) (dOp opMul (dOp opIx (dVar 0) (dC (.int 1))) (dC (.int 69621)))) (dC (.int 11))) dNil)) (dC (.int 2147483647))) (gIx (dVar 0) (dC (.int 0))))
          (dSeq (dAsg (dOp opAdd (dOp opIx (dVar 0) (dC (.int 1))) (dC (.int 1))) (gIx (dVar 0) (dC (.int 1)))) (dRet (dOp opMod (dBi rInt (dCons (dOp opDiv (dOp opIx (dVar 0) (dC (.int 0))) (dC (.int 7))) dNil)) (dVar 1)))))) (fin Q E) [some (.ref q), some (.int m), none] S := by
      refine ⟨_, rfl, _, _, hq, rfl, _, rfl, ?_⟩
      refine itd (fun c => absurd c (by omega)) (fun _ => ?_)
      refine ⟨_, rfl, _, _, put_same, rfl, mulR (by decide), _, rfl, _, _, put_same, rfl, mulR (by decide), by decide, _, rfl, _, _, put_same, rfl, ?_⟩
      refine ⟨_, rfl, _, _, put_same, rfl, _, rfl, _, _, put_same, rfl, ?_⟩
      refine ⟨_, rfl, _, _, put_same, rfl, divS (by decide) (by decide), _, rfl, mz, _, Sub.refl _, ?_⟩
      rw [put_put, put_put]
      exact h1 _ _ _ _ (by rw [Int.fmod_eq_emod_of_nonneg _ (by omega)]; exact Int.emod_nonneg _ mz) (by rw [Int.fmod_eq_emod_of_nonneg _ (by omega)]; exact Int.emod_lt_of_pos _ m0)
    refine ⟨_, rfl, _, _, hq, rfl, ?_⟩
    refine itd (fun c1 => first) (fun c1 => ?_)
    refine ⟨_, rfl, _, _, hq, rfl, ?_⟩
    refine itd (fun c2 => ?_) (fun c2 => second)
    refine ⟨_, rfl, _, _, hq, rfl, ?_⟩
    exact itd (fun c3 => first) (fun c3 => second)

theorem ok__law_roll_at_1 {P : Program} {w : World} {K : PySem.W.Frag} {mg : Str → Option Value} {base : Heap} {Z : Zt} {f : Addr} {fd : FuncData} {cdv : Value} (hfn : ∀ i, Z.fn i = fnOf' fnT i) (hlm : ∀ j, Z.lm j = lmT j) (hM : TxOk P w K mg base Z tx (M14 Z)) (F : FunC K "_law_roll" "_law_roll" s__law_roll f fd cdv .none) : FnD P w K mg base Z 2 f (e__law_roll_at_1) := by
  have nd := sc__law_roll.nd
  refine FnD.mk0 (ps := ["dice", "many"]) (fn_bodyC F sc__law_roll (fun ds S Q E h => ?len) _ (fun A outer s H E hr => (pdss_cons (pds_if (PDW.pt (pdw_or (pdt_cmp (od_eq (hu64 hr)) (pd_ix (pd_var 0) pd_int) pd_int) (pdw_or1 (PDW.pt (pdw_and (pdt_cmp (od_eq (hu64 hr)) (pd_ix (pd_var 0) pd_int) pd_int) (pdw_and1 (pdt_cmp od_gt (pd_ix (pd_var 0) pd_int) pd_int))))))) (pdss_cons (pds_set nd (i := 2) (pd_op od_mod (pd_ty hM cd_int 3 (by rfl) (by rfl) bt_int (pda_cons (pd_ix (pd_var 0) pd_int) pda_nil)) (pd_var 1)))
    (pdss_cons (pds_asg (pd_op od_div (pd_ix (pd_var 0) pd_int) (pd_var 1)) (pdg_ix (pd_var 0) pd_int))
    (pdss_one (pds_ret (pd_var 2))))) pdss_nil)
    (pdss_cons (pds_asg pd_int (pdg_ix (pd_var 0) pd_int))
    (pdss_cons (pds_if (pdt_cmp od_gt (pd_var 1) pd_int) (pdss_one (pds_ret (pd_op od_mod (pd_ty hM cd_int 3 (by rfl) (by rfl) bt_int (pda_cons (pd_op od_add (pd_op od_mul (pd_call hM hr 13 2 (by rfl) (by rfl) (pda_cons (pd_var 0) (pda_cons (pd_op od_add (pd_op od_div (pd_var 1) pd_int) pd_int) pda_nil))) pd_int) (pd_call hM hr 13 2 (by rfl) (by rfl) (pda_cons (pd_var 0) (pda_cons pd_int pda_nil)))) pda_nil)) (pd_var 1)))) pdss_nil)
    (pdss_cons (pds_asg (pd_op od_mod (pd_ty hM cd_int 3 (by rfl) (by rfl) bt_int (pda_cons (pd_op od_add (pd_op od_add (pd_op od_mul (pd_ix (pd_var 0) pd_int) pd_int) (pd_op od_mul (pd_ix (pd_var 0) pd_int) pd_int)) pd_int) pda_nil)) pd_int) (pdg_ix (pd_var 0) pd_int))
    (pdss_cons (pds_asg (pd_op od_add (pd_ix (pd_var 0) pd_int) pd_int) (pdg_ix (pd_var 0) pd_int))
    (pdss_one (pds_ret (pd_op od_mod (pd_ty hM cd_int 3 (by rfl) (by rfl) bt_int (pda_cons (pd_op od_div (pd_ix (pd_var 0) pd_int) pd_int) pda_nil)) (pd_var 1)))))))))) (fun ds S Q E h => ?hb)) rfl rfl (F.binds fun _ _ _ _ _ _ us hl => match us, hl with | [_, _], _ => rfl)
  case len => obtain ⟨_, _, _, _, _, rfl, _⟩ := h; rfl
  case hb =>
    obtain ⟨q, m, a, b, d, rfl, m0, m1, hq, h1⟩ := h
    have mz : m ≠ 0 := by omega
    have md : DivOk m := divS mz (by omega)
    have first : dSeq (dAsg (dOp opMod (dBi rInt (dCons (dOp opIx (dVar 0) (dC (.int 0))) dNil)) (dVar 1)) (gN 2)) (dSeq (dAsg (dOp opDiv (dOp opIx (dVar 0) (dC (.int 0))) (dVar 1)) (gIx (dVar 0) (dC (.int 0)))) (dRet (dVar 2))) (fin Q E) [some (.ref q), some (.int m), none] S := by
      refine ⟨_, rfl, _, _, hq, rfl, _, rfl, mz, _, rfl, _, _, hq, rfl, _, rfl, md, _, rfl, _, _, hq, rfl, _, rfl, _, Sub.refl _, ?_⟩
      exact h1 _ _ _ _ (by rw [Int.fmod_eq_emod_of_nonneg _ (by omega)]; exact Int.emod_nonneg _ mz) (by rw [Int.fmod_eq_emod_of_nonneg _ (by omega)]; exact Int.emod_lt_of_pos _ m0)
    have second : t__law_roll_at_1_1 Z (fin Q E) [some (.ref q), some (.int m), none] S := by
      refine ⟨_, rfl, _, _, hq, rfl, _, rfl, ?_⟩
      refine itd (fun c => ?_) (fun _ => ?_)
      · have hd : m.fdiv 100000000 = m / 100000000 := Int.fdiv_eq_ediv_of_nonneg _ (by decide)
        refine ⟨_, rfl, ⟨by decide, by decide, by decide, rfl⟩, _, rfl, _, rfl, divS (by decide) (by decide), q, m.fdiv 100000000 + 1, a, b, 0, rfl, by rw [hd]; omega, by rw [hd]; omega, put_same, fun v a b d v0 v1 => ?_⟩
        refine ⟨mulR (by decide), _, rfl, ⟨by decide, by decide, by decide, rfl⟩, _, rfl, q, 100000000, a, b, d, rfl, by decide, by decide, put_same, fun v2 a b d w0 w1 => ?_⟩
        refine ⟨_, rfl, mz, _, Sub.refl _, ?_⟩
        rw [put_put, put_put]
        exact h1 _ _ _ _ (by rw [Int.fmod_eq_emod_of_nonneg _ (by omega)]; exact Int.emod_nonneg _ mz) (by rw [Int.fmod_eq_emod_of_nonneg _ (by omega)]; exact Int.emod_lt_of_pos _ m0)
      · refine ⟨_, rfl, _, _, put_same, rfl, mulR (by decide), _, rfl, _, _, put_same, rfl, mulR (by decide), by decide, _, rfl, _, _, put_same, rfl, ?_⟩
        refine ⟨_, rfl, _, _, put_same, rfl, _, rfl, _, _, put_same, rfl, ?_⟩
        refine ⟨_, rfl, _, _, put_same, rfl, divS (by decide) (by decide), _, rfl, mz, _, Sub.refl _, ?_⟩
        rw [put_put, put_put]
        exact h1 _ _ _ _ (by rw [Int.fmod_eq_emod_of_nonneg _ (by omega)]; exact Int.emod_nonneg _ mz) (by rw [Int.fmod_eq_emod_of_nonneg _ (by omega)]; exact Int.emod_lt_of_pos _ m0)
    refine ⟨_, rfl, _, _, hq, rfl, ?_⟩
    refine itd (fun c1 => first) (fun c1 => ?_)
    refine ⟨_, rfl, _, _, hq, rfl, ?_⟩
    refine itd (fun c2 => ?_) (fun c2 => second)
    refine ⟨_, rfl, _, _, hq, rfl, ?_⟩
    exact itd (fun c3 => first) (fun c3 => second)

theorem ok__law_rounds {P : Program} {w : World} {K : PySem.W.Frag} {mg : Str → Option Value} {base : Heap} {Z : Zt} {f : Addr} {fd : FuncData} {cdv : Value} (hfn : ∀ i, Z.fn i = fnOf' fnT i) (hlm : ∀ j, Z.lm j = lmT j) (hM : TxOk P w K mg base Z tx (M15 Z)) (F : FunC K "_law_rounds" "_law_rounds" s__law_rounds f fd cdv .none) : FnD P w K mg base Z 2 f (e__law_rounds) := by
  have nd := sc__law_rounds.nd
  refine FnD.mk0 (ps := ["script", "most"]) (fn_bodyC F sc__law_rounds (fun ds S Q E h => ?len) _ (fun A outer s H E hr => (pdss_cons (pds_set nd (i := 2) (pd_slice (pd_var 0) pdo_none (pdo_some (pd_var 1))))
    (pdss_cons (pds_if (pdt_cmp (od_eq (hu64 hr)) (pd_var 2) (pd_lst pda_nil)) (pdss_one (pds_set nd (i := 2) (pd_lst (pda_cons pd_int pda_nil)))) pdss_nil)
    (pdss_one (pds_ret (pd_lc (by rfl) nd (pdi_any (pd_var 2)) [("cell", 3)] (blkOk_by (by with_unfolding_all rfl)) (by decide) (fun _ _ _ _ _ => (pdg_name nd (i := 3))) (fun _ _ _ _ _ => pdts_nil) (fun _ _ _ _ _ => (pd_call hM hr 12 1 (by rfl) (by rfl) (pda_cons (pd_var 3) pda_nil))))))))) (fun ds S Q E h => ?hb)) rfl rfl (F.binds fun _ _ _ _ _ _ us hl => match us, hl with | [_, _], _ => rfl)
  case len => obtain ⟨_, _, rfl, _⟩ := h; rfl
  case hb =>
    obtain ⟨ns, x, rfl, hx, h1⟩ := h
    have sn : ∀ {S S' : DS} {p : Addr}, Sub S S' → S' p = none → S p = none := fun {S S' p} s h => by
      cases e : S p with
      | none => rfl
      | some o => rw [s p o e] at h; cases h
    have fin1 : ∀ (S1 : DS) (l : Addr) (n : Int), Sub S S1 → S1 l = some (.lst [.int n]) → dRet (dLc (iAny (dVar 2)) (gN 3) dYes (dCall (M15 Z) 1 12 1 (dCons (dVar 3) dNil)) [3]) (fin Q E) [some x, some (.int 1), some (.ref l), none] S1 := fun S1 l n s hl => by
      refine ⟨_, rfl, _, hl, by show 1 ≤ sizeLine; decide, fun i acc S' => (i = 0 ∧ acc = [] ∧ S' = S1) ∨ (i = 1 ∧ ∃ (p : Addr) (a b d : Int), acc = [.ref p] ∧ S1 p = none ∧ S' = put S1 p (.lst [.int a, .int b, .int d])), .inl ⟨rfl, rfl, rfl⟩, ?_, ?_, ?_⟩
      · rintro i acc S' (⟨rfl, rfl, rfl⟩ | ⟨rfl, p, a, b, d, rfl, hp, rfl⟩)
        · exact hl
        · exact keep_put hl hp
      · rintro i d acc S' hd (⟨rfl, rfl, rfl⟩ | ⟨rfl, p, a, b, d, rfl, hp, rfl⟩)
        · cases hd
          refine ⟨_, rfl, ⟨by decide, by decide, by decide, rfl⟩, _, rfl, n, rfl, fun a b d q hq => ?_⟩
          exact ⟨_, Sub.refl _, .inr ⟨rfl, q, a, b, d, rfl, hq, rfl⟩⟩
        · cases hd
      · rintro acc S' g (⟨h, _, _⟩ | ⟨_, p, a, b, d, rfl, hp, rfl⟩) hg
        · cases h
        · exact ⟨_, Sub.put (Sub.put s _ _) _ _, h1 a b d p g (sn s hp) (sn s (put_none hg)) (Ne.symm (put_none_ne hg))⟩
    refine ⟨_, rfl, _, rfl, slScript hx fun l hl => ?_⟩
    refine ⟨_, rfl, by show 0 ≤ sizeLine; decide, fun l2 hl2 => ?_⟩
    have s0 := keep_put (u := .lst []) (put_same (S := S) (a := l) (o := .lst (G.cutD (ns.map D.int) none (some 1)))) hl2
    clear hx
    cases ns with
    | nil =>
      refine ⟨_, _, s0, put_same, rfl, rfl, ?_⟩
      refine ⟨by show 1 ≤ sizeLine; decide, fun l3 hl3 => ?_⟩
      exact fin1 _ l3 0 (((Sub.new hl).trans (Sub.new hl2)).trans (Sub.new hl3)) put_same
    | cons n r =>
      have e : G.cutD ((n :: r).map D.int) none (some 1) = [.int n] := by
        unfold G.cutD
        rw [HT.sIx_none, show ((1 : Int)) = ((1 : Nat) : Int) from rfl, HT.sIx_nat]
        simp
      rw [e] at s0 ⊢
      refine ⟨_, _, s0, put_same, rfl, rfl, ?_⟩
      exact fin1 _ l n ((Sub.new hl).trans (Sub.new hl2)) s0

theorem ok_lam_0 {P : Program} {w : World} {K : PySem.W.Frag} {mg : Str → Option Value} {base : Heap} {Z : Zt} (hfn : ∀ i, Z.fn i = fnOf' fnT i) (hM : TxOk P w K mg base Z tx (M16 Z)) {l : LamR} (hl : lmT 0 = some l) : LamOk P w K mg base Z 4 l (sp_lam_0) := by
  cases hl
  refine ⟨⟨rfl, rfl, rfl, by decide +kernel⟩, fun _ _ _ => rfl, _, fun A outer s H E f c' hr => (pd_call hM hr 11 1 (by rfl) (by rfl) (pda_cons pd_str pda_nil)), fun S Q E h => ?hb⟩
  case hb =>
    exact ⟨_, rfl, ⟨by decide, by decide, by decide, rfl⟩, [], congrArg (fun x => [D.str x]) (by decide +kernel), by decide, fun _ => ⟨_, Sub.refl _, h⟩, fun m q => absurd (q.symm.trans (by decide +kernel : fmtOf [] = none)) (fun z => nomatch z)⟩

theorem ok_lam_1 {P : Program} {w : World} {K : PySem.W.Frag} {mg : Str → Option Value} {base : Heap} {Z : Zt} (hfn : ∀ i, Z.fn i = fnOf' fnT i) (hM : TxOk P w K mg base Z tx (M17 Z)) {l : LamR} (hl : lmT 1 = some l) : LamOk P w K mg base Z 4 l (sp_lam_1) := by
  cases hl
  refine ⟨⟨rfl, rfl, rfl, by decide +kernel⟩, fun _ _ _ => rfl, _, fun A outer s H E f c' hr => (pd_call hM hr 11 1 (by rfl) (by rfl) (pda_cons pd_str pda_nil)), fun S Q E h => ?hb⟩
  case hb =>
    exact ⟨_, rfl, ⟨by decide, by decide, by decide, rfl⟩, [107, 103], congrArg (fun x => [D.str x]) (by decide +kernel), by decide, fun _ => ⟨_, Sub.refl _, h⟩, fun m q => absurd (q.symm.trans (by decide +kernel : fmtOf [107, 103] = none)) (fun z => nomatch z)⟩

theorem ok_lam_2 {P : Program} {w : World} {K : PySem.W.Frag} {mg : Str → Option Value} {base : Heap} {Z : Zt} (hfn : ∀ i, Z.fn i = fnOf' fnT i) (hM : TxOk P w K mg base Z tx (M18 Z)) {l : LamR} (hl : lmT 2 = some l) : LamOk P w K mg base Z 4 l (sp_lam_2) := by
  cases hl
  refine ⟨⟨rfl, rfl, rfl, by decide +kernel⟩, fun _ _ _ => rfl, _, fun A outer s H E f c' hr => (pd_call hM hr 11 1 (by rfl) (by rfl) (pda_cons pd_str pda_nil)), fun S Q E h => ?hb⟩
  case hb =>
    exact ⟨_, rfl, ⟨by decide, by decide, by decide, rfl⟩, [48, 46], congrArg (fun x => [D.str x]) (by decide +kernel), by decide, fun _ => ⟨_, Sub.refl _, h⟩, fun m q => absurd (q.symm.trans (by decide +kernel : fmtOf [48, 46] = none)) (fun z => nomatch z)⟩

theorem ok_lam_3 {P : Program} {w : World} {K : PySem.W.Frag} {mg : Str → Option Value} {base : Heap} {Z : Zt} (hfn : ∀ i, Z.fn i = fnOf' fnT i) (hM : TxOk P w K mg base Z tx (M19 Z)) {l : LamR} (hl : lmT 3 = some l) : LamOk P w K mg base Z 4 l (sp_lam_3) := by
  cases hl
  refine ⟨⟨rfl, rfl, rfl, by decide +kernel⟩, fun _ _ _ => rfl, _, fun A outer s H E f c' hr => (pd_call hM hr 11 1 (by rfl) (by rfl) (pda_cons pd_str pda_nil)), fun S Q E h => ?hb⟩
  case hb =>
    exact ⟨_, rfl, ⟨by decide, by decide, by decide, rfl⟩, [35, 48], congrArg (fun x => [D.str x]) (by decide +kernel), by decide, fun _ => ⟨_, Sub.refl _, h⟩, fun m q => absurd (q.symm.trans (by decide +kernel : fmtOf [35, 48] = none)) (fun z => nomatch z)⟩

theorem ok_lam_4 {P : Program} {w : World} {K : PySem.W.Frag} {mg : Str → Option Value} {base : Heap} {Z : Zt} (hfn : ∀ i, Z.fn i = fnOf' fnT i) (hM : TxOk P w K mg base Z tx (M20 Z)) {l : LamR} (hl : lmT 4 = some l) : LamOk P w K mg base Z 4 l (sp_lam_4) := by
  cases hl
  refine ⟨⟨rfl, rfl, rfl, by decide +kernel⟩, fun _ _ _ => rfl, _, fun A outer s H E f c' hr => (pd_call hM hr 11 1 (by rfl) (by rfl) (pda_cons pd_str pda_nil)), fun S Q E h => ?hb⟩
  case hb =>
    exact ⟨_, rfl, ⟨by decide, by decide, by decide, rfl⟩, [48, 44, 48, 48, 48], congrArg (fun x => [D.str x]) (by decide +kernel), by decide, fun _ => ⟨_, Sub.refl _, h⟩, fun m q => absurd (q.symm.trans (by decide +kernel : fmtOf [48, 44, 48, 48, 48] = none)) (fun z => nomatch z)⟩

theorem ok_lam_5 {P : Program} {w : World} {K : PySem.W.Frag} {mg : Str → Option Value} {base : Heap} {Z : Zt} (hfn : ∀ i, Z.fn i = fnOf' fnT i) (hM : TxOk P w K mg base Z tx (M21 Z)) {l : LamR} (hl : lmT 5 = some l) : LamOk P w K mg base Z 4 l (sp_lam_5) := by
  cases hl
  refine ⟨⟨rfl, rfl, rfl, by decide +kernel⟩, fun _ _ _ => rfl, _, fun A outer s H E f c' hr => (pd_call hM hr 11 1 (by rfl) (by rfl) (pda_cons pd_str pda_nil)), fun S Q E h => ?hb⟩
  case hb =>
    exact ⟨_, rfl, ⟨by decide, by decide, by decide, rfl⟩, [35, 35], congrArg (fun x => [D.str x]) (by decide +kernel), by decide, fun _ => ⟨_, Sub.refl _, h⟩, fun m q => absurd (q.symm.trans (by decide +kernel : fmtOf [35, 35] = none)) (fun z => nomatch z)⟩

theorem ok_lam_6 {P : Program} {w : World} {K : PySem.W.Frag} {mg : Str → Option Value} {base : Heap} {Z : Zt} (hfn : ∀ i, Z.fn i = fnOf' fnT i) (hM : TxOk P w K mg base Z tx (M22 Z)) {l : LamR} (hl : lmT 6 = some l) : LamOk P w K mg base Z 4 l (sp_lam_6) := by
  cases hl
  refine ⟨⟨rfl, rfl, rfl, by decide +kernel⟩, fun _ _ _ => rfl, _, fun A outer s H E f c' hr => (pd_call hM hr 11 1 (by rfl) (by rfl) (pda_cons pd_str pda_nil)), fun S Q E h => ?hb⟩
  case hb =>
    exact ⟨_, rfl, ⟨by decide, by decide, by decide, rfl⟩, [48, 46, 48, 48, 46, 48], congrArg (fun x => [D.str x]) (by decide +kernel), by decide, fun _ => ⟨_, Sub.refl _, h⟩, fun m q => absurd (q.symm.trans (by decide +kernel : fmtOf [48, 46, 48, 48, 46, 48] = none)) (fun z => nomatch z)⟩

theorem ok_lam_7 {P : Program} {w : World} {K : PySem.W.Frag} {mg : Str → Option Value} {base : Heap} {Z : Zt} (hfn : ∀ i, Z.fn i = fnOf' fnT i) (hM : TxOk P w K mg base Z tx (M23 Z)) {l : LamR} (hl : lmT 7 = some l) : LamOk P w K mg base Z 4 l (sp_lam_7) := by
  cases hl
  refine ⟨⟨rfl, rfl, rfl, by decide +kernel⟩, fun _ _ _ => rfl, _, fun A outer s H E f c' hr => (pd_call hM hr 11 1 (by rfl) (by rfl) (pda_cons pd_str pda_nil)), fun S Q E h => ?hb⟩
  case hb =>
    exact ⟨_, rfl, ⟨by decide, by decide, by decide, rfl⟩, [48, 32, 48], congrArg (fun x => [D.str x]) (by decide +kernel), by decide, fun _ => ⟨_, Sub.refl _, h⟩, fun m q => absurd (q.symm.trans (by decide +kernel : fmtOf [48, 32, 48] = none)) (fun z => nomatch z)⟩

theorem ok_lam_8 {P : Program} {w : World} {K : PySem.W.Frag} {mg : Str → Option Value} {base : Heap} {Z : Zt} (hfn : ∀ i, Z.fn i = fnOf' fnT i) (hM : TxOk P w K mg base Z tx (M24 Z)) {l : LamR} (hl : lmT 8 = some l) : LamOk P w K mg base Z 4 l (sp_lam_8) := by
  cases hl
  refine ⟨⟨rfl, rfl, rfl, by decide +kernel⟩, fun _ _ _ => rfl, _, fun A outer s H E f c' hr => (pd_call hM hr 11 1 (by rfl) (by rfl) (pda_cons (pd_op od_mul pd_str pd_int) pda_nil)), fun S Q E h => ?hb⟩
  case hb =>
    exact ⟨_, rfl, ⟨by decide, by decide, by decide, rfl⟩, rep_ok (by decide), List.replicate 11 48, congrArg (fun x => [D.str x]) (rep_self 11), by decide, fun _ => ⟨_, Sub.refl _, h⟩, fun m q => absurd (q.symm.trans (by decide +kernel : fmtOf (List.replicate 11 48) = none)) (fun z => nomatch z)⟩

theorem ok_lam_9 {P : Program} {w : World} {K : PySem.W.Frag} {mg : Str → Option Value} {base : Heap} {Z : Zt} (hfn : ∀ i, Z.fn i = fnOf' fnT i) (hM : TxOk P w K mg base Z tx (M25 Z)) {l : LamR} (hl : lmT 9 = some l) : LamOk P w K mg base Z 4 l (sp_lam_9) := by
  cases hl
  refine ⟨⟨rfl, rfl, rfl, by decide +kernel⟩, fun _ _ _ => rfl, _, fun A outer s H E f c' hr => (pd_call hM hr 11 1 (by rfl) (by rfl) (pda_cons (pd_op od_add pd_str (pd_op od_mul pd_str pd_int)) pda_nil)), fun S Q E h => ?hb⟩
  case hb =>
    refine ⟨_, rfl, ⟨by decide, by decide, by decide, rfl⟩, rep_ok (by decide), by rw [rep_len (n := 11) rfl]; show 2 + 11 ≤ sizeLine; decide, 48 :: 46 :: List.replicate 11 48, congrArg (fun x => [D.str x]) ?_, by decide, fun _ => ⟨_, Sub.refl _, h⟩, fun m q => absurd (q.symm.trans (by decide +kernel : fmtOf (48 :: 46 :: List.replicate 11 48) = none)) (fun z => nomatch z)⟩
    show (("0." : Str)) ++ repS ("0" : Str) 11 = _
    rw [show (11 : Int) = ((11 : Nat) : Int) from rfl, rep_self]
    exact cat_mk [48, 46] _

theorem ok_lam_10 {P : Program} {w : World} {K : PySem.W.Frag} {mg : Str → Option Value} {base : Heap} {Z : Zt} (hfn : ∀ i, Z.fn i = fnOf' fnT i) (hM : TxOk P w K mg base Z tx (M26 Z)) {l : LamR} (hl : lmT 10 = some l) : LamOk P w K mg base Z 4 l (sp_lam_10) := by
  cases hl
  refine ⟨⟨rfl, rfl, rfl, by decide +kernel⟩, fun _ _ _ => rfl, _, fun A outer s H E f c' hr => (pd_make hM hr 0 5 (by rfl) (by rfl) (pda_cons pd_str (pda_cons pd_int (pda_cons pd_bl (pda_cons pd_int (pda_cons pd_str pda_nil)))))), fun S Q E h => ?hb⟩
  case hb =>
    exact ⟨8, _, rfl, rfl, ⟨by decide, by decide, by decide, rfl⟩, fun a ha => ⟨a, [97, 48], [], 1, 0, false, false, false, congrArg (fun x => [D.ref a, D.str x, D.int 1, D.bl false, D.int 0, D.str ⟨([] : List Nat).toArray⟩, D.bl false, D.bl false]) (by decide +kernel), put_same, by decide, fun q => absurd q (by decide +kernel), fun _ => ⟨S, Sub.new ha, h⟩⟩⟩

theorem ok_lam_11 {P : Program} {w : World} {K : PySem.W.Frag} {mg : Str → Option Value} {base : Heap} {Z : Zt} (hfn : ∀ i, Z.fn i = fnOf' fnT i) (hM : TxOk P w K mg base Z tx (M27 Z)) {l : LamR} (hl : lmT 11 = some l) : LamOk P w K mg base Z 4 l (sp_lam_11) := by
  cases hl
  refine ⟨⟨rfl, rfl, rfl, by decide +kernel⟩, fun _ _ _ => rfl, _, fun A outer s H E f c' hr => (pd_make hM hr 0 5 (by rfl) (by rfl) (pda_cons pd_str (pda_cons (pd_neg pd_int) (pda_cons pd_bl (pda_cons pd_int (pda_cons pd_str pda_nil)))))), fun S Q E h => ?hb⟩
  case hb =>
    exact ⟨8, _, rfl, rfl, ⟨by decide, by decide, by decide, rfl⟩, fun a ha => ⟨a, [], [], -1, 0, false, false, false, rfl, put_same, by decide, fun q => absurd q (by decide +kernel), fun _ => ⟨S, Sub.new ha, h⟩⟩⟩

theorem ok__law_told {P : Program} {w : World} {K : PySem.W.Frag} {mg : Str → Option Value} {base : Heap} {Z : Zt} {f : Addr} {fd : FuncData} {cdv : Value} (hfn : ∀ i, Z.fn i = fnOf' fnT i) (hlm : ∀ j, Z.lm j = lmT j) (hM : TxOk P w K mg base Z tx (M28 Z)) (F : FunC K "_law_told" "_law_told" s__law_told f fd cdv .none) : FnD P w K mg base Z 6 f (e__law_told Z) := by
  have nd := sc__law_told.nd
  refine FnD.mk0 (ps := ["what"]) (fn_bodyC F sc__law_told (fun ds S Q E h => ?len) _ (fun A outer s H E hr => (pdss_one (pds_try hM 0 (by rfl) (by rfl) (fun pn xe hp => (pdss_one (pds_ret (pd_act hM hr 0)))) (fun a oe pn => (pdss_one (pds_ret pd_str)))))) (fun ds S Q E h => ?hb)) rfl rfl (F.binds fun _ _ _ _ _ _ us hl => match us, hl with | [_], _ => rfl)
  case len => obtain ⟨_, _, rfl, _⟩ := h; rfl
  case hb =>
    obtain ⟨f, j, rfl, hf, hj, h1⟩ := h
    have go : ∀ (n : Nat) (e : Ent), (M28 Z)[n]? = some e → e.la = some j → e.lv ≤ 4 → e.sp = (fun ds S Q E => E 0 S) → dTry tx 0 (dRet (dAct (M28 Z) Z 4 0)) (dRet (dC (.str "TableError"))) (fin Q E) [some (.ref f)] S := fun n e h2 h3 h4 h5 => by
      refine ⟨f, j, n, e, rfl, hf, h2, h3, h4, ?_⟩
      rw [h5]
      exact ⟨true, rfl, fun _ => ⟨_, Sub.refl _, h1⟩, fun h => nomatch h⟩
    match j, hj, go with
    | 0, _, go => exact go 16 _ rfl rfl (by decide) rfl
    | 1, _, go => exact go 17 _ rfl rfl (by decide) rfl
    | 2, _, go => exact go 18 _ rfl rfl (by decide) rfl
    | 3, _, go => exact go 19 _ rfl rfl (by decide) rfl
    | 4, _, go => exact go 20 _ rfl rfl (by decide) rfl
    | 5, _, go => exact go 21 _ rfl rfl (by decide) rfl
    | 6, _, go => exact go 22 _ rfl rfl (by decide) rfl
    | 7, _, go => exact go 23 _ rfl rfl (by decide) rfl
    | 8, _, go => exact go 24 _ rfl rfl (by decide) rfl
    | 9, _, go => exact go 25 _ rfl rfl (by decide) rfl
    | 10, _, go => exact go 26 _ rfl rfl (by decide) rfl
    | 11, _, go => exact go 27 _ rfl rfl (by decide) rfl
    | n + 12, h, _ => exact absurd h (by omega)

theorem ok__law_num {P : Program} {w : World} {K : PySem.W.Frag} {mg : Str → Option Value} {base : Heap} {Z : Zt} {f : Addr} {fd : FuncData} {cdv : Value} (hfn : ∀ i, Z.fn i = fnOf' fnT i) (hlm : ∀ j, Z.lm j = lmT j) (hM : TxOk P w K mg base Z tx (M29 Z)) (F : FunC K "_law_num" "_law_num" s__law_num f fd cdv .none) : FnD P w K mg base Z 1 f (e__law_num) := by
  have nd := sc__law_num.nd
  refine FnD.mk0 (ps := ["part", "whole"]) (fn_bodyC F sc__law_num (fun ds S Q E h => ?len) _ (fun A outer s H E hr => (pdss_cons (pds_if (pdt_cmp (od_eq (hu64 hr)) (pd_var 1) pd_int) (pdss_one (pds_ret (pd_tup (pda_cons pd_str (pda_cons pd_str pda_nil))))) pdss_nil)
    (pdss_cons (pds_par2 (i := 2) (j := 3) (by rfl) nd (pda_cons (pd_bi hM cd_abs 8 (by rfl) (by rfl) bt_abs (pda_cons (pd_var 0) pda_nil)) (pda_cons (pd_bi hM cd_abs 8 (by rfl) (by rfl) bt_abs (pda_cons (pd_var 1) pda_nil)) pda_nil)) (by rfl))
    (pdss_cons (pds_while (sts := []) (passes_of rfl) (pdt_cmp (od_ne (hu64 hr)) (pd_var 3) pd_int) (pdss_one (pds_par2 (i := 2) (j := 3) (by rfl) nd (pda_cons (pd_var 3) (pda_cons (pd_op od_mod (pd_var 2) (pd_var 3)) pda_nil)) (by rfl))))
    (pdss_cons (pds_set nd (i := 2) (pd_if (pdt_cmp od_gt (pd_var 1) pd_int) (pd_var 2) (pd_neg (pd_var 2))))
    (pdss_cons (pds_par2 (i := 0) (j := 1) (by rfl) nd (pda_cons (pd_op od_div (pd_var 0) (pd_var 2)) (pda_cons (pd_op od_div (pd_var 1) (pd_var 2)) pda_nil)) (by rfl))
    (pdss_one (pds_ret (pd_if (PDW.pt (pdw_and (pdt_cmp od_lt (pd_bi hM cd_abs 8 (by rfl) (by rfl) bt_abs (pda_cons (pd_var 0) pda_nil)) (pd_op od_pow pd_int pd_int)) (pdw_and1 (pdt_cmp od_lt (pd_var 1) (pd_op od_pow pd_int pd_int))))) (pd_tup (pda_cons (pd_var 0) (pda_cons (pd_var 1) pda_nil))) (pd_tup (pda_cons pd_str (pda_cons pd_str pda_nil)))))))))))) (fun ds S Q E h => ?hb)) rfl rfl (F.binds fun _ _ _ _ _ _ us hl => match us, hl with | [_, _], _ => rfl)
  case len => obtain ⟨_, _, rfl, _⟩ := h; rfl
  case hb =>
    obtain ⟨p, w, rfl, ⟨hp, hw, hg⟩, h1⟩ := h
    have z2 : 2 ≤ sizeLine := by decide
    unfold mkNum at h1
    refine ⟨_, rfl, ?_⟩
    refine itd (fun c => ?_) (fun c => ?_)
    · rw [if_pos c] at h1
      exact ⟨z2, _, Sub.refl _, h1⟩
    rw [if_neg c] at h1
    have g0 : 0 < Int.gcd p w := Int.gcd_pos_of_ne_zero_right _ c
    have gs : Int.gcd p w < 2 ^ 8000 := by
      have := Int.gcd_le_natAbs_right (a := p) c
      exact Nat.lt_of_le_of_lt this hw
    have tail : ∀ s : Int, s = (if w < 0 then -(Int.gcd p w : Int) else (Int.gcd p w : Int)) → DivOk s → ∀ o, dSeq (dPar2 0 1 (dCons (dOp opDiv (dVar 0) (dVar 2)) (dCons (dOp opDiv (dVar 1) (dVar 2)) dNil))) (dRet (dIf (dAnd (dTest (dOp opLt (dBi rAbs (dCons (dVar 0) dNil)) (dOp opPow (dC (.int 10)) (dC (.int 30))))) (dTest (dOp opLt (dVar 1) (dOp opPow (dC (.int 10)) (dC (.int 30)))))) (dTup (dCons (dVar 0) (dCons (dVar 1) dNil))) (dTup (dCons (dC (.str "#")) (dCons (dC (.str "too large")) dNil))))) (fin Q E) [some (.int p), some (.int w), some (.int s), o] S := fun s hs ds o => by
      subst hs
      have cp : CPow 10 30 := ⟨by decide, by decide, by decide⟩
      refine ⟨_, rfl, _, rfl, ds, _, rfl, _, rfl, ds, ?_⟩
      refine ⟨_, rfl, cp, ?_⟩
      refine itd (fun c1 => ?_) (fun c1 => ?_)
      · refine ⟨_, rfl, cp, ?_⟩
        refine itd (fun c2 => ?_) (fun c2 => ?_)
        · rw [if_neg (fun z => z.elim (fun z => absurd c1 (Int.not_lt.mpr z)) (fun z => absurd c2 (Int.not_lt.mpr z)))] at h1
          exact ⟨_, rfl, _, rfl, z2, _, Sub.refl _, h1⟩
        · rw [if_pos (.inr (Int.not_lt.mp c2))] at h1
          exact ⟨z2, _, Sub.refl _, h1⟩
      · rw [if_pos (.inl (Int.not_lt.mp c1))] at h1
        exact ⟨z2, _, Sub.refl _, h1⟩
    refine ⟨_, rfl, _, rfl, ?_⟩
    refine ⟨fun m r S' => ∃ x y : Nat, y = m ∧ Nat.gcd x y = Int.gcd p w ∧ r = [some (.int p), some (.int w), some (.int x), some (.int y)] ∧ S' = S, ⟨_, p.natAbs, w.natAbs, rfl, rfl, by show [some (D.int p), some (D.int w), some (D.int (if p < 0 then -p else p)), some (D.int (if w < 0 then -w else w))] = _; rw [abs_if, abs_if], rfl⟩, ?_⟩
    rintro m r S' ⟨x, y, rfl, hgc, rfl, rfl⟩
    refine ⟨_, rfl, ?_⟩
    refine itn (fun c1 => ?_) (fun c1 => ?_)
    · have y0 : 0 < y := by omega
      refine ⟨_, rfl, _, rfl, _, rfl, c1, ?_⟩
      refine ⟨_, x % y, Sub.refl _, Nat.mod_lt x y0, y, x % y, rfl, by rw [← hgc, Nat.gcd_comm x y, Nat.gcd_rec y x, Nat.gcd_comm], ?_, rfl⟩
      show [some (D.int p), some (D.int w), some (D.int (y : Int)), some (D.int ((x : Int).fmod (y : Int)))] = _
      rw [Int.fmod_eq_emod_of_nonneg _ (by omega), ← Int.natCast_emod]
    · have y0 : y = 0 := by omega
      subst y0
      rw [Nat.gcd_zero_right] at hgc
      subst hgc
      refine ⟨_, rfl, ?_⟩
      refine itd (fun c3 => ?_) (fun c3 => ?_)
      · exact ⟨_, rfl, tail _ (by rw [if_neg (by omega)]) (div_pos (by omega) (by unfold Sz; omega)) _⟩
      · have := hg (by omega)
        exact ⟨_, rfl, tail _ (by rw [if_pos (by omega)]) ⟨by omega, .inl (by omega)⟩ _⟩

theorem ok__law_shown {P : Program} {w : World} {K : PySem.W.Frag} {mg : Str → Option Value} {base : Heap} {Z : Zt} {f : Addr} {fd : FuncData} {cdv : Value} (hfn : ∀ i, Z.fn i = fnOf' fnT i) (hlm : ∀ j, Z.lm j = lmT j) (hM : TxOk P w K mg base Z tx (M30 Z)) (F : FunC K "_law_shown" "_law_shown" s__law_shown f fd cdv .none) : FnD P w K mg base Z 1 f (e__law_shown) := by
  have nd := sc__law_shown.nd
  refine FnD.mk0 (ps := ["value", "head", "figures", "places", "tail", "share", "signed"]) (fn_bodyC F sc__law_shown (fun ds S Q E h => ?len) _ (fun A outer s H E hr => (pdss_cons (pds_par2 (i := 7) (j := 8) (by rfl) nd (pda_cons (pd_op od_mul (pd_ix (pd_var 0) pd_int) (pd_if (pdt_tru (pd_var 5)) pd_int pd_int)) (pda_cons (pd_ix (pd_var 0) pd_int) pda_nil)) (by rfl))
    (pdss_cons (pds_set nd (i := 9) pd_int)
    (pdss_cons (pds_for (passes_of rfl) (by rfl) (pdi_range1 hM 4 (by rfl) (pda_cons (pd_var 3) pda_nil)) (pdg_name nd (i := 10)) (pdss_one (pds_set nd (i := 9) (pd_op od_mul (pd_var 9) pd_int))))
    (pdss_cons (pds_set nd (i := 11) (pd_op od_div (pd_op od_add (pd_op od_mul (pd_op od_mul pd_int (pd_bi hM cd_abs 8 (by rfl) (by rfl) bt_abs (pda_cons (pd_var 7) pda_nil))) (pd_var 9)) (pd_var 8)) (pd_op od_mul pd_int (pd_var 8))))
    (pdss_cons (pds_par2 (i := 12) (j := 13) (by rfl) nd (pda_cons (pd_ty hM cd_str 2 (by rfl) (by rfl) bt_str (pda_cons (pd_op od_div (pd_var 11) (pd_var 9)) pda_nil)) (pda_cons (pd_ty hM cd_str 2 (by rfl) (by rfl) bt_str (pda_cons (pd_op od_mod (pd_var 11) (pd_var 9)) pda_nil)) pda_nil)) (by rfl))
    (pdss_cons (pds_set nd (i := 13) (pd_if (pdt_cmp od_gt (pd_var 3) pd_int) (pd_op od_add (pd_op od_mul pd_str (pd_op od_sub (pd_var 3) (pd_bi hM cd_len 0 (by rfl) (by rfl) bt_len (pda_cons (pd_var 13) pda_nil)))) (pd_var 13)) pd_str))
    (pdss_cons (pds_set nd (i := 12) (pd_if (pdt_cmp (od_eq (hu64 hr)) (pd_var 2) pd_str) (pd_if (pdt_cmp (od_eq (hu64 hr)) (pd_var 12) pd_str) pd_str (pd_var 12)) (pd_if (pdt_cmp (od_ne (hu64 hr)) (pd_var 2) pd_str) (pd_op od_add (pd_op od_mul pd_str (pd_op od_sub (pd_bi hM cd_len 0 (by rfl) (by rfl) bt_len (pda_cons (pd_var 2) pda_nil)) (pd_bi hM cd_len 0 (by rfl) (by rfl) bt_len (pda_cons (pd_var 12) pda_nil)))) (pd_var 12)) (pd_var 12))))
    (pdss_cons (pds_if (pdt_cmp (od_eq (hu64 hr)) (pd_var 2) pd_str) (pdss_cons (pds_set nd (i := 15) (pd_lst pda_nil))
    (pdss_cons (pds_while (sts := []) (passes_of rfl) (pdt_cmp (od_ne (hu64 hr)) (pd_var 12) pd_str) (pdss_one (pds_par2 (i := 15) (j := 12) (by rfl) nd (pda_cons (pd_op od_add (pd_lst (pda_cons (pd_slice (pd_var 12) (pdo_some (pd_neg pd_int)) pdo_none) pda_nil)) (pd_var 15)) (pda_cons (pd_slice (pd_var 12) pdo_none (pdo_some (pd_neg pd_int))) pda_nil)) (by rfl))))
    (pdss_one (pds_set nd (i := 12) (pd_sm PySem.F.slot_str_join PySem.F.type_str_join md_join pd_str (pda_cons (pd_var 15) pda_nil)))))) pdss_nil)
    (pdss_cons (pds_set nd (i := 14) (pd_if (PDW.pt (pdw_and (pdt_cmp od_lt (pd_ix (pd_var 0) pd_int) pd_int) (pdw_and1 (pdt_cmp od_gt (pd_var 11) pd_int)))) pd_str (pd_if (PDW.pt (pdw_and (pdt_tru (pd_var 6)) (pdw_and1 (pdt_cmp od_gt (pd_var 11) pd_int)))) pd_str pd_str)))
    (pdss_one (pds_ret (pd_op od_add (pd_op od_add (pd_op od_add (pd_op od_add (pd_var 14) (pd_var 1)) (pd_var 12)) (pd_if (pdt_cmp od_gt (pd_var 3) pd_int) (pd_op od_add pd_str (pd_var 13)) pd_str)) (pd_var 4)))))))))))))) (fun ds S Q E h => ?hb)) rfl rfl (F.binds fun _ _ _ _ _ _ us hl => match us, hl with | [_, _, _, _, _, _, _], _ => rfl)
  case len => obtain ⟨_, _, _, _, _, _, _, _, rfl, _⟩ := h; rfl
  case hb =>
    obtain ⟨p, w, head, fg, tail, places, share, signed, rfl, ⟨hp, w0, hw⟩, hlen, hfg, hpl, h1⟩ := h
    have ehash : (("#,##0" : Str)) = ⟨hashL.toArray⟩ := rfl
    have eone : (("#" : Str)) = ⟨[35].toArray⟩ := rfl
    have ee : (("" : Str)) = ⟨([] : List Nat).toArray⟩ := rfl
    have e0 : ((("0" : Str))) = ⟨[48].toArray⟩ := rfl
    have e200 : (2 : Nat) ^ 300 = 2 ^ 100 * 2 ^ 200 := by rw [← Nat.pow_add]
    have h100 : (2 : Nat) ^ 100 = 1267650600228229401496703205376 := by decide
    have h60 : (2 : Nat) ^ 260 = 2 ^ 60 * 2 ^ 200 := by rw [← Nat.pow_add]
    have h60' : (2 : Nat) ^ 60 = 1152921504606846976 := by decide
    have s300 : ∀ {i : Int}, i.natAbs < 2 ^ 300 → Sz i := fun h => Nat.lt_of_lt_of_le h (Nat.pow_le_pow_right (by decide) (by decide))
    have h10 : ((10 : Int) ^ places).natAbs ≤ 10 ^ 10 := by
      rw [Int.natAbs_pow]
      exact Nat.pow_le_pow_right (by decide) hpl
    have h10p : (0 : Int) < 10 ^ places := Int.pow_pos (by decide)
    have L3 : ∀ (u7 u10 : Option D) (t : Int), t = p * (if share = true then 100 else 1) → t__law_shown_3 Z (fin Q E) [some (.tup [.int p, .int w]), some (.str ⟨head.toArray⟩), some (.str ⟨fg.toArray⟩), some (.int (places : Int)), some (.str ⟨tail.toArray⟩), some (.bl share), some (.bl signed), some (.int t), some (.int w), some (.int (10 ^ places)), u10, none, none, none, none, none] S := fun u7 u10 t ht => by
      have htb : t.natAbs ≤ 100 * p.natAbs := by
        rw [ht, Int.natAbs_mul, Nat.mul_comm]
        refine Nat.mul_le_mul_right _ ?_
        split <;> decide
      have hN : (((2 * (((t.natAbs : Nat) : Int)) * 10 ^ places + w).fdiv (2 * w))) = ((nearN p w places share : Nat) : Int) := by
        rw [Int.fdiv_eq_ediv_of_nonneg _ (by omega)]
        unfold nearN
        rw [← ht]
        have : 0 ≤ (2 * (((t.natAbs : Nat) : Int)) * 10 ^ places + w) / (2 * w) := Int.ediv_nonneg (by
          have := Int.mul_nonneg (a := 2 * (((t.natAbs : Nat) : Int))) (b := 10 ^ places) (by omega) (by omega)
          omega) (by omega)
        omega
      have hmul : (2 * (((t.natAbs : Nat) : Int)) * 10 ^ places).natAbs ≤ 2 * (100 * p.natAbs) * 10 ^ 10 := by
        rw [Int.natAbs_mul]
        exact Nat.mul_le_mul (by omega) h10
      have hNb : nearN p w places share < 2 ^ 260 := by
        have h2 : (2 * (((t.natAbs : Nat) : Int)) * 10 ^ places + w) / (2 * w) ≤ 2 * (((t.natAbs : Nat) : Int)) * 10 ^ places + w := Int.ediv_le_self _ (by
          have := Int.mul_nonneg (a := 2 * (((t.natAbs : Nat) : Int))) (b := 10 ^ places) (by omega) (by omega)
          omega)
        rw [Int.fdiv_eq_ediv_of_nonneg _ (by omega)] at hN
        omega
      unfold lawL at h1
      generalize nearN p w places share = N at *
      have lf := natD_len200 (Nat.lt_of_le_of_lt (Nat.div_le_self N (10 ^ places)) hNb)
      have lb := natD_len200 (Nat.lt_of_le_of_lt (Nat.mod_le N (10 ^ places)) hNb)
      have L4 : t__law_shown_4 Z (fin Q E) [some (.tup [.int p, .int w]), some (.str ⟨head.toArray⟩), some (.str ⟨fg.toArray⟩), some (.int (places : Int)), some (.str ⟨tail.toArray⟩), some (.bl share), some (.bl signed), some (.int t), some (.int w), some (.int (10 ^ places)), u10, some (.int (N : Int)), none, none, none, none] S := by
        have ef : ((N : Int)).fdiv (10 ^ places) = ((N / 10 ^ places : Nat) : Int) := by
          rw [Int.fdiv_eq_ediv_of_nonneg _ (by omega), Int.natCast_ediv, Int.natCast_pow]
          rfl
        have em : ((N : Int)).fmod (10 ^ places) = ((N % 10 ^ places : Nat) : Int) := by
          rw [Int.fmod_eq_emod_of_nonneg _ (by omega), Int.natCast_emod, Int.natCast_pow]
          rfl
        refine ⟨_, rfl, _, rfl, div_pos h10p (s300 (by omega)), ?_, _, rfl, _, rfl, by omega, ?_, ?_⟩
        · rw [ef]
          exact Nat.lt_trans (log2_of_lt (k := 260) (by rw [Int.natAbs_natCast]; exact Nat.lt_of_le_of_lt (Nat.div_le_self _ _) hNb) (by decide)) (by decide)
        · rw [em]
          exact Nat.lt_trans (log2_of_lt (k := 260) (by rw [Int.natAbs_natCast]; exact Nat.lt_of_le_of_lt (Nat.mod_le _ _) hNb) (by decide)) (by decide)
        rw [ef, em]
        have x1 : (Str.ofString (toString ((N / 10 ^ places : Nat) : Int))) = ⟨(natD (N / 10 ^ places)).toArray⟩ := toString_nat' _
        have x2 : (Str.ofString (toString ((N % 10 ^ places : Nat) : Int))) = ⟨(natD (N % 10 ^ places)).toArray⟩ := toString_nat' _
        rw [x1, x2]
        clear x1 x2 ef em hN hmul htb
        generalize natD (N / 10 ^ places) = fr at *
        generalize natD (N % 10 ^ places) = bk at *
        show t__law_shown_5 Z (fin Q E) [some (.tup [.int p, .int w]), some (.str ⟨head.toArray⟩), some (.str ⟨fg.toArray⟩), some (.int (places : Int)), some (.str ⟨tail.toArray⟩), some (.bl share), some (.bl signed), some (.int t), some (.int w), some (.int (10 ^ places)), u10, some (.int (N : Int)), some (.str ⟨fr.toArray⟩), some (.str ⟨bk.toArray⟩), none, none] S
        have L8 : ∀ (b2 f3 : List Nat) (u15 : Option D) (S2 : DS), Sub S S2 → b2.length ≤ 200 → f3.length ≤ 400 → Q (.str ⟨((if p < 0 ∧ 0 < N then [45] else if signed = true ∧ 0 < N then [43] else []) ++ head ++ f3 ++ (if 0 < places then 46 :: b2 else []) ++ tail).toArray⟩) S → t__law_shown_8 Z (fin Q E) [some (.tup [.int p, .int w]), some (.str ⟨head.toArray⟩), some (.str ⟨fg.toArray⟩), some (.int (places : Int)), some (.str ⟨tail.toArray⟩), some (.bl share), some (.bl signed), some (.int t), some (.int w), some (.int (10 ^ places)), u10, some (.int (N : Int)), some (.str ⟨f3.toArray⟩), some (.str ⟨b2.toArray⟩), none, u15] S2 := fun b2 f3 u15 S2 hS hb2 hf3 h1 => by
          have L9 : ∀ sg : List Nat, sg.length ≤ 1 → Q (.str ⟨(sg ++ head ++ f3 ++ (if 0 < places then 46 :: b2 else []) ++ tail).toArray⟩) S → t__law_shown_9 Z (fin Q E) [some (.tup [.int p, .int w]), some (.str ⟨head.toArray⟩), some (.str ⟨fg.toArray⟩), some (.int (places : Int)), some (.str ⟨tail.toArray⟩), some (.bl share), some (.bl signed), some (.int t), some (.int w), some (.int (10 ^ places)), u10, some (.int (N : Int)), some (.str ⟨f3.toArray⟩), some (.str ⟨b2.toArray⟩), some (.str ⟨sg.toArray⟩), u15] S2 := fun sg hsg h1 => by
            refine ⟨_, rfl, _, rfl, sh2 (by omega), _, rfl, ?_⟩
            rw [cat_mk]
            refine ⟨sh2 (by simp; omega), _, rfl, ?_⟩
            rw [cat_mk]
            refine itd (fun c => ?_) (fun c => ?_)
            · rw [if_pos (by omega)] at h1
              refine ⟨_, rfl, sh2 (l := [46]) (by simp; omega), ?_⟩
              rw [show ((("." : Str)) ++ ⟨b2.toArray⟩) = (⟨(46 :: b2).toArray⟩ : Str) from cat_mk [46] b2]
              refine ⟨sh2 (by simp; omega), _, rfl, ?_⟩
              rw [cat_mk]
              refine ⟨sh2 (by simp; omega), _, hS, ?_⟩
              rw [cat_mk]
              exact h1
            · rw [if_neg (by omega)] at h1
              refine ⟨sh2 (m := []) (by simp; omega), _, rfl, ?_⟩
              rw [show ((⟨(sg ++ head ++ f3).toArray⟩ : Str) ++ (("" : Str))) = ⟨(sg ++ head ++ f3 ++ []).toArray⟩ from cat_mk _ []]
              refine ⟨sh2 (by simp; omega), _, hS, ?_⟩
              rw [cat_mk]
              exact h1
          have plus : ¬ (p < 0 ∧ 0 < N) → (dIf (dAnd (dTru (dVar 6)) (dTest (dOp opGt (dVar 11) (dC (.int 0))))) (dC (.str "+")) (dC (.str ""))) [some (.tup [.int p, .int w]), some (.str ⟨head.toArray⟩), some (.str ⟨fg.toArray⟩), some (.int (places : Int)), some (.str ⟨tail.toArray⟩), some (.bl share), some (.bl signed), some (.int t), some (.int w), some (.int (10 ^ places)), u10, some (.int (N : Int)), some (.str ⟨f3.toArray⟩), some (.str ⟨b2.toArray⟩), none, u15] S2 (fun d S1 => gN 14 d [some (.tup [.int p, .int w]), some (.str ⟨head.toArray⟩), some (.str ⟨fg.toArray⟩), some (.int (places : Int)), some (.str ⟨tail.toArray⟩), some (.bl share), some (.bl signed), some (.int t), some (.int w), some (.int (10 ^ places)), u10, some (.int (N : Int)), some (.str ⟨f3.toArray⟩), some (.str ⟨b2.toArray⟩), none, u15] S1 (t__law_shown_9 Z (fin Q E)) (fun c S2 => (fin Q E).ex c [some (.tup [.int p, .int w]), some (.str ⟨head.toArray⟩), some (.str ⟨fg.toArray⟩), some (.int (places : Int)), some (.str ⟨tail.toArray⟩), some (.bl share), some (.bl signed), some (.int t), some (.int w), some (.int (10 ^ places)), u10, some (.int (N : Int)), some (.str ⟨f3.toArray⟩), some (.str ⟨b2.toArray⟩), none, u15] S2)) (fun c S1 => (fin Q E).ex c [some (.tup [.int p, .int w]), some (.str ⟨head.toArray⟩), some (.str ⟨fg.toArray⟩), some (.int (places : Int)), some (.str ⟨tail.toArray⟩), some (.bl share), some (.bl signed), some (.int t), some (.int w), some (.int (10 ^ places)), u10, some (.int (N : Int)), some (.str ⟨f3.toArray⟩), some (.str ⟨b2.toArray⟩), none, u15] S1) := fun hn => by
            rw [if_neg hn] at h1
            refine ⟨_, rfl, ?_⟩
            refine itb (fun c => ?_) (fun c => ?_)
            · refine ⟨_, rfl, ?_⟩
              refine itd (fun c2 => ?_) (fun c2 => ?_)
              · rw [if_pos (show signed = true ∧ 0 < N from ⟨c, by omega⟩)] at h1
                exact L9 [43] (by simp) h1
              · rw [if_neg (show ¬ (signed = true ∧ 0 < N) from fun z => c2 (by omega))] at h1
                exact L9 [] (by simp) h1
            · rw [if_neg (show ¬ (signed = true ∧ 0 < N) from fun z => by rw [c] at z; exact absurd z.1 (by decide))] at h1
              exact iff_ (L9 [] (by simp) h1)
          refine ⟨_, rfl, _, rfl, ?_⟩
          refine itd (fun c => ?_) (fun c => ?_)
          · refine ⟨_, rfl, ?_⟩
            refine itd (fun c2 => ?_) (fun c2 => ?_)
            · rw [if_pos (show p < 0 ∧ 0 < N from ⟨c, by omega⟩)] at h1
              exact L9 [45] (by simp) h1
            · exact plus fun z => c2 (by omega)
          · exact iff_ (plus fun z => c z.1)
        have L7 : ∀ (b2 f2 : List Nat), b2.length ≤ 200 → f2.length ≤ 180 → Q (.str ⟨((if p < 0 ∧ 0 < N then [45] else if signed = true ∧ 0 < N then [43] else []) ++ head ++ (if fg = hashL then partL f2 else f2) ++ (if 0 < places then 46 :: b2 else []) ++ tail).toArray⟩) S → t__law_shown_7 Z (fin Q E) [some (.tup [.int p, .int w]), some (.str ⟨head.toArray⟩), some (.str ⟨fg.toArray⟩), some (.int (places : Int)), some (.str ⟨tail.toArray⟩), some (.bl share), some (.bl signed), some (.int t), some (.int w), some (.int (10 ^ places)), u10, some (.int (N : Int)), some (.str ⟨f2.toArray⟩), some (.str ⟨b2.toArray⟩), none, none] S := fun b2 f2 hb2 hf2 h1 => by
          refine ⟨_, rfl, ?_⟩
          refine itd (fun c => ?_) (fun c => ?_)
          · rw [ehash, mk_inj] at c
            rw [if_pos c] at h1
            have hpl2 := partL_len f2
            refine ⟨by show 0 ≤ sizeLine; decide, fun pa hpa => ?_⟩
            refine ⟨fun m r S' => ∃ (l : List Nat) (gs : List (List Nat)) (pa : Addr), m = l.length ∧ gs.length + l.length ≤ 180 ∧ (gs.map List.length).sum + l.length ≤ 180 ∧ partL f2 = (if gs = [] then partL l else if l = [] then jn gs else partL l ++ 44 :: jn gs) ∧ r = [some (.tup [.int p, .int w]), some (.str ⟨head.toArray⟩), some (.str ⟨fg.toArray⟩), some (.int (places : Int)), some (.str ⟨tail.toArray⟩), some (.bl share), some (.bl signed), some (.int t), some (.int w), some (.int (10 ^ places)), u10, some (.int (N : Int)), some (.str ⟨l.toArray⟩), some (.str ⟨b2.toArray⟩), none, some (.ref pa)] ∧ Sub S S' ∧ S' pa = some (.lst (gs.map fun g => D.str ⟨g.toArray⟩)), ⟨_, f2, [], pa, rfl, by simp; omega, by simp; omega, by rw [if_pos rfl], rfl, Sub.new hpa, put_same⟩, ?_⟩
            rintro m r S' ⟨l, gs, pa, rfl, hgl, hgs, hpt, rfl, hS, hpa⟩
            refine ⟨_, rfl, ?_⟩
            refine itn (fun c2 => ?_) (fun c2 => ?_)
            · rw [ee, mk_inj] at c2
              have hl0 : 0 < l.length := List.length_pos_iff.mpr c2
              refine ⟨_, rfl, sh (by omega), by show 1 ≤ sizeLine; decide, fun e he => ?_⟩
              rw [neg3_from]
              refine ⟨_, rfl, _, _, put_same, keep_put hpa he, by rw [List.length_map, sizeLine_eq]; show 1 + gs.length ≤ _; omega, fun pa' hpa' => ?_⟩
              refine ⟨_, rfl, sh (by omega), ?_⟩
              rw [neg3_to]
              have ld : (l.drop (l.length - 3)).length = l.length - (l.length - 3) := List.length_drop
              have lt : (l.take (l.length - 3)).length = l.length - 3 := by rw [List.length_take]; omega
              refine ⟨_, (l.take (l.length - 3)).length, Sub.refl _, by omega, l.take (l.length - 3), l.drop (l.length - 3) :: gs, pa', rfl, ?_, ?_, ?_, rfl, (hS.newR he).newR hpa', put_same⟩
              · rw [List.length_cons]; omega
              · rw [List.map_cons, List.sum_cons]; omega
              · rw [if_neg (by simp)]
                by_cases c3 : 3 < l.length
                · rw [partL_big c3] at hpt
                  rw [if_neg (fun z => by rw [z] at lt; simp at lt; omega), hpt]
                  by_cases c4 : gs = []
                  · rw [if_pos c4, c4]; rfl
                  · rw [if_neg c4, if_neg c2, jn_cons _ c4]
                    simp
                · have e3 : l.length - 3 = 0 := by omega
                  rw [partL_small (l := l) (by omega)] at hpt
                  rw [e3, List.take_zero, List.drop_zero, if_pos rfl, hpt]
                  by_cases c4 : gs = []
                  · rw [if_pos c4, c4]; rfl
                  · rw [if_neg c4, if_neg c2, jn_cons _ c4]
            · rw [ee, mk_inj] at c2
              have ej : partL f2 = jn gs := by
                rw [hpt, c2]
                by_cases c4 : gs = []
                · rw [if_pos c4, c4]; rfl
                · rw [if_neg c4, if_pos rfl]
              refine ⟨⟨_, rfl⟩, _, rfl, gs.map SX.S, ?_, ?_, ?_⟩
              · rw [List.map_map]; exact hpa
              · rw [SX.lens, List.length_map]
                show (gs.map List.length).sum + gs.length * 1 ≤ 16777216
                omega
              · have ec : ((",": Str)) = SX.S [44] := rfl
                rw [ec, SX.join_S]
                show t__law_shown_8 Z (fin Q E) [some (.tup [.int p, .int w]), some (.str ⟨head.toArray⟩), some (.str ⟨fg.toArray⟩), some (.int (places : Int)), some (.str ⟨tail.toArray⟩), some (.bl share), some (.bl signed), some (.int t), some (.int w), some (.int (10 ^ places)), u10, some (.int (N : Int)), some (.str ⟨(jn gs).toArray⟩), some (.str ⟨b2.toArray⟩), none, some (.ref pa)] S'
                rw [← ej]
                exact L8 b2 _ _ S' hS hb2 (by omega) h1
          · rw [ehash, mk_inj] at c
            rw [if_neg c] at h1
            exact L8 b2 f2 _ S (Sub.refl _) hb2 (by omega) h1
        have L6 : ∀ b2 : List Nat, b2.length ≤ 200 → Q (.str ⟨((if p < 0 ∧ 0 < N then [45] else if signed = true ∧ 0 < N then [43] else []) ++ head ++ (if fg = hashL then partL (frontL fg fr) else frontL fg fr) ++ (if 0 < places then 46 :: b2 else []) ++ tail).toArray⟩) S → t__law_shown_6 Z (fin Q E) [some (.tup [.int p, .int w]), some (.str ⟨head.toArray⟩), some (.str ⟨fg.toArray⟩), some (.int (places : Int)), some (.str ⟨tail.toArray⟩), some (.bl share), some (.bl signed), some (.int t), some (.int w), some (.int (10 ^ places)), u10, some (.int (N : Int)), some (.str ⟨fr.toArray⟩), some (.str ⟨b2.toArray⟩), none, none] S := fun b2 hb2 h1 => by
          have h7 := L7 b2 (frontL fg fr) hb2 (by
            unfold frontL
            split
            · split
              · simp
              · omega
            · split
              · rw [List.length_append, List.length_replicate]; omega
              · omega) h1
          unfold frontL at h7
          refine ⟨_, rfl, ?_⟩
          refine itd (fun c => ?_) (fun c => ?_)
          · rw [eone, mk_inj] at c
            rw [if_pos c] at h7
            refine ⟨_, rfl, ?_⟩
            refine itd (fun c2 => ?_) (fun c2 => ?_)
            · rw [e0, mk_inj] at c2
              rw [if_pos c2] at h7
              exact h7
            · rw [e0, mk_inj] at c2
              rw [if_neg c2] at h7
              exact ⟨_, rfl, h7⟩
          · rw [eone, mk_inj] at c
            rw [if_neg c] at h7
            refine ⟨_, rfl, ?_⟩
            refine itn (fun c2 => ?_) (fun c2 => ?_)
            · rw [ehash, mk_inj] at c2
              rw [if_pos c2] at h7
              refine ⟨_, rfl, sh (by omega), _, rfl, sh (by omega), ?_⟩
              have hn : (((⟨fg.toArray⟩ : Str).length : Int) - ((⟨fr.toArray⟩ : Str).length : Int)).toNat = fg.length - fr.length := by rw [len_mk, len_mk]; omega
              refine ⟨rep_ok (by rw [len_mk, len_mk]; omega), _, rfl, ?_, ?_⟩
              · rw [rep_len hn, len_mk, sizeLine_eq]; omega
              dsimp only
              rw [rep_eq hn]
              exact h7
            · rw [ehash, mk_inj] at c2
              rw [if_neg (fun z => z c2)] at h7
              exact ⟨_, rfl, h7⟩
        refine ⟨_, rfl, ?_⟩
        refine itd (fun c => ?_) (fun c => ?_)
        · refine ⟨_, rfl, _, rfl, sh (by omega), ?_⟩
          have hn : (((places : Nat) : Int) - ((⟨bk.toArray⟩ : Str).length : Int)).toNat = places - bk.length := by rw [len_mk]; omega
          refine ⟨rep_ok (by rw [len_mk]; omega), _, rfl, ?_, ?_⟩
          · rw [rep_len hn, len_mk, sizeLine_eq]; omega
          dsimp only
          rw [rep_eq hn]
          exact L6 _ (by rw [List.length_append, List.length_replicate]; omega) h1
        · have hp0 : ¬ 0 < places := fun z => c (by omega)
          exact L6 [] (by simp) (by rw [if_neg hp0] at h1 ⊢; exact h1)
      have two : Sz 2 := s300 (by omega)
      refine ⟨_, rfl, ?_, _, rfl, ?_, _, rfl, _, rfl, ?_, ?_, ?_⟩
      · refine mul_sz two (s300 ?_)
        rw [abs_if, Int.natAbs_natCast]; omega
      · refine mul_sz (s300 ?_) (s300 (by omega))
        rw [abs_if, Int.natAbs_mul, Int.natAbs_natCast]
        show 2 * _ < _
        omega
      · exact mul_sz two (s300 (by omega))
      · exact div_pos (by omega) (s300 (by omega))
      rw [abs_if, hN]
      exact L4
    have L2' : ∀ t : Int, t = p * (if share = true then 100 else 1) → t__law_shown_1 Z (fin Q E) [some (.tup [.int p, .int w]), some (.str ⟨head.toArray⟩), some (.str ⟨fg.toArray⟩), some (.int (places : Int)), some (.str ⟨tail.toArray⟩), some (.bl share), some (.bl signed), some (.int t), some (.int w), none, none, none, none, none, none, none] S := fun t ht => by
      refine ⟨_, rfl, ⟨by omega, by omega⟩, fun i r S' => (∃ u10 : Option D, r = [some (.tup [.int p, .int w]), some (.str ⟨head.toArray⟩), some (.str ⟨fg.toArray⟩), some (.int (places : Int)), some (.str ⟨tail.toArray⟩), some (.bl share), some (.bl signed), some (.int t), some (.int w), some (.int (10 ^ i)), u10, none, none, none, none, none]) ∧ S' = S, ⟨⟨none, rfl⟩, rfl⟩, fun _ _ _ _ => trivial, ?_, ?_⟩
      · rintro i d r S' hd ⟨⟨u10, rfl⟩, rfl⟩
        refine ⟨_, rfl, mulR (by decide), _, Sub.refl _, ⟨some d, ?_⟩, rfl⟩
        rw [Int.pow_succ]
        rfl
      · rintro r S' ⟨⟨u10, rfl⟩, rfl⟩
        rw [rngD_len, Int.toNat_natCast]
        exact L3 none u10 t ht
    refine ⟨_, rfl, _, rfl, _, rfl, ?_⟩
    refine itb (fun c => ?_) (fun c => ?_)
    · exact ⟨mulR (by decide), _, rfl, _, rfl, L2' _ (by rw [if_pos c])⟩
    · exact ⟨mulR (by decide), _, rfl, _, rfl, L2' _ (by rw [if_neg (by rw [c]; decide)])⟩

theorem ok_law {P : Program} {w : World} {K : PySem.W.Frag} {mg : Str → Option Value} {base : Heap} {Z : Zt} {f : Addr} {fd : FuncData} {cdv : Value} (hfn : ∀ i, Z.fn i = fnOf' fnT i) (hlm : ∀ j, Z.lm j = lmT j) (hM : TxOk P w K mg base Z tx (M31 Z)) (F : FunC K "law" "law" s_law f fd cdv .none) {cA PA : Addr} (hcd : cdv = .ref cA) (hTB : LamX.TabB base mg cA PA) (hTm : (PA, ("law.<locals>.<lambda>" : Str)) ∈ Z.TL) (hTu : ∀ p ∈ Z.TL, p.1 = PA → p.2 = "law.<locals>.<lambda>") : FnOk P w K mg base (L2.CX P w) 7 f fd ["script"] (liftSp K Z sp_law) := by
  have nd := sc_law.nd
  have T : ∀ (A : Around) (outer : List Env) (s : Shared) (H : Hp) (E : XK), TabL (cxOf (L2.CX P w) P w K mg base ["script", "dice", "plain", "bad", "turn", "figures", "places", "head", "tail", "share", "signed", "pattern", "found", "value", "f", "k", "part"] "law" (defScope s_law) f cdv A outer s H E) Z cA PA "law.<locals>.<lambda>" := fun A outer s H E => ⟨hTB, hcd, hTm, hTu⟩
  refine fn_bodyC F sc_law (fun ds S Q E h => ?len) _ (fun A outer s H E hr => (pdss_cons (pds_for (passes_of rfl) (by rfl) (pdi_any (pd_call hM hr 15 2 (by rfl) (by rfl) (pda_cons (pd_var 0) (pda_cons pd_int pda_nil)))) (pdg_name nd (i := 1)) (pdss_cons (pds_for (passes_of rfl) (by rfl) (pdi_range1 hM 4 (by rfl) (pda_cons pd_int pda_nil)) (pdg_name nd (i := 4)) (pdss_cons (pds_par2 (i := 5) (j := 6) (by rfl) nd (pda_cons (pd_ix (pd_lst (pda_cons pd_str (pda_cons pd_str (pda_cons pd_str (pda_cons pd_str pda_nil))))) (pd_call hM hr 14 2 (by rfl) (by rfl) (pda_cons (pd_var 1) (pda_cons pd_int pda_nil)))) (pda_cons (pd_call hM hr 14 2 (by rfl) (by rfl) (pda_cons (pd_var 1) (pda_cons pd_int pda_nil))) pda_nil)) (by rfl))
    (pdss_cons (pds_asg (pd_tup (pda_cons (pd_ix (pd_lst (pda_cons pd_str (pda_cons pd_str (pda_cons pd_str pda_nil)))) (pd_call hM hr 14 2 (by rfl) (by rfl) (pda_cons (pd_var 1) (pda_cons pd_int pda_nil)))) (pda_cons (pd_ix (pd_lst (pda_cons pd_str (pda_cons pd_str (pda_cons pd_str pda_nil)))) (pd_call hM hr 14 2 (by rfl) (by rfl) (pda_cons (pd_var 1) (pda_cons pd_int pda_nil)))) (pda_cons (pd_cmp (od_eq (hu64 hr)) (pd_call hM hr 14 2 (by rfl) (by rfl) (pda_cons (pd_var 1) (pda_cons pd_int pda_nil))) pd_int) (pda_cons (pd_cmp (od_eq (hu64 hr)) (pd_call hM hr 14 2 (by rfl) (by rfl) (pda_cons (pd_var 1) (pda_cons pd_int pda_nil))) pd_int) pda_nil))))) (pdg_tup (n := 4) (by rfl) (pdgs_cons (pdg_name nd (i := 7)) (pdgs_cons (pdg_name nd (i := 8)) (pdgs_cons (pdg_name nd (i := 9)) (pdgs_cons (pdg_name nd (i := 10)) pdgs_nil))))))
    (pdss_cons (pds_set nd (i := 11) (pd_op od_add (pd_op od_add (pd_op od_add (pd_op od_add (pd_op od_add (pd_if (pdt_tru (pd_var 10)) pd_str pd_str) (pd_var 7)) (pd_var 5)) (pd_if (pdt_cmp od_gt (pd_var 6) pd_int) (pd_op od_add pd_str (pd_op od_mul pd_str (pd_var 6))) pd_str)) (pd_var 8)) (pd_if (pdt_tru (pd_var 9)) pd_str pd_str)))
    (pdss_cons (pds_set nd (i := 12) (pd_call hM hr 11 1 (by rfl) (by rfl) (pda_cons (pd_var 11) pda_nil)))
    (pdss_cons (pds_if (pdt_cmp (od_ne (hu64 hr)) (pd_tup (pda_cons (pd_fld hM 0 ((hfn 0).trans rfl) (pd_var 12)) (pda_cons (pd_fld hM 2 ((hfn 2).trans rfl) (pd_var 12)) (pda_cons (pd_fld hM 3 ((hfn 3).trans rfl) (pd_var 12)) (pda_cons (pd_fld hM 4 ((hfn 4).trans rfl) (pd_var 12)) (pda_cons (pd_fld hM 5 ((hfn 5).trans rfl) (pd_var 12)) (pda_cons (pd_fld hM 6 ((hfn 6).trans rfl) (pd_var 12)) pda_nil))))))) (pd_tup (pda_cons (pd_var 7) (pda_cons (pd_cmp (od_eq (hu64 hr)) (pd_var 5) pd_str) (pda_cons (pd_var 6) (pda_cons (pd_var 8) (pda_cons (pd_var 9) (pda_cons (pd_var 10) pda_nil)))))))) (pdss_one (pds_ret pd_bl)) pdss_nil)
    (pdss_cons (pds_set nd (i := 13) (pd_call hM hr 29 2 (by rfl) (by rfl) (pda_cons (pd_op od_sub (pd_call hM hr 14 2 (by rfl) (by rfl) (pda_cons (pd_var 1) (pda_cons (pd_ix (pd_lst (pda_cons pd_int (pda_cons pd_int (pda_cons (pd_op od_pow pd_int pd_int) (pda_cons (pd_op od_pow pd_int pd_int) pda_nil))))) (pd_call hM hr 14 2 (by rfl) (by rfl) (pda_cons (pd_var 1) (pda_cons pd_int pda_nil)))) pda_nil))) (pd_op od_mul (pd_call hM hr 14 2 (by rfl) (by rfl) (pda_cons (pd_var 1) (pda_cons pd_int pda_nil))) pd_int)) (pda_cons (pd_ix (pd_lst (pda_cons pd_int (pda_cons pd_int (pda_cons pd_int (pda_cons pd_int (pda_cons pd_int pda_nil)))))) (pd_call hM hr 14 2 (by rfl) (by rfl) (pda_cons (pd_var 1) (pda_cons pd_int pda_nil)))) pda_nil))))
    (pdss_one (pds_if (pdt_cmp (od_ne (hu64 hr)) (pd_meth hM hr 7 1 ((hfn 7).trans rfl) (pd_var 12) (pda_cons (pd_var 13) pda_nil)) (pd_call hM hr 30 7 (by rfl) (by rfl) (pda_cons (pd_var 13) (pda_cons (pd_var 7) (pda_cons (pd_var 5) (pda_cons (pd_var 6) (pda_cons (pd_var 8) (pda_cons (pd_var 9) (pda_cons (pd_var 10) pda_nil))))))))) (pdss_one (pds_ret pd_bl)) pdss_nil)))))))))
    (pdss_tick (pds1_set nd (i := 5) (pd1_ty hM cd_str 2 (by rfl) (by rfl) bt_str (pda1_head (pd1_call hM hr 14 2 (by rfl) (by rfl) (pda1_cons (pd_var 1) (pda1_head (pd1_op od_pow pd1_int pd_int) pda_nil))) pda_nil)))
    (pdsst_if (pdtt_or (pdtt_cmp (od_ne (hu64 hr)) (pdet_repl (pd_call hM hr 9 1 (by rfl) (by rfl) (pda_cons (pd_var 5) pda_nil))) (pd_var 5)) (pdw_or1 (pdt_cmp (od_ne (hu64 hr)) (pd_lc (by rfl) nd (pdi_enum hM 12 (by rfl) (pda_cons (pd_sm PySem.F.slot_str_split PySem.F.type_str_split md_split (pd_call hM hr 9 1 (by rfl) (by rfl) (pda_cons (pd_var 5) pda_nil)) (pda_cons pd_str pda_nil)) pda_nil)) [("k", 15), ("part", 16)] (blkOk_by (by with_unfolding_all rfl)) (by decide) (fun _ _ _ _ _ => (pdg_tup (n := 2) (by rfl) (pdgs_cons (pdg_name nd (i := 15)) (pdgs_cons (pdg_name nd (i := 16)) pdgs_nil)))) (fun _ _ _ _ _ => (pdts_one (PDW.pt (pdw_or (pdt_cmp od_gt (pd_bi hM cd_len 0 (by rfl) (by rfl) bt_len (pda_cons (pd_var 16) pda_nil)) pd_int) (pdw_or1 (PDW.pt (pdw_and (pdt_cmp od_gt (pd_var 15) pd_int) (pdw_and1 (pdt_cmp od_lt (pd_bi hM cd_len 0 (by rfl) (by rfl) bt_len (pda_cons (pd_var 16) pda_nil)) pd_int))))))))) (fun _ _ _ _ _ => (pd_var 15))) (pd_lst pda_nil)))) (pdss_one (pds_ret pd_bl)) pdss_nil))))
    (pdss_cons (pds_set nd (i := 2) (pd_call hM hr 11 1 (by rfl) (by rfl) (pda_cons pd_str pda_nil)))
    (pdss_cons (pds_if (pdt_cmp (od_ne (hu64 hr)) (pd_lc (by rfl) nd (pdi_any (pd_lst (pda_cons pd_non (pda_cons pd_bl (pda_cons pd_str (pda_cons (pd_tup (pda_cons pd_str (pda_cons pd_str pda_nil))) (pda_cons (pd_tup (pda_cons pd_int (pda_cons pd_int pda_nil))) (pda_cons (pd_tup (pda_cons (pd_neg pd_int) (pda_cons pd_int pda_nil))) (pda_cons (pd_tup (pda_cons (pd_op od_pow pd_int pd_int) (pda_cons pd_int pda_nil))) pda_nil))))))))) [("value", 13)] (blkOk_by (by with_unfolding_all rfl)) (by decide) (fun _ _ _ _ _ => (pdg_name nd (i := 13))) (fun _ _ _ _ _ => pdts_nil) (fun _ _ _ _ _ => (pd_meth hM hr 7 1 ((hfn 7).trans rfl) (pd_var 2) (pda_cons (pd_var 13) pda_nil)))) (pd_lst (pda_cons pd_str (pda_cons pd_str (pda_cons pd_str (pda_cons pd_str (pda_cons pd_str (pda_cons pd_str (pda_cons (pd_op od_add (pd_op od_add pd_str (pd_op od_mul pd_str pd_int)) pd_str) pda_nil))))))))) (pdss_one (pds_ret pd_bl)) pdss_nil)
    (pdss_cons (pds_set nd (i := 3) (pd_lst (pda_cons (pd_lam 0 ((hlm 0).trans rfl) (T A outer s H E) (by rfl) (by rfl) (by rfl) (by rfl) ⟨rfl, rfl, rfl, by decide +kernel⟩) (pda_cons (pd_lam 1 ((hlm 1).trans rfl) (T A outer s H E) (by rfl) (by rfl) (by rfl) (by rfl) ⟨rfl, rfl, rfl, by decide +kernel⟩) (pda_cons (pd_lam 2 ((hlm 2).trans rfl) (T A outer s H E) (by rfl) (by rfl) (by rfl) (by rfl) ⟨rfl, rfl, rfl, by decide +kernel⟩) (pda_cons (pd_lam 3 ((hlm 3).trans rfl) (T A outer s H E) (by rfl) (by rfl) (by rfl) (by rfl) ⟨rfl, rfl, rfl, by decide +kernel⟩) (pda_cons (pd_lam 4 ((hlm 4).trans rfl) (T A outer s H E) (by rfl) (by rfl) (by rfl) (by rfl) ⟨rfl, rfl, rfl, by decide +kernel⟩) (pda_cons (pd_lam 5 ((hlm 5).trans rfl) (T A outer s H E) (by rfl) (by rfl) (by rfl) (by rfl) ⟨rfl, rfl, rfl, by decide +kernel⟩) (pda_cons (pd_lam 6 ((hlm 6).trans rfl) (T A outer s H E) (by rfl) (by rfl) (by rfl) (by rfl) ⟨rfl, rfl, rfl, by decide +kernel⟩) (pda_cons (pd_lam 7 ((hlm 7).trans rfl) (T A outer s H E) (by rfl) (by rfl) (by rfl) (by rfl) ⟨rfl, rfl, rfl, by decide +kernel⟩) (pda_cons (pd_lam 8 ((hlm 8).trans rfl) (T A outer s H E) (by rfl) (by rfl) (by rfl) (by rfl) ⟨rfl, rfl, rfl, by decide +kernel⟩) (pda_cons (pd_lam 9 ((hlm 9).trans rfl) (T A outer s H E) (by rfl) (by rfl) (by rfl) (by rfl) ⟨rfl, rfl, rfl, by decide +kernel⟩) (pda_cons (pd_lam 10 ((hlm 10).trans rfl) (T A outer s H E) (by rfl) (by rfl) (by rfl) (by rfl) ⟨rfl, rfl, rfl, by decide +kernel⟩) (pda_cons (pd_lam 11 ((hlm 11).trans rfl) (T A outer s H E) (by rfl) (by rfl) (by rfl) (by rfl) ⟨rfl, rfl, rfl, by decide +kernel⟩) pda_nil))))))))))))))
    (pdss_one (pds_ret (pd_and (pd_cmp (od_eq (hu64 hr)) (pd_lc (by rfl) nd (pdi_any (pd_var 3)) [("f", 14)] (blkOk_by (by with_unfolding_all rfl)) (by decide) (fun _ _ _ _ _ => (pdg_name nd (i := 14))) (fun _ _ _ _ _ => (pdts_one (pdt_cmp (od_ne (hu64 hr)) (pd_call hM hr 28 1 (by rfl) (by rfl) (pda_cons (pd_var 14) pda_nil)) pd_str))) (fun _ _ _ _ _ => pd_int)) (pd_lst pda_nil)) (pd_and (pd_cmp (od_eq (hu64 hr)) (pd_glob hM 4 (by rfl) (by rfl)) pd_int) (pd_one (pd_cmp (od_eq (hu64 hr)) (pd_meth hM hr 7 1 ((hfn 7).trans rfl) (pd_call hM hr 11 1 (by rfl) (by rfl) (pda_cons pd_str pda_nil)) (pda_cons (pd_tup (pda_cons (pd_op od_pow pd_int pd_int) (pda_cons pd_int pda_nil))) pda_nil)) pd_str))))))))))) (fun ds S Q E h => ?hb)
  case len => obtain ⟨_, _, rfl, _⟩ := h; rfl
  case hb =>
    exact law_read ds S Q E h
end K08

set_option Elab.async false
set_option linter.all false
set_option maxRecDepth 100000
set_option maxHeartbeats 4000000
namespace K08
open PySem PySem.Spec PyProof.Rows L2 G
theorem all_mk {l : PySem.W.OpenLaw} {w : World} {K : PySem.W.Frag} {h : Heap} {mg mb : Str → Option Value} {mean : ExcName → Option Value} {q : Program} {loose : List Str} {fa : Addr} (X : K.In h) (T : Top q loose mean mg mb h) (hfa : mg "law" = some (.ref fa))
    (hrec : ∀ x ∈ (["law"] : List Str), ((recsOf q).any fun e => e.name == x) = true)
    {DA2 DA8 : Addr} {dq2 dq8 : Value} {dr2 dr8 : Option Addr} {dn2 dn8 : Nat} {du2 du8 : Array (Option Value)}
    {dk2_0 : Tok}
    {VT2 VT3 : Addr} {vd2 vd3 : Option Addr} {vn2 vn3 : Nat} {vs2 vs3 : Array (Option Value)}
    {vk2_0 vk2_1 vk3_0 vk3_1 : Tok}
    {C0 f0 f1 f2 f3 f4 f5 f6 f7 f8 f9 f10 f11 f12 f13 f14 f15 f16 f17 f18 X0 cA8 PA8 cA18 PA18 : Addr}
    {od0 an0 od1 an1 od2 an2 od3 an3 od4 an4 od5 an5 od6 an6 od7 an7 od8 an8 od9 an9 od10 an10 od11 an11 od12 an12 od13 an13 od14 an14 od15 an15 od16 an16 od17 an17 od18 an18 dt8 dt18 : Option Addr}
    {sl0 sl1 sl2 sl3 sl4 sl5 sl6 sl7 sl8 sl9 sl10 sl11 sl12 sl13 sl14 sl15 sl16 sl17 sl18 st8 st18 : Array (Option Value)}
    {oc0 kV0 dc0 pm0 cd0 ct0 oc1 kV1 dc1 pm1 cd1 ct1 oc2 kV2 dc2 pm2 cd2 ct2 oc3 kV3 dc3 pm3 cd3 ct3 oc4 kV4 dc4 pm4 cd4 ct4 oc5 kV5 dc5 pm5 cd5 ct5 oc6 kV6 dc6 pm6 cd6 ct6 oc7 kV7 dc7 pm7 cd7 ct7 oc8 kV8 dc8 pm8  ct8 oc9 kV9 dc9 pm9 cd9 ct9 oc10 kV10 dc10 pm10 cd10 ct10 oc11 kV11 dc11 pm11 cd11 ct11 oc12 kV12 dc12 pm12 cd12 ct12 oc13 kV13 dc13 pm13 cd13 ct13 oc14 kV14 dc14 pm14 cd14 ct14 oc15 kV15 dc15 pm15 cd15 ct15 oc16 kV16 dc16 pm16 cd16 ct16 oc17 kV17 dc17 pm17 cd17 ct17 oc18 kV18 dc18 pm18  ct18 et8 et18 : Value}
    {vt8 vt18 : Array Value}
    {tk0 tk1 tk4 : Tok}
    (aC0 : PySem.W.nsIn K mainGlobals "Format" = some (some (.ref C0)))
    (a0 : PySem.W.nsIn K mainGlobals "ten_to" = some (some (.ref f0)))
    (l0 : K.lookup f0 = some ⟨oc0, od0, .func (PySem.W.fnOf "ten_to" "ten_to" (defArgs s_ten_to) (defBody s_ten_to) (defScope s_ten_to) .none kV0 dc0 pm0 an0 cd0 ct0), sl0⟩)
    (c0 : PySem.W.codeIn K cd0 "ten_to" = true)
    (k0 : PySem.W.keepIn K (.ref f0) = true)
    (a1 : PySem.W.nsIn K mainGlobals "greatest_part" = some (some (.ref f1)))
    (l1 : K.lookup f1 = some ⟨oc1, od1, .func (PySem.W.fnOf "greatest_part" "greatest_part" (defArgs s_greatest_part) (defBody s_greatest_part) (defScope s_greatest_part) .none kV1 dc1 pm1 an1 cd1 ct1), sl1⟩)
    (c1 : PySem.W.codeIn K cd1 "greatest_part" = true)
    (k1 : PySem.W.keepIn K (.ref f1) = true)
    (a2 : PySem.W.nsIn K mainGlobals "number" = some (some (.ref f2)))
    (l2 : K.lookup f2 = some ⟨oc2, od2, .func (PySem.W.fnOf "number" "number" (defArgs s_number) (defBody s_number) (defScope s_number) (.ref DA2) kV2 dc2 pm2 an2 cd2 ct2), sl2⟩)
    (w2 : K.lookup DA2 = some ⟨dq2, dr2, .seq #[.int 1 dk2_0] dn2, du2⟩)
    (c2 : PySem.W.codeIn K cd2 "number" = true)
    (k2 : PySem.W.keepIn K (.ref f2) = true)
    (a3 : PySem.W.nsIn K mainGlobals "is_wrong" = some (some (.ref f3)))
    (l3 : K.lookup f3 = some ⟨oc3, od3, .func (PySem.W.fnOf "is_wrong" "is_wrong" (defArgs s_is_wrong) (defBody s_is_wrong) (defScope s_is_wrong) .none kV3 dc3 pm3 an3 cd3 ct3), sl3⟩)
    (c3 : PySem.W.codeIn K cd3 "is_wrong" = true)
    (k3 : PySem.W.keepIn K (.ref f3) = true)
    (a4 : PySem.W.nsIn K mainGlobals "is_number" = some (some (.ref f4)))
    (l4 : K.lookup f4 = some ⟨oc4, od4, .func (PySem.W.fnOf "is_number" "is_number" (defArgs s_is_number) (defBody s_is_number) (defScope s_is_number) .none kV4 dc4 pm4 an4 cd4 ct4), sl4⟩)
    (c4 : PySem.W.codeIn K cd4 "is_number" = true)
    (k4 : PySem.W.keepIn K (.ref f4) = true)
    (a5 : PySem.W.nsIn K mainGlobals "number_text" = some (some (.ref f5)))
    (l5 : K.lookup f5 = some ⟨oc5, od5, .func (PySem.W.fnOf "number_text" "number_text" (defArgs s_number_text) (defBody s_number_text) (defScope s_number_text) .none kV5 dc5 pm5 an5 cd5 ct5), sl5⟩)
    (c5 : PySem.W.codeIn K cd5 "number_text" = true)
    (k5 : PySem.W.keepIn K (.ref f5) = true)
    (a6 : PySem.W.nsIn K mainGlobals "as_text" = some (some (.ref f6)))
    (l6 : K.lookup f6 = some ⟨oc6, od6, .func (PySem.W.fnOf "as_text" "as_text" (defArgs s_as_text) (defBody s_as_text) (defScope s_as_text) .none kV6 dc6 pm6 an6 cd6 ct6), sl6⟩)
    (c6 : PySem.W.codeIn K cd6 "as_text" = true)
    (k6 : PySem.W.keepIn K (.ref f6) = true)
    (a7 : PySem.W.nsIn K mainGlobals "rounded" = some (some (.ref f7)))
    (l7 : K.lookup f7 = some ⟨oc7, od7, .func (PySem.W.fnOf "rounded" "rounded" (defArgs s_rounded) (defBody s_rounded) (defScope s_rounded) .none kV7 dc7 pm7 an7 cd7 ct7), sl7⟩)
    (c7 : PySem.W.codeIn K cd7 "rounded" = true)
    (k7 : PySem.W.keepIn K (.ref f7) = true)
    (a8 : PySem.W.findIn K (.ref C0) "__init__" = some (some (.ref f8)))
    (i8 : PySem.W.isFn K (.ref f8) = true)
    (l8 : K.lookup f8 = some ⟨oc8, od8, .func (PySem.W.fnOf "__init__" "Format.__init__" (defArgs s_Format___init__) (defBody s_Format___init__) (defScope s_Format___init__) (.ref DA8) kV8 dc8 pm8 an8 (.ref cA8) ct8), sl8⟩)
    (w8 : K.lookup DA8 = some ⟨dq8, dr8, .seq #[.bool false, .bool false] dn8, du8⟩)
    (c8 : PySem.W.codeIn K (.ref cA8) "Format.__init__" = true)
    (k8 : PySem.W.keepIn K (.ref f8) = true)
    (t8 : K.lookup cA8 = some ⟨et8, dt8, .fields vt8, st8⟩)
    (p8 : vt8[11]? = some (.ref PA8))
    (n8 : K.lookup PA8 = none)
    (ch8 : PySem.W.codeHdIn K cA8 PA8 = true)
    (tm8 : h.get? PA8 = some { cls := .none, data := .fields #[] })
    (a9 : PySem.W.nsIn K mainGlobals "parted_figures" = some (some (.ref f9)))
    (l9 : K.lookup f9 = some ⟨oc9, od9, .func (PySem.W.fnOf "parted_figures" "parted_figures" (defArgs s_parted_figures) (defBody s_parted_figures) (defScope s_parted_figures) .none kV9 dc9 pm9 an9 cd9 ct9), sl9⟩)
    (c9 : PySem.W.codeIn K cd9 "parted_figures" = true)
    (k9 : PySem.W.keepIn K (.ref f9) = true)
    (a10 : PySem.W.findIn K (.ref C0) "text" = some (some (.ref f10)))
    (i10 : PySem.W.isFn K (.ref f10) = true)
    (l10 : K.lookup f10 = some ⟨oc10, od10, .func (PySem.W.fnOf "text" "Format.text" (defArgs s_Format_text) (defBody s_Format_text) (defScope s_Format_text) .none kV10 dc10 pm10 an10 cd10 ct10), sl10⟩)
    (c10 : PySem.W.codeIn K cd10 "Format.text" = true)
    (k10 : PySem.W.keepIn K (.ref f10) = true)
    (a11 : PySem.W.nsIn K mainGlobals "parse_format" = some (some (.ref f11)))
    (l11 : K.lookup f11 = some ⟨oc11, od11, .func (PySem.W.fnOf "parse_format" "parse_format" (defArgs s_parse_format) (defBody s_parse_format) (defScope s_parse_format) .none kV11 dc11 pm11 an11 cd11 ct11), sl11⟩)
    (c11 : PySem.W.codeIn K cd11 "parse_format" = true)
    (k11 : PySem.W.keepIn K (.ref f11) = true)
    (a12 : PySem.W.nsIn K mainGlobals "_law_dice" = some (some (.ref f12)))
    (l12 : K.lookup f12 = some ⟨oc12, od12, .func (PySem.W.fnOf "_law_dice" "_law_dice" (defArgs s__law_dice) (defBody s__law_dice) (defScope s__law_dice) .none kV12 dc12 pm12 an12 cd12 ct12), sl12⟩)
    (c12 : PySem.W.codeIn K cd12 "_law_dice" = true)
    (k12 : PySem.W.keepIn K (.ref f12) = true)
    (a13 : PySem.W.nsIn K mainGlobals "_law_roll" = some (some (.ref f13)))
    (l13 : K.lookup f13 = some ⟨oc13, od13, .func (PySem.W.fnOf "_law_roll" "_law_roll" (defArgs s__law_roll) (defBody s__law_roll) (defScope s__law_roll) .none kV13 dc13 pm13 an13 cd13 ct13), sl13⟩)
    (c13 : PySem.W.codeIn K cd13 "_law_roll" = true)
    (k13 : PySem.W.keepIn K (.ref f13) = true)
    (a14 : PySem.W.nsIn K mainGlobals "_law_rounds" = some (some (.ref f14)))
    (l14 : K.lookup f14 = some ⟨oc14, od14, .func (PySem.W.fnOf "_law_rounds" "_law_rounds" (defArgs s__law_rounds) (defBody s__law_rounds) (defScope s__law_rounds) .none kV14 dc14 pm14 an14 cd14 ct14), sl14⟩)
    (c14 : PySem.W.codeIn K cd14 "_law_rounds" = true)
    (k14 : PySem.W.keepIn K (.ref f14) = true)
    (a15 : PySem.W.nsIn K mainGlobals "_law_told" = some (some (.ref f15)))
    (l15 : K.lookup f15 = some ⟨oc15, od15, .func (PySem.W.fnOf "_law_told" "_law_told" (defArgs s__law_told) (defBody s__law_told) (defScope s__law_told) .none kV15 dc15 pm15 an15 cd15 ct15), sl15⟩)
    (c15 : PySem.W.codeIn K cd15 "_law_told" = true)
    (k15 : PySem.W.keepIn K (.ref f15) = true)
    (a16 : PySem.W.nsIn K mainGlobals "_law_num" = some (some (.ref f16)))
    (l16 : K.lookup f16 = some ⟨oc16, od16, .func (PySem.W.fnOf "_law_num" "_law_num" (defArgs s__law_num) (defBody s__law_num) (defScope s__law_num) .none kV16 dc16 pm16 an16 cd16 ct16), sl16⟩)
    (c16 : PySem.W.codeIn K cd16 "_law_num" = true)
    (k16 : PySem.W.keepIn K (.ref f16) = true)
    (a17 : PySem.W.nsIn K mainGlobals "_law_shown" = some (some (.ref f17)))
    (l17 : K.lookup f17 = some ⟨oc17, od17, .func (PySem.W.fnOf "_law_shown" "_law_shown" (defArgs s__law_shown) (defBody s__law_shown) (defScope s__law_shown) .none kV17 dc17 pm17 an17 cd17 ct17), sl17⟩)
    (c17 : PySem.W.codeIn K cd17 "_law_shown" = true)
    (k17 : PySem.W.keepIn K (.ref f17) = true)
    (a18 : PySem.W.nsIn K mainGlobals "law" = some (some (.ref f18)))
    (l18 : K.lookup f18 = some ⟨oc18, od18, .func (PySem.W.fnOf "law" "law" (defArgs s_law) (defBody s_law) (defScope s_law) .none kV18 dc18 pm18 an18 (.ref cA18) ct18), sl18⟩)
    (c18 : PySem.W.codeIn K (.ref cA18) "law" = true)
    (k18 : PySem.W.keepIn K (.ref f18) = true)
    (t18 : K.lookup cA18 = some ⟨et18, dt18, .fields vt18, st18⟩)
    (p18 : vt18[11]? = some (.ref PA18))
    (n18 : K.lookup PA18 = none)
    (pg0 : PySem.W.plainGet K C0 Str.empty = true)
    (hd0 : PySem.W.hasDictIn K C0 = true)
    (po0 : PySem.W.plainOver K C0 = true)
    (sa0 : PySem.W.findIn K (.ref C0) "__setattr__" = some (some (.builtin "object.__setattr__")))
    (mk0 : PySem.W.makesIn K C0 = true)
    (kc0 : PySem.W.keepIn K (.ref C0) = true)
    (nf0_0 : PySem.W.findIn K (.ref C0) "head" = some none)
    (nf0_1 : PySem.W.findIn K (.ref C0) "least" = some none)
    (nf0_2 : PySem.W.findIn K (.ref C0) "parted" = some none)
    (nf0_3 : PySem.W.findIn K (.ref C0) "places" = some none)
    (nf0_4 : PySem.W.findIn K (.ref C0) "tail" = some none)
    (nf0_5 : PySem.W.findIn K (.ref C0) "share" = some none)
    (nf0_6 : PySem.W.findIn K (.ref C0) "signed" = some none)
    (v0 : PySem.W.nsIn K mainGlobals "MOST_DIGITS" = some (some (.int 30 tk0)))
    (v1 : PySem.W.nsIn K mainGlobals "TOO_LARGE" = some (some (.int (10 ^ 30) tk1)))
    (v2 : PySem.W.nsIn K mainGlobals "DIVIDED" = some (some (.ref VT2)))
    (y2 : K.lookup VT2 = some ⟨.type "tuple", vd2, .seq #[.str "#" vk2_0, .str "parted by nothing" vk2_1] vn2, vs2⟩)
    (v3 : PySem.W.nsIn K mainGlobals "LARGE" = some (some (.ref VT3)))
    (y3 : K.lookup VT3 = some ⟨.type "tuple", vd3, .seq #[.str "#" vk3_0, .str "too large" vk3_1] vn3, vs3⟩)
    (v4 : PySem.W.nsIn K mainGlobals "MOST_PLACES" = some (some (.int 10 tk4)))
    (z0 : PySem.W.nsIn K mainGlobals "len" = some none)
    (z1 : PySem.W.nsIn K mainGlobals "any" = some none)
    (z2 : PySem.W.nsIn K mainGlobals "str" = some none)
    (z3 : PySem.W.nsIn K mainGlobals "int" = some none)
    (z4 : PySem.W.nsIn K mainGlobals "range" = some none)
    (z5 : PySem.W.nsIn K mainGlobals "list" = some none)
    (z6 : PySem.W.nsIn K mainGlobals "min" = some none)
    (z7 : PySem.W.nsIn K mainGlobals "max" = some none)
    (z8 : PySem.W.nsIn K mainGlobals "abs" = some none)
    (z9 : PySem.W.nsIn K mainGlobals "isinstance" = some none)
    (z10 : PySem.W.nsIn K mainGlobals "tuple" = some none)
    (z11 : PySem.W.nsIn K mainGlobals "bool" = some none)
    (z12 : PySem.W.nsIn K mainGlobals "enumerate" = some none)
    (x0 : PySem.W.nsIn K mainGlobals "TableError" = some (some (.ref X0)))
    (xe0 : PySem.W.excIn K X0 [.type "ValueError", .type "Exception", .type "BaseException", .type "object"] "ValueError.__new__" = true)
    (xk0 : PySem.W.keepIn K (.ref X0) = true)
    (xb0 : PySem.W.subIn K (.ref X0) (.type "BaseException") = some true)
    (xt0 : PySem.W.typeIn K (.ref X0) = some (.type "type"))
    (xc0 : PySem.W.isClsIn K X0 = true)
    (xs0_0 : PySem.W.subIn K (.ref X0) (.ref X0) = some true)
    (ne8_18 : PA18 ≠ PA8)
    : LamX.LawAtS l w K (L2.CX l.prog w) 7 63 "script" mg fa h := by
  have GN := T.g
  have e := hfa.symm.trans (PySem.W.mg_of X GN a18)
  have e2 : f18 = fa := (Value.ref.inj (Option.some.inj e)).symm
  subst e2
  let Z : Zt := { T := [PA8], TL := [(PA18, "law.<locals>.<lambda>")], lm := lmT, cm := fun c => match c with | 0 => C0 | _ => 0, fn := fnOf' fnT, ex := fun i => match i with | 0 => .ref X0 | _ => .none, inj := fnOf'_inj (by decide +kernel) (by decide +kernel) }
  let fad : Nat → Addr := fun i => match i with | 0 => f0 | 1 => f1 | 2 => f2 | 3 => f3 | 4 => f4 | 5 => f5 | 6 => f6 | 7 => f7 | 8 => f8 | 9 => f9 | 10 => f10 | 11 => f11 | 12 => f12 | 13 => f13 | 14 => f13 | 15 => f14 | 28 => f15 | 29 => f16 | 30 => f17 | 31 => f18 | _ => 0
  have hfn : ∀ i, Z.fn i = fnOf' fnT i := fun _ => rfl
  have hlm : ∀ j, Z.lm j = lmT j := fun _ => rfl
  have tb8 : PySem.W.CodeHd h cA8 PA8 ∧ h.get? PA8 = some { cls := .none, data := .fields #[] } := ⟨PySem.W.codeHd_of_K X ch8, tm8⟩
  have tb18 := tab_ofTop T X (hrec "law" (by simp)) (PySem.W.mg_of X GN a18) l18 rfl t18 p18
  have F0 := fun_mkC (st := s_ten_to) l0 c0
  have F1 := fun_mkC (st := s_greatest_part) l1 c1
  have F2 := fun_mkC (st := s_number) l2 c2
  have F3 := fun_mkC (st := s_is_wrong) l3 c3
  have F4 := fun_mkC (st := s_is_number) l4 c4
  have F5 := fun_mkC (st := s_number_text) l5 c5
  have F6 := fun_mkC (st := s_as_text) l6 c6
  have F7 := fun_mkC (st := s_rounded) l7 c7
  have F8 := fun_mkC (st := s_Format___init__) l8 c8
  have F9 := fun_mkC (st := s_parted_figures) l9 c9
  have F10 := fun_mkC (st := s_Format_text) l10 c10
  have F11 := fun_mkC (st := s_parse_format) l11 c11
  have F12 := fun_mkC (st := s__law_dice) l12 c12
  have F13 := fun_mkC (st := s__law_roll) l13 c13
  have F14 := fun_mkC (st := s__law_rounds) l14 c14
  have F15 := fun_mkC (st := s__law_told) l15 c15
  have F16 := fun_mkC (st := s__law_num) l16 c16
  have F17 := fun_mkC (st := s__law_shown) l17 c17
  have F18 := fun_mkC (st := s_law) l18 c18
  have TS : TxS K mg Z tx fad := by
    refine ⟨fun i x h => ?fn, fun c m i h => ?mt, fun c x i hx h => ?it, fun c i h => ?fl, fun i x d h => ?va, fun i x h => ?bl, fun i x h => ?xn, fun i j b h => ?sb⟩
    case fn =>
      match i, h with
      | 0, h => cases h; exact ⟨PySem.W.mg_of X GN a0, k0⟩
      | 1, h => cases h; exact ⟨PySem.W.mg_of X GN a1, k1⟩
      | 2, h => cases h; exact ⟨PySem.W.mg_of X GN a2, k2⟩
      | 3, h => cases h; exact ⟨PySem.W.mg_of X GN a3, k3⟩
      | 4, h => cases h; exact ⟨PySem.W.mg_of X GN a4, k4⟩
      | 5, h => cases h; exact ⟨PySem.W.mg_of X GN a5, k5⟩
      | 6, h => cases h; exact ⟨PySem.W.mg_of X GN a6, k6⟩
      | 7, h => cases h; exact ⟨PySem.W.mg_of X GN a7, k7⟩
      | 9, h => cases h; exact ⟨PySem.W.mg_of X GN a9, k9⟩
      | 11, h => cases h; exact ⟨PySem.W.mg_of X GN a11, k11⟩
      | 12, h => cases h; exact ⟨PySem.W.mg_of X GN a12, k12⟩
      | 13, h => cases h; exact ⟨PySem.W.mg_of X GN a13, k13⟩
      | 14, h => cases h; exact ⟨PySem.W.mg_of X GN a13, k13⟩
      | 15, h => cases h; exact ⟨PySem.W.mg_of X GN a14, k14⟩
      | 28, h => cases h; exact ⟨PySem.W.mg_of X GN a15, k15⟩
      | 29, h => cases h; exact ⟨PySem.W.mg_of X GN a16, k16⟩
      | 30, h => cases h; exact ⟨PySem.W.mg_of X GN a17, k17⟩
      | 31, h => cases h; exact ⟨PySem.W.mg_of X GN a18, k18⟩
      | 8, h => exact nomatch (show (none : Option Str) = some x from h)
      | 10, h => exact nomatch (show (none : Option Str) = some x from h)
      | 16, h => exact nomatch (show (none : Option Str) = some x from h)
      | 17, h => exact nomatch (show (none : Option Str) = some x from h)
      | 18, h => exact nomatch (show (none : Option Str) = some x from h)
      | 19, h => exact nomatch (show (none : Option Str) = some x from h)
      | 20, h => exact nomatch (show (none : Option Str) = some x from h)
      | 21, h => exact nomatch (show (none : Option Str) = some x from h)
      | 22, h => exact nomatch (show (none : Option Str) = some x from h)
      | 23, h => exact nomatch (show (none : Option Str) = some x from h)
      | 24, h => exact nomatch (show (none : Option Str) = some x from h)
      | 25, h => exact nomatch (show (none : Option Str) = some x from h)
      | 26, h => exact nomatch (show (none : Option Str) = some x from h)
      | 27, h => exact nomatch (show (none : Option Str) = some x from h)
      | n + 32, h => exact nomatch (show (none : Option Str) = some x from h)
    case mt =>
      have key : ∀ c m i, tx.mt c m = some i → (c = 0 ∧ m = 7 ∧ i = 10) := by
        intro c m i h
        unfold tx at h
        simp only at h
        split at h <;> simp_all
      rcases key c m i h with ⟨rfl, rfl, rfl⟩
      · exact ⟨⟨pg0, hd0, po0, sa0⟩, a10, i10, k10⟩
    case it =>
      match c, hx, h with
      | 0, hx, h => cases hx; cases h; exact ⟨PySem.W.mg_of X GN aC0, mk0, a8, i8, kc0⟩
      | n + 1, hx, h => exact nomatch (show (none : Option Nat) = some i from h)
    case fl =>
      have key : ∀ c i, tx.fl c i = true → (c = 0 ∧ i = 0) ∨ (c = 0 ∧ i = 1) ∨ (c = 0 ∧ i = 2) ∨ (c = 0 ∧ i = 3) ∨ (c = 0 ∧ i = 4) ∨ (c = 0 ∧ i = 5) ∨ (c = 0 ∧ i = 6) := by
        intro c i h
        unfold tx at h
        simp only at h
        split at h <;> simp_all
      rcases key c i h with ⟨rfl, rfl⟩ | ⟨rfl, rfl⟩ | ⟨rfl, rfl⟩ | ⟨rfl, rfl⟩ | ⟨rfl, rfl⟩ | ⟨rfl, rfl⟩ | ⟨rfl, rfl⟩
      · exact ⟨⟨pg0, hd0, po0, sa0⟩, nf0_0⟩
      · exact ⟨⟨pg0, hd0, po0, sa0⟩, nf0_1⟩
      · exact ⟨⟨pg0, hd0, po0, sa0⟩, nf0_2⟩
      · exact ⟨⟨pg0, hd0, po0, sa0⟩, nf0_3⟩
      · exact ⟨⟨pg0, hd0, po0, sa0⟩, nf0_4⟩
      · exact ⟨⟨pg0, hd0, po0, sa0⟩, nf0_5⟩
      · exact ⟨⟨pg0, hd0, po0, sa0⟩, nf0_6⟩
    case va =>
      match i, h with
      | 0, h => cases h; exact ⟨_, .int 30, PySem.W.mg_of X GN v0, ⟨_, rfl⟩, fun _ => dv_int.mpr rfl⟩
      | 1, h => cases h; exact ⟨_, .int (10 ^ 30), PySem.W.mg_of X GN v1, ⟨_, rfl⟩, fun _ => dv_int.mpr rfl⟩
      | 2, h => cases h; exact ⟨_, .ref VT2, PySem.W.mg_of X GN v2, rfl, fun _ => dv_tup.mpr ⟨VT2, [.str "#", .str "parted by nothing"], rfl, .inr ⟨_, _, _, y2, rfl, rfl, (by show 2 ≤ sizeLine; decide), (.cons ⟨_, rfl⟩ (.cons ⟨_, rfl⟩ .nil))⟩, (DVs.cons (dv_str.mpr rfl) (DVs.cons (dv_str.mpr rfl) (dvs_nil.mpr rfl)))⟩⟩
      | 3, h => cases h; exact ⟨_, .ref VT3, PySem.W.mg_of X GN v3, rfl, fun _ => dv_tup.mpr ⟨VT3, [.str "#", .str "too large"], rfl, .inr ⟨_, _, _, y3, rfl, rfl, (by show 2 ≤ sizeLine; decide), (.cons ⟨_, rfl⟩ (.cons ⟨_, rfl⟩ .nil))⟩, (DVs.cons (dv_str.mpr rfl) (DVs.cons (dv_str.mpr rfl) (dvs_nil.mpr rfl)))⟩⟩
      | 4, h => cases h; exact ⟨_, .int 10, PySem.W.mg_of X GN v4, ⟨_, rfl⟩, fun _ => dv_int.mpr rfl⟩
      | n + 5, h => exact nomatch (show (none : Option (Str × D)) = some (x, d) from h)
    case bl =>
      match i, h with
      | 0, h => cases h; exact PySem.W.mg_none_of X GN z0
      | 1, h => cases h; exact PySem.W.mg_none_of X GN z1
      | 2, h => cases h; exact PySem.W.mg_none_of X GN z2
      | 3, h => cases h; exact PySem.W.mg_none_of X GN z3
      | 4, h => cases h; exact PySem.W.mg_none_of X GN z4
      | 5, h => cases h; exact PySem.W.mg_none_of X GN z5
      | 6, h => cases h; exact PySem.W.mg_none_of X GN z6
      | 7, h => cases h; exact PySem.W.mg_none_of X GN z7
      | 8, h => cases h; exact PySem.W.mg_none_of X GN z8
      | 9, h => cases h; exact PySem.W.mg_none_of X GN z9
      | 10, h => cases h; exact PySem.W.mg_none_of X GN z10
      | 11, h => cases h; exact PySem.W.mg_none_of X GN z11
      | 12, h => cases h; exact PySem.W.mg_none_of X GN z12
      | n + 13, h => exact nomatch (show (none : Option Str) = some x from h)
    case xn =>
      match i, h with
      | 0, h => cases h; exact ⟨X0, _, _, _, _, rfl, PySem.W.mg_of X GN x0, PySem.F.excBase_ValueError, xe0, xk0, xb0, xt0⟩
      | n + 1, h => exact nomatch (show (none : Option Str) = some x from h)
    case sb =>
      have key : ∀ i j b, tx.sb i j = some b → (i = 0 ∧ j = 0 ∧ b = true) := by
        intro i j b h
        unfold tx at h
        simp only at h
        split at h <;> simp_all
      rcases key i j b h with ⟨rfl, rfl, rfl⟩
      · exact exm_of xb0 xc0 xt0 xs0_0
  refine ⟨PySem.W.fnOf "law" "law" (defArgs s_law) (defBody s_law) (defScope s_law) .none kV18 dc18 pm18 an18 (.ref cA18) ct18, [(cA8, PA8), (cA18, PA18)], liftSp K Z sp_law, ?c1, ?c2, ?c3, fun s u => .of_eq rfl, ?c4, fun base KB GB hTB => ?c5⟩
  case c1 =>
    intro p hp
    simp only [List.mem_cons, List.mem_nil_iff, or_false] at hp
    rcases hp with rfl | rfl
    · exact tb8.2
    · exact tb18.2
  case c2 =>
    intro p hp
    simp only [List.mem_cons, List.mem_nil_iff, or_false] at hp
    rcases hp with rfl | rfl
    · exact n8
    · exact n18
  case c3 =>
    intro p hp
    simp only [List.mem_cons, List.mem_nil_iff, or_false] at hp
    rcases hp with rfl | rfl
    · exact tb8.1
    · exact tb18.1
  case c4 =>
    intro H a ns _ _ hH hS
    refine start_sp (fun P hP => ?_) (fun p hp => ?_) hS fun S x Q E hx hQ => ⟨ns, x, rfl, hx, hQ⟩
    · have hP : P ∈ ([PA8] : List Addr) := hP
      simp only [List.mem_cons, List.mem_nil_iff, or_false] at hP
      have eP := hP
      · rw [eP]; exact hH (cA8, PA8) (by simp)
    · have hp : p ∈ ([(PA18, "law.<locals>.<lambda>")] : List (Addr × Str)) := hp
      simp only [List.mem_cons, List.mem_nil_iff, or_false] at hp
      rcases hp with rfl
      · exact hH (cA18, PA18) (by simp)
  case c5 =>
    have B8 := hTB (cA8, PA8) (by simp)
    have B18 := hTB (cA18, PA18) (by simp)
    have D0 : Done l.prog w K mg base Z fad [] := Done.nil
    have M0' := TS.ok D0
    have D1 : Done l.prog w K mg base Z fad (M1 Z) := D0.snoc (M := M0 Z) (Good.ofFn rfl (ok_ten_to (f := f0) hfn hlm M0' F0))
    have M1' := TS.ok D1
    have D2 : Done l.prog w K mg base Z fad (M2 Z) := D1.snoc (M := M1 Z) (Good.ofFn rfl (ok_greatest_part (f := f1) hfn hlm M1' F1))
    have M2' := TS.ok D2
    have D3 : Done l.prog w K mg base Z fad (M3 Z) := D2.snoc (M := M2 Z) (Good.ofFn rfl (ok_number (f := f2) hfn hlm M2' F2 k2 (dvs := [.int 1]) rfl (.inr ⟨by simp, DA2, _, _, _, rfl, w2, rfl, (.cons ⟨_, rfl⟩ .nil)⟩) (fun _ => (DVs.cons (dv_int.mpr rfl) (dvs_nil.mpr rfl)))))
    have M3' := TS.ok D3
    have D4 : Done l.prog w K mg base Z fad (M4 Z) := D3.snoc (M := M3 Z) (Good.ofFn rfl (ok_is_wrong (f := f3) hfn hlm M3' F3))
    have M4' := TS.ok D4
    have D5 : Done l.prog w K mg base Z fad (M5 Z) := D4.snoc (M := M4 Z) (Good.ofFn rfl (ok_is_number (f := f4) hfn hlm M4' F4))
    have M5' := TS.ok D5
    have D6 : Done l.prog w K mg base Z fad (M6 Z) := D5.snoc (M := M5 Z) (Good.ofFn rfl (ok_number_text (f := f5) hfn hlm M5' F5))
    have M6' := TS.ok D6
    have D7 : Done l.prog w K mg base Z fad (M7 Z) := D6.snoc (M := M6 Z) (Good.ofFn rfl (ok_as_text (f := f6) hfn hlm M6' F6))
    have M7' := TS.ok D7
    have D8 : Done l.prog w K mg base Z fad (M8 Z) := D7.snoc (M := M7 Z) (Good.ofFn rfl (ok_rounded (f := f7) hfn hlm M7' F7))
    have M8' := TS.ok D8
    have D9 : Done l.prog w K mg base Z fad (M9 Z) := D8.snoc (M := M8 Z) (Good.ofFn rfl (ok_Format___init__ (f := f8) hfn hlm M8' F8 k8 (dvs := [.bl false, .bl false]) rfl (.inr ⟨by simp, DA8, _, _, _, rfl, w8, rfl, (.cons rfl (.cons rfl .nil))⟩) (fun _ => (DVs.cons (dv_bl.mpr rfl) (DVs.cons (dv_bl.mpr rfl) (dvs_nil.mpr rfl)))) rfl ⟨B8.code, B8.bm, B8.gP⟩ (by simp [Z]) (fun p hp => by simp [Z] at hp; rw [hp]; exact ne8_18)))
    have M9' := TS.ok D9
    have D10 : Done l.prog w K mg base Z fad (M10 Z) := D9.snoc (M := M9 Z) (Good.ofFn rfl (ok_parted_figures (f := f9) hfn hlm M9' F9))
    have M10' := TS.ok D10
    have D11 : Done l.prog w K mg base Z fad (M11 Z) := D10.snoc (M := M10 Z) (Good.ofFn rfl (ok_Format_text (f := f10) hfn hlm M10' F10))
    have M11' := TS.ok D11
    have D12 : Done l.prog w K mg base Z fad (M12 Z) := D11.snoc (M := M11 Z) (Good.ofFn rfl (ok_parse_format (f := f11) hfn hlm M11' F11))
    have M12' := TS.ok D12
    have D13 : Done l.prog w K mg base Z fad (M13 Z) := D12.snoc (M := M12 Z) (Good.ofFn rfl (ok__law_dice (f := f12) hfn hlm M12' F12))
    have M13' := TS.ok D13
    have D14 : Done l.prog w K mg base Z fad (M14 Z) := D13.snoc (M := M13 Z) (Good.ofFn rfl (ok__law_roll (f := f13) hfn hlm M13' F13))
    have M14' := TS.ok D14
    have D15 : Done l.prog w K mg base Z fad (M15 Z) := D14.snoc (M := M14 Z) (Good.ofFn rfl (ok__law_roll_at_1 (f := f13) hfn hlm M14' F13))
    have M15' := TS.ok D15
    have D16 : Done l.prog w K mg base Z fad (M16 Z) := D15.snoc (M := M15 Z) (Good.ofFn rfl (ok__law_rounds (f := f14) hfn hlm M15' F14))
    have M16' := TS.ok D16
    have D17 : Done l.prog w K mg base Z fad (M17 Z) := D16.snoc (M := M16 Z) (Good.ofLam (j := 0) rfl rfl (ok_lam_0 hfn M16' rfl))
    have M17' := TS.ok D17
    have D18 : Done l.prog w K mg base Z fad (M18 Z) := D17.snoc (M := M17 Z) (Good.ofLam (j := 1) rfl rfl (ok_lam_1 hfn M17' rfl))
    have M18' := TS.ok D18
    have D19 : Done l.prog w K mg base Z fad (M19 Z) := D18.snoc (M := M18 Z) (Good.ofLam (j := 2) rfl rfl (ok_lam_2 hfn M18' rfl))
    have M19' := TS.ok D19
    have D20 : Done l.prog w K mg base Z fad (M20 Z) := D19.snoc (M := M19 Z) (Good.ofLam (j := 3) rfl rfl (ok_lam_3 hfn M19' rfl))
    have M20' := TS.ok D20
    have D21 : Done l.prog w K mg base Z fad (M21 Z) := D20.snoc (M := M20 Z) (Good.ofLam (j := 4) rfl rfl (ok_lam_4 hfn M20' rfl))
    have M21' := TS.ok D21
    have D22 : Done l.prog w K mg base Z fad (M22 Z) := D21.snoc (M := M21 Z) (Good.ofLam (j := 5) rfl rfl (ok_lam_5 hfn M21' rfl))
    have M22' := TS.ok D22
    have D23 : Done l.prog w K mg base Z fad (M23 Z) := D22.snoc (M := M22 Z) (Good.ofLam (j := 6) rfl rfl (ok_lam_6 hfn M22' rfl))
    have M23' := TS.ok D23
    have D24 : Done l.prog w K mg base Z fad (M24 Z) := D23.snoc (M := M23 Z) (Good.ofLam (j := 7) rfl rfl (ok_lam_7 hfn M23' rfl))
    have M24' := TS.ok D24
    have D25 : Done l.prog w K mg base Z fad (M25 Z) := D24.snoc (M := M24 Z) (Good.ofLam (j := 8) rfl rfl (ok_lam_8 hfn M24' rfl))
    have M25' := TS.ok D25
    have D26 : Done l.prog w K mg base Z fad (M26 Z) := D25.snoc (M := M25 Z) (Good.ofLam (j := 9) rfl rfl (ok_lam_9 hfn M25' rfl))
    have M26' := TS.ok D26
    have D27 : Done l.prog w K mg base Z fad (M27 Z) := D26.snoc (M := M26 Z) (Good.ofLam (j := 10) rfl rfl (ok_lam_10 hfn M26' rfl))
    have M27' := TS.ok D27
    have D28 : Done l.prog w K mg base Z fad (M28 Z) := D27.snoc (M := M27 Z) (Good.ofLam (j := 11) rfl rfl (ok_lam_11 hfn M27' rfl))
    have M28' := TS.ok D28
    have D29 : Done l.prog w K mg base Z fad (M29 Z) := D28.snoc (M := M28 Z) (Good.ofFn rfl (ok__law_told (f := f15) hfn hlm M28' F15))
    have M29' := TS.ok D29
    have D30 : Done l.prog w K mg base Z fad (M30 Z) := D29.snoc (M := M29 Z) (Good.ofFn rfl (ok__law_num (f := f16) hfn hlm M29' F16))
    have M30' := TS.ok D30
    have D31 : Done l.prog w K mg base Z fad (M31 Z) := D30.snoc (M := M30 Z) (Good.ofFn rfl (ok__law_shown (f := f17) hfn hlm M30' F17))
    have M31' := TS.ok D31
    exact ok_law (f := f18) hfn hlm M31' F18 rfl B18 (by simp [Z]) (fun p hp _ => by simp [Z] at hp; rw [hp])
end K08

local macro_rules | `(tactic| o_head ($f:ident $k $a $p $ts)) => `(tactic| o_head (@$f:ident $k $a $p (108 :: $ts)))
open PySem PySem.W PyProof.Rows in
set_option maxRecDepth 100000 in
set_option maxHeartbeats 0 in
theorem PySem.Challenge.cw_cellstack_k08_numbers_as_they_are_shown_holds : PySem.Challenge.rw_cellstack_k08_numbers_as_they_are_shown.Holds := by
  w_on; o_law; k_head; (case hw => w_witness2)
  k_fill
  refine G.walk_all (l := PySem.Challenge.rw_cellstack_k08_numbers_as_they_are_shown) (n := 63) (k := 7) (x := "script") (CX := fun w => L2.CX PySem.Challenge.rw_cellstack_k08_numbers_as_they_are_shown.prog w) rfl (by decide) rfl ⟨rfl, by decide, by decide⟩ (fun w h Y => by first | exact PySem.W.km_in_of Y | exact PySem.W.kIn_of Y) ?F (fun w H s e s' ⟨_, _, _, _, _, _, _, _, _, _, _, _, z⟩ => z)
  case F =>
    intro w mg mb mean fa h Y KX T hmg
    refine' K08.all_mk KX T hmg ?hrec ?aC0 ?a0 ?l0 ?c0 ?k0 ?a1 ?l1 ?c1 ?k1 ?a2 ?l2 ?w2 ?c2 ?k2 ?a3 ?l3 ?c3 ?k3 ?a4 ?l4 ?c4 ?k4 ?a5 ?l5 ?c5 ?k5 ?a6 ?l6 ?c6 ?k6 ?a7 ?l7 ?c7 ?k7 ?a8 ?i8 ?l8 ?w8 ?c8 ?k8 ?t8 ?p8 ?n8 ?ch8 ?tm8 ?a9 ?l9 ?c9 ?k9 ?a10 ?i10 ?l10 ?c10 ?k10 ?a11 ?l11 ?c11 ?k11 ?a12 ?l12 ?c12 ?k12 ?a13 ?l13 ?c13 ?k13 ?a14 ?l14 ?c14 ?k14 ?a15 ?l15 ?c15 ?k15 ?a16 ?l16 ?c16 ?k16 ?a17 ?l17 ?c17 ?k17 ?a18 ?l18 ?c18 ?k18 ?t18 ?p18 ?n18 ?pg0 ?hd0 ?po0 ?sa0 ?mk0 ?kc0 ?nf0_0 ?nf0_1 ?nf0_2 ?nf0_3 ?nf0_4 ?nf0_5 ?nf0_6 ?v0 ?v1 ?v2 ?y2 ?v3 ?y3 ?v4 ?z0 ?z1 ?z2 ?z3 ?z4 ?z5 ?z6 ?z7 ?z8 ?z9 ?z10 ?z11 ?z12 ?x0 ?xe0 ?xk0 ?xb0 ?xt0 ?xc0 ?xs0_0 ?ne8_18
    (case hrec => decide +kernel)
    (case aC0 => k_is)
    (case a0 => k_is)
    (case l0 => k_is)
    (case c0 => k_is)
    (case k0 => k_is)
    (case a1 => k_is)
    (case l1 => k_is)
    (case c1 => k_is)
    (case k1 => k_is)
    (case a2 => k_is)
    (case l2 => k_is)
    (case w2 => k_is)
    (case c2 => k_is)
    (case k2 => k_is)
    (case a3 => k_is)
    (case l3 => k_is)
    (case c3 => k_is)
    (case k3 => k_is)
    (case a4 => k_is)
    (case l4 => k_is)
    (case c4 => k_is)
    (case k4 => k_is)
    (case a5 => k_is)
    (case l5 => k_is)
    (case c5 => k_is)
    (case k5 => k_is)
    (case a6 => k_is)
    (case l6 => k_is)
    (case c6 => k_is)
    (case k6 => k_is)
    (case a7 => k_is)
    (case l7 => k_is)
    (case c7 => k_is)
    (case k7 => k_is)
    (case a8 => k_is)
    (case i8 => k_is)
    (case l8 => k_is)
    (case w8 => k_is)
    (case c8 => k_is)
    (case k8 => k_is)
    (case t8 => k_is)
    (case p8 => first | rfl | with_unfolding_all rfl | decide)
    (case n8 => first | k_is | rfl | kernel_rfl | decide +kernel)
    (case ch8 => first | k_is | rfl | kernel_rfl | decide +kernel)
    (case tm8 => exact PySem.W.km_tabs_of Y _ (by simp))
    (case a9 => k_is)
    (case l9 => k_is)
    (case c9 => k_is)
    (case k9 => k_is)
    (case a10 => k_is)
    (case i10 => k_is)
    (case l10 => k_is)
    (case c10 => k_is)
    (case k10 => k_is)
    (case a11 => k_is)
    (case l11 => k_is)
    (case c11 => k_is)
    (case k11 => k_is)
    (case a12 => k_is)
    (case l12 => k_is)
    (case c12 => k_is)
    (case k12 => k_is)
    (case a13 => k_is)
    (case l13 => k_is)
    (case c13 => k_is)
    (case k13 => k_is)
    (case a14 => k_is)
    (case l14 => k_is)
    (case c14 => k_is)
    (case k14 => k_is)
    (case a15 => k_is)
    (case l15 => k_is)
    (case c15 => k_is)
    (case k15 => k_is)
    (case a16 => k_is)
    (case l16 => k_is)
    (case c16 => k_is)
    (case k16 => k_is)
    (case a17 => k_is)
    (case l17 => k_is)
    (case c17 => k_is)
    (case k17 => k_is)
    (case a18 => k_is)
    (case l18 => k_is)
    (case c18 => k_is)
    (case k18 => k_is)
    (case t18 => k_is)
    (case p18 => first | rfl | with_unfolding_all rfl | decide)
    (case n18 => first | k_is | rfl | kernel_rfl | decide +kernel)
    (case pg0 => k_is)
    (case hd0 => k_is)
    (case po0 => k_is)
    (case sa0 => k_is)
    (case mk0 => k_is)
    (case kc0 => k_is)
    (case nf0_0 => k_is)
    (case nf0_1 => k_is)
    (case nf0_2 => k_is)
    (case nf0_3 => k_is)
    (case nf0_4 => k_is)
    (case nf0_5 => k_is)
    (case nf0_6 => k_is)
    (case v0 => k_is)
    (case v1 => k_is)
    (case v2 => k_is)
    (case y2 => k_is)
    (case v3 => k_is)
    (case y3 => k_is)
    (case v4 => k_is)
    (case z0 => k_is)
    (case z1 => k_is)
    (case z2 => k_is)
    (case z3 => k_is)
    (case z4 => k_is)
    (case z5 => k_is)
    (case z6 => k_is)
    (case z7 => k_is)
    (case z8 => k_is)
    (case z9 => k_is)
    (case z10 => k_is)
    (case z11 => k_is)
    (case z12 => k_is)
    (case x0 => k_is)
    (case xe0 => k_exc)
    (case xk0 => k_is)
    (case xb0 => k_is)
    (case xt0 => k_is)
    (case xc0 => k_is)
    (case xs0_0 => first | rfl | k_is)
    (case ne8_18 => decide)

