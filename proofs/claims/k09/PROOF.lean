import PyProof.Rows.All
import Wide.All
import OpenK.AllK
import Wide.FinOn
import HandS.ForExc
import HandS.Comp
import HandS.Iter
import HandS.Text
import HandS.CallSlots
import HandS.Wide
import HandS.Lambda
import HandS.Flow
import HandS.TupAny
import HandS.Walk
import HandS.Zip
import HandS.Conv
import HandS.Replace
import HandS.StrMore
import HandS.AnyAll
import HandS.EndOwn
import KE.IntTextLaws
import KE.IntTextText
import KE.KIntText
import HandS.IsInst
import HandS.FStr
import HandS.Dict
import HandS.Defaults
import HandS.ReplaceLit
import HandS.Codes
import PyProof.ToksMono
import KE.GoesEnum
import PySem.Challenge.RW_cellstack_k09_numbers_as_charts
set_option Elab.async false
set_option linter.all false
set_option maxRecDepth 100000
set_option maxHeartbeats 4000000
/-! GA: the data layer's core. Tuples are values; lists, dicts, instances stand in a store by their addresses. -/
namespace G
open PySem PySem.Spec PyProof.Rows L2

/-- data: tuples by value; rol: a list that is only read -/
inductive D where
  | non | bl (b : Bool) | int (i : Int) | str (x : Str) | tup (xs : List D) | rol (xs : List D) | ref (a : Addr)

/-- a list that is only read: known, or of the written part -/
def RoL (K : PySem.W.Frag) (H : Hp) (a : Addr) (xs : List V) : Prop :=
  (∃ o, H a = some (.frz o (.lst xs))) ∨
    ∃ (o : Obj) (its : Array Value) (n : Nat), K.lookup a = some o ∧ o.cls = .type "list" ∧ o.dict = none ∧ o.data = .seq its n ∧ its.size ≤ sizeLine ∧ Vals xs its.toList
theorem RoL.sq {K : PySem.W.Frag} {H : Hp} {a : Addr} {xs : List V} (h : RoL K H a xs) : SqL K H a xs := by
  rcases h with h | h
  · exact .inl (.inr h)
  · exact .inr h

mutual
def DV (K : PySem.W.Frag) (H : Hp) : D → V → Prop
  | .non, v => v = .non
  | .bl b, v => v = .bl b
  | .int i, v => v = .int i
  | .str x, v => v = .str x
  | .ref a, v => v = .ref a
  | .tup ds, v => ∃ p vs, v = .ref p ∧ SqT K H p vs ∧ DVs K H ds vs
  | .rol ds, v => ∃ p vs, v = .ref p ∧ RoL K H p vs ∧ DVs K H ds vs
def DVs (K : PySem.W.Frag) (H : Hp) : List D → List V → Prop
  | [], vs => vs = []
  | d :: ds, vs => ∃ v r, vs = v :: r ∧ DV K H d v ∧ DVs K H ds r
end

/-- how the abstract heap goes on: tuples and what is known stay, nothing is lost -/
structure Evo (H H' : Hp) : Prop where
  tup : ∀ a xs, H a = some (.tup xs) → H' a = some (.tup xs)
  frz : ∀ a o u, H a = some (.frz o u) → H' a = some (.frz o u)
  dom : ∀ a, H a ≠ none → H' a ≠ none
  ext : ∀ a φ, H a = some (.ext φ) → H' a = some (.ext φ)
theorem Evo.refl (H : Hp) : Evo H H := ⟨fun _ _ h => h, fun _ _ _ h => h, fun _ h => h, fun _ _ h => h⟩
theorem Evo.trans {H H1 H2 : Hp} (a : Evo H H1) (b : Evo H1 H2) : Evo H H2 := ⟨fun x xs h => b.tup x xs (a.tup x xs h), fun x o u h => b.frz x o u (a.frz x o u h), fun x h => b.dom x (a.dom x h), fun x o h => b.ext x o (a.ext x o h)⟩
theorem upd_dom {H : Hp} {p a : Addr} {o : HO} (h : H a ≠ none) : upd H p o a ≠ none := by
  by_cases e : a = p
  · rw [e, upd_same]; exact fun z => nomatch z
  · rw [upd_ne e]; exact h
theorem Evo.new {H : Hp} {p : Addr} {o : HO} (h : H p = none) : Evo H (upd H p o) :=
  ⟨fun a xs e => by rw [upd_ne (ne_of_none e h)]; exact e, fun a ob u e => by rw [upd_ne (ne_of_none e h)]; exact e, fun _ => upd_dom, fun a ob e => by rw [upd_ne (ne_of_none e h)]; exact e⟩
theorem Evo.put {H : Hp} {p : Addr} {o o' : HO} (h : H p = some o) (h1 : ∀ xs, o ≠ .tup xs) (h2 : ∀ ob u, o ≠ .frz ob u) (h3 : ∀ φ, o ≠ .ext φ) : Evo H (upd H p o') :=
  ⟨fun a xs e => by rw [upd_ne (ne_of e h (fun q => h1 xs q.symm))]; exact e, fun a ob u e => by rw [upd_ne (ne_of e h (fun q => h2 ob u q.symm))]; exact e, fun _ => upd_dom, fun a ob e => by rw [upd_ne (ne_of e h (fun q => h3 ob q.symm))]; exact e⟩
theorem Evo.sqT {K : PySem.W.Frag} {H H' : Hp} {a : Addr} {xs : List V} (e : Evo H H') (h : SqT K H a xs) : SqT K H' a xs := by
  rcases h with (h | ⟨o, h⟩) | h
  · exact .inl (.inl (e.tup _ _ h))
  · exact .inl (.inr ⟨o, e.frz _ _ _ h⟩)
  · exact .inr h
theorem Evo.roL {K : PySem.W.Frag} {H H' : Hp} {a : Addr} {xs : List V} (e : Evo H H') (h : RoL K H a xs) : RoL K H' a xs := by
  rcases h with ⟨o, h⟩ | h
  · exact .inl ⟨o, e.frz _ _ _ h⟩
  · exact .inr h
mutual
theorem DV.mono {K : PySem.W.Frag} {H H' : Hp} (e : Evo H H') : ∀ {d : D} {v : V}, DV K H d v → DV K H' d v
  | .non, _, h => by simpa only [DV] using h
  | .bl _, _, h => by simpa only [DV] using h
  | .int _, _, h => by simpa only [DV] using h
  | .str _, _, h => by simpa only [DV] using h
  | .ref _, _, h => by simpa only [DV] using h
  | .tup ds, _, h => by
    simp only [DV] at h ⊢
    obtain ⟨p, vs, h1, h2, h3⟩ := h
    exact ⟨p, vs, h1, e.sqT h2, DVs.mono e h3⟩
  | .rol ds, _, h => by
    simp only [DV] at h ⊢
    obtain ⟨p, vs, h1, h2, h3⟩ := h
    exact ⟨p, vs, h1, e.roL h2, DVs.mono e h3⟩
theorem DVs.mono {K : PySem.W.Frag} {H H' : Hp} (e : Evo H H') : ∀ {ds : List D} {vs : List V}, DVs K H ds vs → DVs K H' ds vs
  | [], _, h => by simpa only [DVs] using h
  | d :: ds, _, h => by
    simp only [DVs] at h ⊢
    obtain ⟨v, r, h1, h2, h3⟩ := h
    exact ⟨v, r, h1, DV.mono e h2, DVs.mono e h3⟩
end
section
variable {K : PySem.W.Frag} {H H' : Hp}
theorem dv_non {v : V} : DV K H .non v ↔ v = .non := by simp only [DV]
theorem dv_bl {b : Bool} {v : V} : DV K H (.bl b) v ↔ v = .bl b := by simp only [DV]
theorem dv_int {i : Int} {v : V} : DV K H (.int i) v ↔ v = .int i := by simp only [DV]
theorem dv_str {x : Str} {v : V} : DV K H (.str x) v ↔ v = .str x := by simp only [DV]
theorem dv_ref {a : Addr} {v : V} : DV K H (.ref a) v ↔ v = .ref a := by simp only [DV]
theorem dv_tup {ds : List D} {v : V} : DV K H (.tup ds) v ↔ ∃ p vs, v = .ref p ∧ SqT K H p vs ∧ DVs K H ds vs := by simp only [DV]
theorem dv_rol {ds : List D} {v : V} : DV K H (.rol ds) v ↔ ∃ p vs, v = .ref p ∧ RoL K H p vs ∧ DVs K H ds vs := by simp only [DV]
theorem dvs_nil {vs : List V} : DVs K H [] vs ↔ vs = [] := by simp only [DVs]
theorem dvs_cons {d : D} {ds : List D} {vs : List V} : DVs K H (d :: ds) vs ↔ ∃ v r, vs = v :: r ∧ DV K H d v ∧ DVs K H ds r := by simp only [DVs]
theorem DVs.cons {d : D} {ds : List D} {v : V} {vs : List V} (h : DV K H d v) (t : DVs K H ds vs) : DVs K H (d :: ds) (v :: vs) := dvs_cons.mpr ⟨v, vs, rfl, h, t⟩
theorem DVs.len : ∀ {ds : List D} {vs : List V}, DVs K H ds vs → ds.length = vs.length
  | [], _, h => by rw [dvs_nil.mp h]; rfl
  | d :: ds, _, h => by
    obtain ⟨v, r, rfl, _, h2⟩ := dvs_cons.mp h
    rw [List.length_cons, List.length_cons, DVs.len h2]
theorem DVs.get : ∀ {ds : List D} {vs : List V} {i : Nat} {d : D}, DVs K H ds vs → ds[i]? = some d → ∃ v, vs[i]? = some v ∧ DV K H d v
  | [], _, i, d, h, e => by simp at e
  | d0 :: ds, _, 0, d, h, e => by
    obtain ⟨v, r, rfl, h1, h2⟩ := dvs_cons.mp h
    simp at e
    subst e
    exact ⟨v, rfl, h1⟩
  | d0 :: ds, _, i + 1, d, h, e => by
    obtain ⟨v, r, rfl, h1, h2⟩ := dvs_cons.mp h
    obtain ⟨w, q1, q2⟩ := DVs.get h2 (by simpa using e)
    exact ⟨w, by simpa using q1, q2⟩
theorem DVs.append : ∀ {ds es : List D} {vs ws : List V}, DVs K H ds vs → DVs K H es ws → DVs K H (ds ++ es) (vs ++ ws)
  | [], _, _, _, h, h' => by rw [dvs_nil.mp h]; exact h'
  | d :: ds, _, _, _, h, h' => by
    obtain ⟨v, r, rfl, h1, h2⟩ := dvs_cons.mp h
    exact DVs.cons h1 (DVs.append h2 h')
theorem DVs.drop : ∀ {ds : List D} {vs : List V} (n : Nat), DVs K H ds vs → DVs K H (ds.drop n) (vs.drop n)
  | _, _, 0, h => h
  | [], _, n + 1, h => by rw [dvs_nil.mp h]; exact dvs_nil.mpr rfl
  | d :: ds, _, n + 1, h => by
    obtain ⟨v, r, rfl, h1, h2⟩ := dvs_cons.mp h
    exact DVs.drop n h2
theorem DVs.take : ∀ {ds : List D} {vs : List V} (n : Nat), DVs K H ds vs → DVs K H (ds.take n) (vs.take n)
  | _, _, 0, h => dvs_nil.mpr rfl
  | [], _, n + 1, h => by rw [dvs_nil.mp h]; exact dvs_nil.mpr rfl
  | d :: ds, _, n + 1, h => by
    obtain ⟨v, r, rfl, h1, h2⟩ := dvs_cons.mp h
    exact DVs.cons h1 (DVs.take n h2)
theorem DVs.set {e : D} {w : V} (q : DV K H e w) : ∀ {ds : List D} {vs : List V} (n : Nat), DVs K H ds vs → DVs K H (ds.set n e) (vs.set n w)
  | [], _, n, h => by rw [dvs_nil.mp h]; exact dvs_nil.mpr rfl
  | d :: ds, _, 0, h => by
    obtain ⟨v, r, rfl, h1, h2⟩ := dvs_cons.mp h
    exact DVs.cons q h2
  | d :: ds, _, n + 1, h => by
    obtain ⟨v, r, rfl, h1, h2⟩ := dvs_cons.mp h
    exact DVs.cons h1 (DVs.set q n h2)
theorem dvs_ints : ∀ (ns : List Int), DVs K H (ns.map D.int) (ns.map V.int)
  | [] => dvs_nil.mpr rfl
  | n :: ns => DVs.cons (dv_int.mpr rfl) (dvs_ints ns)
theorem dvs_intsE : ∀ {ns : List Int} {vs : List V}, DVs K H (ns.map D.int) vs → vs = ns.map V.int
  | [], _, h => dvs_nil.mp h
  | n :: ns, _, h => by
    obtain ⟨v, r, rfl, h1, h2⟩ := dvs_cons.mp h
    rw [dv_int.mp h1, dvs_intsE h2]
    rfl
theorem dvs_strsE : ∀ {ns : List Str} {vs : List V}, DVs K H (ns.map D.str) vs → vs = ns.map V.str
  | [], _, h => dvs_nil.mp h
  | n :: ns, _, h => by
    obtain ⟨v, r, rfl, h1, h2⟩ := dvs_cons.mp h
    rw [dv_str.mp h1, dvs_strsE h2]
    rfl
theorem dvs_strs : ∀ (ns : List Str), DVs K H (ns.map D.str) (ns.map V.str)
  | [] => dvs_nil.mpr rfl
  | n :: ns => DVs.cons (dv_str.mpr rfl) (dvs_strs ns)
end

/-! ### the store -/
/-- what stands at an address: a list, a dict (keys ints and texts), an instance of the c-th class, another thing by what is true of its place -/
inductive O where
  | lst (ds : List D)
  | dct (kvs : List (Key × D))
  | ins (c : Nat) (fs : List (Nat × D))
  | oth (φ : Hp → Addr → Prop)
abbrev DS := Addr → Option O
def put (S : DS) (a : Addr) (o : O) : DS := fun b => if b = a then some o else S b
theorem put_same {S : DS} {a : Addr} {o : O} : put S a o a = some o := by unfold put; rw [if_pos rfl]
theorem put_ne {S : DS} {a b : Addr} {o : O} (h : b ≠ a) : put S a o b = S b := by unfold put; rw [if_neg h]
theorem put_put {S : DS} {a : Addr} {o u : O} : put (put S a o) a u = put S a u := by
  funext b; unfold put; split <;> rfl
theorem put_eta {S : DS} {a : Addr} {o : O} (h : S a = some o) : put S a o = S := by
  funext b; unfold put; split
  · rename_i e; rw [e, h]
  · rfl
theorem ne_of_free {S : DS} {a b : Addr} {o : O} (h : S a = some o) (h' : S b = none) : a ≠ b := by
  intro e; subst e; rw [h] at h'; cases h'
/-- less is known -/
def Sub (S S' : DS) : Prop := ∀ a o, S a = some o → S' a = some o
theorem Sub.refl (S : DS) : Sub S S := fun _ _ h => h
theorem Sub.trans {S S1 S2 : DS} (a : Sub S S1) (b : Sub S1 S2) : Sub S S2 := fun x o h => b x o (a x o h)
theorem Sub.new {S : DS} {p : Addr} {o : O} (h : S p = none) : Sub S (put S p o) := fun a u e => by rw [put_ne (ne_of_free e h)]; exact e
theorem Sub.put {S S' : DS} (s : Sub S S') (p : Addr) (o : O) : Sub (put S p o) (put S' p o) := fun a u e => by
  by_cases h : a = p
  · subst h; rw [put_same] at e ⊢; exact e
  · rw [put_ne h] at e ⊢; exact s a u e
theorem Sub.newR {S S' : DS} (s : Sub S S') {p : Addr} {o : O} (h : S' p = none) : Sub S (G.put S' p o) := s.trans (Sub.new h)

/-- heap and store go on: what stood and was not told is not told, and stays as it was (but for tables of code objects) -/
structure Go (H : Hp) (S : DS) (H' : Hp) (S' : DS) : Prop where
  evo : Evo H H'
  fr : ∀ b, H b ≠ none → S b = none → S' b = none
  un : ∀ b o, H b = some o → S b = none → (∀ ps, o ≠ .tbl ps) → H' b = some o
theorem Go.r {H : Hp} {S : DS} : Go H S H S := ⟨Evo.refl H, fun _ _ h => h, fun _ _ h _ _ => h⟩
theorem Go.trans {H H1 H2 : Hp} {S S1 S2 : DS} (a : Go H S H1 S1) (b : Go H1 S1 H2 S2) : Go H S H2 S2 :=
  ⟨a.evo.trans b.evo, fun x h1 h2 => b.fr x (a.evo.dom x h1) (a.fr x h1 h2), fun x o h1 h2 h3 => b.un x o (a.un x o h1 h2 h3) (a.fr x (by rw [h1]; exact fun z => nomatch z) h2) h3⟩
theorem Go.new {H : Hp} {S : DS} {p : Addr} {o : HO} (h : H p = none) : Go H S (upd H p o) S := ⟨Evo.new h, fun _ _ h => h, fun b u e _ _ => by rw [upd_ne (ne_of_none e h)]; exact e⟩
theorem Go.made {H : Hp} {S : DS} {p : Addr} {o : HO} {u : O} (h : H p = none) : Go H S (upd H p o) (put S p u) := ⟨Evo.new h, fun b h1 h2 => by
  rw [put_ne (fun z => h1 (by rw [z]; exact h))]; exact h2, fun b u e _ _ => by rw [upd_ne (ne_of_none e h)]; exact e⟩
theorem Go.sub {H H' : Hp} {S S' S'' : DS} (a : Go H S H' S') (s : Sub S'' S') : Go H S H' S'' := ⟨a.evo, fun b h1 h2 => by
  have q := a.fr b h1 h2
  cases e : S'' b with
  | none => rfl
  | some o => rw [s b o e] at q; exact q, a.un⟩
theorem Go.wrote {H : Hp} {S : DS} {a : Addr} {o : HO} {u u' : O} (e : Evo H (upd H a o)) (h : S a = some u) : Go H S (upd H a o) (put S a u') := ⟨e, fun b _ h2 => by
  rw [put_ne (fun z => by rw [z, h] at h2; cases h2)]; exact h2, fun b u e h2 _ => by rw [upd_ne (fun z => by rw [z, h] at h2; cases h2)]; exact e⟩

/-- a lambda that captures nothing: its qualified name, its text -/
structure LamR where
  q : Str
  params : Arguments
  body : Expr
  scope : Scope
/-- what is fixed through a law: the tables of code objects, the classes' addresses, the names of fields and methods, the errors' classes -/
structure Zt where
  T : List Addr
  TL : List (Addr × Str)
  lm : Nat → Option LamR
  cm : Nat → Addr
  fn : Nat → Str
  ex : Nat → Value
  inj : ∀ i j, fn i = fn j → i = j

def lk (fs : List (Nat × D)) (i : Nat) : Option D := match fs with
  | [] => none
  | (j, d) :: r => if i = j then some d else lk r i
def FV (K : PySem.W.Frag) (Z : Zt) (H : Hp) (fs : List (Nat × D)) (vs : List (Str × V)) : Prop :=
  vs.length ≤ fs.length ∧ (∀ i d, lk fs i = some d → ∃ v, vs.lookup (Z.fn i) = some v ∧ DV K H d v) ∧ ∀ x : Str, (∀ i d, lk fs i = some d → Z.fn i ≠ x) → vs.lookup x = none
def KDV (K : PySem.W.Frag) (H : Hp) : List (Key × D) → List (Key × V) → Prop
  | [], ws => ws = []
  | (k, d) :: r, ws => ∃ v q, ws = (k, v) :: q ∧ DV K H d v ∧ KDV K H r q
def OV (K : PySem.W.Frag) (Z : Zt) (H : Hp) (a : Addr) : O → Prop
  | .lst ds => ∃ vs, H a = some (.lst vs) ∧ DVs K H ds vs
  | .dct kvs => ∃ ws, H a = some (.dK ws) ∧ KDV K H kvs ws
  | .ins c fs => ∃ dx vs, H a = some (.ins (Z.cm c) dx vs) ∧ FV K Z H fs vs
  | .oth φ => (∃ u, H a = some u ∧ Mut (some u)) ∧ φ H a ∧ ∀ H1 H2 : Hp, φ H1 a → H2 a = H1 a → Evo H1 H2 → φ H2 a
def SR (K : PySem.W.Frag) (Z : Zt) (S : DS) (H : Hp) : Prop := ∀ a o, S a = some o → OV K Z H a o
def TB (Z : Zt) (H : Hp) : Prop := (∀ P ∈ Z.T, ∃ ps : Array Value, H P = some (.tbl ps) ∧ TriplesOk ps.toList) ∧ LamX.Tabs Z.TL H
theorem TB.new {Z : Zt} {H : Hp} {p : Addr} {u : HO} (h : TB Z H) (n : H p = none) : TB Z (upd H p u) := by
  refine ⟨fun P hP => ?_, h.2.ext fun b o e => by rw [upd_ne (ne_of_none e n)]; exact e⟩
  obtain ⟨ps, h1, h2⟩ := h.1 P hP
  exact ⟨ps, by rw [upd_ne (ne_of_none h1 n)]; exact h1, h2⟩
theorem TB.wrote {Z : Zt} {H : Hp} {a : Addr} {u u' : HO} (h : TB Z H) (e : H a = some u) (m : Mut (some u)) (x : ∀ φ, u ≠ .ext φ) : TB Z (upd H a u') := by
  refine ⟨fun P hP => ?_, fun p hp => ?_⟩
  · obtain ⟨ps, h1, h2⟩ := h.1 P hP
    refine ⟨ps, ?_, h2⟩
    rw [upd_ne]
    · exact h1
    · intro z
      rw [z, e] at h1
      cases h1
      exact m
  · obtain ⟨ps, h1, h2, h3⟩ := h.2 p hp
    refine ⟨ps, ?_, h2, fun pos cv hc => ?_⟩
    · rw [upd_ne]
      · exact h1
      · intro z
        rw [z, e] at h1
        cases h1
        exact m
    · obtain ⟨c, e1, e2⟩ := h3 pos cv hc
      refine ⟨c, e1, ?_⟩
      rw [upd_ne]
      · exact e2
      · intro z
        rw [z, e] at e2
        exact x _ (Option.some.inj e2)
/-- store and tables -/
structure ST (K : PySem.W.Frag) (Z : Zt) (S : DS) (H : Hp) : Prop where
  sr : SR K Z S H
  tb : TB Z H
abbrev Env_ := List (Option D)
structure SL (K : PySem.W.Frag) (H : Hp) (r : Env_) (σ : L2.St) : Prop where
  len : r.length = σ.length
  get : ∀ (i : Nat) (d : D), r[i]? = some (some d) → ∃ v, σ[i]? = some (some v) ∧ DV K H d v
theorem SL.mono {K : PySem.W.Frag} {H H' : Hp} {r : Env_} {σ : L2.St} (h : SL K H r σ) (e : Evo H H') : SL K H' r σ :=
  ⟨h.len, fun i d q => let ⟨v, a, b⟩ := h.get i d q; ⟨v, a, b.mono e⟩⟩
theorem SL.set {K : PySem.W.Frag} {H : Hp} {r : Env_} {σ : L2.St} {d : D} {v : V} (h : SL K H r σ) (i : Nat) (q : DV K H d v) : SL K H (r.set i (some d)) (σ.set i (some v)) := by
  refine ⟨by rw [List.length_set, List.length_set]; exact h.len, fun j e hj => ?_⟩
  by_cases hji : j = i
  · subst hji
    have hlt : j < r.length := by
      have := (List.getElem?_eq_some_iff.mp hj).1
      rw [List.length_set] at this
      exact this
    rw [List.getElem?_set_self hlt] at hj
    cases hj
    exact ⟨v, by rw [List.getElem?_set_self (by rw [← h.len]; exact hlt)], q⟩
  · rw [List.getElem?_set_ne (Ne.symm hji)] at hj
    obtain ⟨w, a, b⟩ := h.get j e hj
    exact ⟨w, by rw [List.getElem?_set_ne (Ne.symm hji)]; exact a, b⟩
section
variable {K : PySem.W.Frag} {Z : Zt} {S S' : DS} {H H' : Hp} {a p : Addr}
theorem FV.mono {fs : List (Nat × D)} {vs : List (Str × V)} (e : Evo H H') (h : FV K Z H fs vs) : FV K Z H' fs vs :=
  ⟨h.1, fun i d q => let ⟨v, a, b⟩ := h.2.1 i d q; ⟨v, a, b.mono e⟩, h.2.2⟩
theorem KDV.mono (e : Evo H H') : ∀ {kvs : List (Key × D)} {ws : List (Key × V)}, KDV K H kvs ws → KDV K H' kvs ws
  | [], _, h => h
  | (k, d) :: r, _, h => by
    obtain ⟨v, q, h1, h2, h3⟩ := h
    exact ⟨v, q, h1, h2.mono e, KDV.mono e h3⟩
theorem OV.mono {o : O} (h : OV K Z H a o) (e : Evo H H') (h' : H' a = H a) : OV K Z H' a o := by
  cases o with
  | lst ds => obtain ⟨vs, h1, h2⟩ := h; exact ⟨vs, h'.trans h1, h2.mono e⟩
  | dct kvs => obtain ⟨ws, h1, h2⟩ := h; exact ⟨ws, h'.trans h1, h2.mono e⟩
  | ins c fs => obtain ⟨dx, vs, h1, h2⟩ := h; exact ⟨dx, vs, h'.trans h1, h2.mono e⟩
  | oth φ => obtain ⟨⟨u, h1, h1'⟩, h2, h3⟩ := h; exact ⟨⟨u, h'.trans h1, h1'⟩, h3 H H' h2 h' e, h3⟩
theorem OV.mut {o : O} (h : OV K Z H a o) : ∃ u, H a = some u ∧ Mut (some u) := by
  cases o with
  | lst ds => obtain ⟨vs, h1, h2⟩ := h; exact ⟨_, h1, trivial⟩
  | dct kvs => obtain ⟨ws, h1, h2⟩ := h; exact ⟨_, h1, trivial⟩
  | ins c fs => obtain ⟨dx, vs, h1, h2⟩ := h; exact ⟨_, h1, trivial⟩
  | oth φ => exact h.1
theorem SR.free (h : SR K Z S H) (n : H p = none) : S p = none := by
  cases e : S p with
  | none => rfl
  | some o =>
    obtain ⟨u, q, _⟩ := (h p o e).mut
    rw [n] at q
    cases q
theorem ST.free (h : ST K Z S H) (n : H p = none) : S p = none := h.sr.free n
theorem ST.sub (h : ST K Z S H) (s : Sub S' S) : ST K Z S' H := ⟨fun a o e => h.sr a o (s a o e), h.tb⟩
/-- a new object that isn't told in the store -/
theorem ST.new {u : HO} (h : ST K Z S H) (n : H p = none) : ST K Z S (upd H p u) := by
  refine ⟨fun a o e => ?_, h.tb.new n⟩
  have q := h.sr a o e
  obtain ⟨z, hz, _⟩ := q.mut
  exact q.mono (Evo.new n) (upd_ne (ne_of_none hz n))
/-- a new object that is told -/
theorem ST.made {u : HO} {o : O} (h : ST K Z S H) (n : H p = none) (q : OV K Z (upd H p u) p o) : ST K Z (put S p o) (upd H p u) := by
  have h' := h.new (u := u) n
  refine ⟨fun a o' e => ?_, h'.tb⟩
  by_cases ha : a = p
  · subst ha
    rw [put_same] at e
    cases e
    exact q
  · rw [put_ne ha] at e
    exact h'.sr a o' e
theorem mut_evo {u u' : HO} (h : H a = some u) (m : Mut (some u)) (x : ∀ φ, u ≠ .ext φ := by intro _ z; cases z) : Evo H (upd H a u') :=
  Evo.put h (fun xs z => by rw [z] at m; exact m) (fun ob w z => by rw [z] at m; exact m) x
/-- an object that is told is changed -/
theorem ST.wrote {u u' : HO} {o' : O} (h : ST K Z S H) (e : H a = some u) (m : Mut (some u)) (q : OV K Z (upd H a u') a o') (x : ∀ φ, u ≠ .ext φ := by intro _ z; cases z) : ST K Z (put S a o') (upd H a u') := by
  refine ⟨fun b ob eb => ?_, h.tb.wrote e m x⟩
  by_cases hb : b = a
  · subst hb
    rw [put_same] at eb
    cases eb
    exact q
  · rw [put_ne hb] at eb
    exact (h.sr b ob eb).mono (mut_evo e m x) (upd_ne hb)
end

/-- slots, store, tables -/
structure Rel (K : PySem.W.Frag) (Z : Zt) (r : Env_) (S : DS) (σ : L2.St) (H : Hp) : Prop where
  sl : SL K H r σ
  st : ST K Z S H

/-! ### readings over data -/
abbrev XD := Nat → DS → Prop
abbrev QD := D → DS → Prop
/-- an expression's reading: slots, store, what follows, what is wanted of an error (by its class's number) -/
abbrev TD := Env_ → DS → QD → XD → Prop
abbrev TDT := Env_ → DS → (Bool → DS → Prop) → XD → Prop
abbrev TDA := Env_ → DS → (List D → DS → Prop) → XD → Prop
section
variable (K : PySem.W.Frag) (Z : Zt) (W : WX)
def lift (t : TD) : TE := fun σ H Q => ∃ r S Q0 E0, Rel K Z r S σ H ∧ t r S Q0 E0 ∧
  (∀ d S' v H', Go H S H' S' → ST K Z S' H' → DV K H' d v → Q0 d S' → Q v H') ∧ ∀ c S' dd H', Go H S H' S' → ST K Z S' H' → E0 c S' → W (Z.ex c) dd σ H'
def liftT (t : TDT) : TT := fun σ H Q => ∃ r S Q0 E0, Rel K Z r S σ H ∧ t r S Q0 E0 ∧
  (∀ b S' H', Go H S H' S' → ST K Z S' H' → Q0 b S' → Q b H') ∧ ∀ c S' dd H', Go H S H' S' → ST K Z S' H' → E0 c S' → W (Z.ex c) dd σ H'
def liftA (t : TDA) : TA := fun σ H Q => ∃ r S Q0 E0, Rel K Z r S σ H ∧ t r S Q0 E0 ∧
  (∀ ds S' vs H', Go H S H' S' → ST K Z S' H' → DVs K H' ds vs → Q0 ds S' → Q vs H') ∧ ∀ c S' dd H', Go H S H' S' → ST K Z S' H' → E0 c S' → W (Z.ex c) dd σ H'
end
/-- PE by data, whatever is wished of errors -/
def PD (X : Cx) (Z : Zt) (e : Expr) (t : TD) : Prop := ∀ W, Takes X W → PE X e (lift X.K Z W t)
def PDT (X : Cx) (Z : Zt) (e : Expr) (t : TDT) : Prop := ∀ W, Takes X W → PT X e (liftT X.K Z W t)
def PDW (X : Cx) (Z : Zt) (e : Expr) (t : TDT) : Prop := ∀ W, Takes X W → PW X e (liftT X.K Z W t)
def PDA (X : Cx) (Z : Zt) (es : List Expr) (t : TDA) : Prop := ∀ W, Takes X W → PA X es (liftA X.K Z W t)

section
variable {X : Cx} {Z : Zt}
theorem PE.imp {e : Expr} {t t' : TE} (h : PE X e t) (i : ∀ σ H Q, t' σ H Q → t σ H Q) : PE X e t' := ⟨fun pins s σ H Q I q => h.run pins s σ H Q I (i σ H Q q)⟩
theorem PT.imp {e : Expr} {t t' : TT} (h : PT X e t) (i : ∀ σ H Q, t' σ H Q → t σ H Q) : PT X e t' := ⟨fun pins s σ H Q I q => h.run pins s σ H Q I (i σ H Q q)⟩
theorem PW.imp {e : Expr} {t t' : TT} (h : PW X e t) (i : ∀ σ H Q, t' σ H Q → t σ H Q) : PW X e t' := ⟨fun wh pins s σ H Q I q => h.run wh pins s σ H Q I (i σ H Q q)⟩
theorem PA.imp {es : List Expr} {t t' : TA} (h : PA X es t) (i : ∀ σ H Q, t' σ H Q → t σ H Q) : PA X es t' := ⟨fun pos pins s σ H Q I q => h.run pos pins s σ H Q I (i σ H Q q)⟩
theorem PS.imp {st : Stmt} {t t' : TS} (h : PS X st t) (i : ∀ D σ H, t' D σ H → t D σ H) : PS X st t' := ⟨fun pins s σ H D I q => h.run pins s σ H D I (i D σ H q)⟩

/-! ### names, constants -/
def dVar (i : Nat) : TD := fun r S Q _ => ∃ d, r[i]? = some (some d) ∧ Q d S
def dC (d : D) : TD := fun _ S Q _ => Q d S
theorem pd_var (i : Nat) {x : Str} {pos : Pos} (hN : X.N[i]? = some x := by rfl) (hv : Vis X.env.scope x := by first | exact Or.inl rfl | exact Or.inr (Or.inl rfl) | exact Or.inr (Or.inr rfl)) (hd : (x == ("__debug__" : Str)) = false := by decide)
    (hcd : (x == ("__classdict__" : Str)) = false := by decide) : PD X Z (.Name x pos) (dVar i) := fun W _ => by
  refine PE.imp (pe_var hN hv hd hcd) fun σ H Q h => ?_
  obtain ⟨r, S, Q0, E0, R, ⟨d, e, q⟩, k, _⟩ := h
  obtain ⟨v, h1, h2⟩ := R.sl.get i d e
  exact ⟨v, h1, k d S v H Go.r R.st h2 q⟩
theorem pd_c {e : Expr} {v : V} {d : D} (h : PE X e (tC v)) (hd : ∀ H, DV X.K H d v) : PD X Z e (dC d) := fun W _ => by
  refine PE.imp h fun σ H Q h => ?_
  obtain ⟨r, S, Q0, E0, R, q, k, _⟩ := h
  exact k d S v H Go.r R.st (hd H) q
theorem pd_int {i j pos} : PD X Z (.Constant (.int i) j pos) (dC (.int i)) := pd_c pe_int fun _ => dv_int.mpr rfl
theorem pd_bl {b j pos} : PD X Z (.Constant (.bool b) j pos) (dC (.bl b)) := pd_c pe_bl fun _ => dv_bl.mpr rfl
theorem pd_non {j pos} : PD X Z (.Constant .none j pos) (dC .non) := pd_c pe_non fun _ => dv_non.mpr rfl
theorem pd_str {x j pos} : PD X Z (.Constant (.str x) j pos) (dC (.str x)) := pd_c pe_str fun _ => dv_str.mpr rfl

/-! ### operators by data -/
abbrev RD2 := D → D → DS → QD → Prop
def liftR (K : PySem.W.Frag) (Z : Zt) (r : RD2) : R2 := fun v w H Q => ∃ x y S Q0, ST K Z S H ∧ DV K H x v ∧ DV K H y w ∧ r x y S Q0 ∧ ∀ d S' v' H', Go H S H' S' → ST K Z S' H' → DV K H' d v' → Q0 d S' → Q v' H'
def OpD (X : Cx) (Z : Zt) (f : Value → Value → Sem Value) (r : RD2) : Prop := OpR X f (liftR X.K Z r)
def dOp (r : RD2) (ta tb : TD) : TD := fun p S Q E => ta p S (fun x S1 => tb p S1 (fun y S2 => r x y S2 Q) E) E
theorem lift_op {K : PySem.W.Frag} {W : WX} {r : RD2} {ta tb : TD} {σ : L2.St} {H : Hp} {Q : VK} (h : lift K Z W (dOp r ta tb) σ H Q) : tOp (liftR K Z r) (lift K Z W ta) (lift K Z W tb) σ H Q := by
  obtain ⟨p, S, Q0, E0, R, q, k, kE⟩ := h
  refine ⟨p, S, _, E0, R, q, fun x S1 v H1 e1 st1 dv1 q1 => ?_, kE⟩
  refine ⟨p, S1, _, E0, ⟨R.sl.mono e1.evo, st1⟩, q1, fun y S2 w H2 e2 st2 dv2 q2 => ?_, fun c S' dd H' e' st' z => kE c S' dd H' (e1.trans e') st' z⟩
  exact ⟨x, y, S2, Q0, st2, dv1.mono e2.evo, dv2, q2, fun d S' v' H' e' st' dv' z => k d S' v' H' ((e1.trans e2).trans e') st' dv' z⟩
theorem pd_op {op : Operator} {r : RD2} {a b : Expr} {ta tb : TD} {pos : Pos} (ho : OpD X Z (binaryOp op) r) (ha : PD X Z a ta) (hb : PD X Z b tb) : PD X Z (.BinOp a op b pos) (dOp r ta tb) := fun W tk =>
  PE.imp (pe_op ho (ha W tk) (hb W tk)) fun _ _ _ h => lift_op h
theorem pd_cmp {op : CmpOp} {r : RD2} {a b : Expr} {ta tb : TD} {pos : Pos} (ho : OpD X Z (compareOp op) r) (ha : PD X Z a ta) (hb : PD X Z b tb) (hm : behindInMarks op b = false := by first | exact nobehind _ (by decide) (by decide) | rfl) : PD X Z (.Compare a [op] [b] pos) (dOp r ta tb) := fun W tk =>
  PE.imp (pe_cmpR ho (ha W tk) (hb W tk) hm) fun _ _ _ h => lift_op h
end
end G

set_option Elab.async false
set_option linter.all false
set_option maxRecDepth 100000
set_option maxHeartbeats 4000000
/-! GB: operators, comparisons, tests, chains, displays. -/
namespace G
open PySem PySem.Spec PyProof.Rows L2

/-! ### arithmetic by data -/
/-- sizes that a product may have -/
def MulOk (i j : Int) : Prop := CMul i j ∨ CMulW i j
def DivOk (j : Int) : Prop := j ≠ 0 ∧ (j.natAbs < 1073741824 ∨ (0 < j ∧ j.natAbs.log2 < 9000))
def opAdd : RD2 := fun x y S Q => match x, y with
  | .int i, .int j => Q (.int (i + j)) S
  | .str a, .str b => a.length + b.length ≤ sizeLine ∧ Q (.str (a ++ b)) S
  | .tup xs, .tup ys => xs.length + ys.length ≤ sizeLine ∧ Q (.tup (xs ++ ys)) S
  | .ref a, .ref b => ∃ xs ys, S a = some (.lst xs) ∧ S b = some (.lst ys) ∧ xs.length + ys.length ≤ sizeLine ∧ ∀ p, S p = none → Q (.ref p) (put S p (.lst (xs ++ ys)))
  | _, _ => False
def opSub : RD2 := fun x y S Q => match x, y with
  | .int i, .int j => Q (.int (i - j)) S
  | _, _ => False
def opMulI : RD2 := fun x y S Q => match x, y with
  | .int i, .int j => MulOk i j ∧ Q (.int (i * j)) S
  | _, _ => False
/-- a text many times -/
def repS (x : Str) (n : Int) : Str := ⟨(List.replicate n.toNat x.cps.toList).flatten.toArray⟩
def opMul : RD2 := fun x y S Q => match x, y with
  | .int i, .int j => MulOk i j ∧ Q (.int (i * j)) S
  | .str z, .int n => (-(2 ^ 62) ≤ n ∧ n < 2 ^ 62 ∧ z.length * n.toNat ≤ sizeLine) ∧ Q (.str (repS z n)) S
  | _, _ => False
def opDiv : RD2 := fun x y S Q => match x, y with
  | .int i, .int j => DivOk j ∧ Q (.int (i.fdiv j)) S
  | _, _ => False
def opMod : RD2 := fun x y S Q => match x, y with
  | .int i, .int j => j ≠ 0 ∧ Q (.int (i.fmod j)) S
  | _, _ => False
def opPow : RD2 := fun x y S Q => match x, y with
  | .int i, .int j => CPow i j ∧ Q (.int (i ^ j.toNat)) S
  | _, _ => False

section
variable {X : Cx} {Z : Zt} {K : PySem.W.Frag} {H : Hp} {S : DS}
theorem sr_lst {a : Addr} {ds : List D} (h : ST K Z S H) (e : S a = some (.lst ds)) : ∃ vs, H a = some (.lst vs) ∧ DVs K H ds vs := h.sr a _ e
theorem DVs.nil_iff {ds : List D} {vs : List V} (h : DVs K H ds vs) : vs = [] ↔ ds = [] := by
  have e := h.len
  constructor
  · intro z; rw [z] at e; exact List.length_eq_zero_iff.mp e
  · intro z; rw [z] at e; exact List.length_eq_zero_iff.mp e.symm
theorem od_add : OpD X Z (binaryOp .Add) opAdd := by
  intro pins s σ H v w u u' Q I rx ry h
  obtain ⟨x, y, S, Q0, st, hx, hy, h, k⟩ := h
  cases x with
  | int i =>
    cases y with
    | int j =>
      rw [dv_int.mp hx] at rx
      rw [dv_int.mp hy] at ry
      exact op_add pins s σ H _ _ _ _ Q I rx ry ⟨i, j, rfl, rfl, k _ S _ H Go.r st (dv_int.mpr rfl) h⟩
    | _ => exact h.elim
  | str a =>
    cases y with
    | str b =>
      obtain ⟨hz, h⟩ : a.length + b.length ≤ sizeLine ∧ Q0 (.str (a ++ b)) S := h
      rw [dv_str.mp hx] at rx
      rw [dv_str.mp hy] at ry
      exact op_add_str pins s σ H _ _ _ _ Q I rx ry ⟨a, b, rfl, rfl, hz, k _ S _ H Go.r st (dv_str.mpr rfl) h⟩
    | _ => exact h.elim
  | tup xs =>
    cases y with
    | tup ys =>
      obtain ⟨hz, h⟩ : xs.length + ys.length ≤ sizeLine ∧ Q0 (.tup (xs ++ ys)) S := h
      obtain ⟨p, vs, e1, h1, d1⟩ := dv_tup.mp hx
      obtain ⟨q, ws, e2, h2, d2⟩ := dv_tup.mp hy
      rw [e1] at rx
      rw [e2] at ry
      refine op_catA pins s σ H _ _ _ _ Q I rx ry ⟨p, q, vs, ws, rfl, rfl, h1, h2, by rw [← d1.len, ← d2.len]; exact hz, fun z => ?_, fun _ z => ?_, fun _ _ l hl => ?_⟩
      · have z' := d1.nil_iff.mp z
        subst z'
        exact k _ S _ H Go.r st (dv_tup.mpr ⟨q, ws, rfl, h2, d2⟩) h
      · have z' := d2.nil_iff.mp z
        subst z'
        rw [List.append_nil] at h
        exact k _ S _ H Go.r st (dv_tup.mpr ⟨p, vs, rfl, h1, d1⟩) h
      · exact k _ S _ _ (Go.new hl) (st.new hl) (dv_tup.mpr ⟨l, vs ++ ws, rfl, .inl (.inl upd_same), (d1.append d2).mono (Evo.new hl)⟩) h
    | _ => exact h.elim
  | ref a =>
    cases y with
    | ref b =>
      obtain ⟨xs, ys, s1, s2, hz, h⟩ : ∃ xs ys, S a = some (.lst xs) ∧ S b = some (.lst ys) ∧ xs.length + ys.length ≤ sizeLine ∧ ∀ p, S p = none → Q0 (.ref p) (put S p (.lst (xs ++ ys))) := h
      rw [dv_ref.mp hx] at rx
      rw [dv_ref.mp hy] at ry
      obtain ⟨vs, h1, d1⟩ := sr_lst st s1
      obtain ⟨ws, h2, d2⟩ := sr_lst st s2
      refine op_cat pins s σ H _ _ _ _ Q I rx ry ⟨a, b, vs, ws, rfl, rfl, h1, h2, by rw [← d1.len, ← d2.len]; exact hz, fun p hp => ?_⟩
      exact k _ _ _ _ (Go.made hp) (st.made (o := .lst (xs ++ ys)) hp ⟨_, upd_same, (d1.append d2).mono (Evo.new hp)⟩) (dv_ref.mpr rfl) (h p (st.free hp))
    | _ => exact h.elim
  | _ => cases y <;> exact h.elim
theorem opII {f : Value → Value → Sem Value} {r2 : R2} {r : RD2} (o : OpR X f r2) (h1 : ∀ x y S Q, r x y S Q → ∃ i j, x = .int i ∧ y = .int j)
    (h2 : ∀ i j S (Q0 : QD) H (Q : VK), r (.int i) (.int j) S Q0 → (∀ d, Q0 d S → ∀ v, (∀ K' H', DV K' H' d v) → Q v H) → r2 (.int i) (.int j) H Q) : OpD X Z f r := by
  intro pins s σ H v w u u' Q I rx ry h
  obtain ⟨x, y, S, Q0, st, hx, hy, h, k⟩ := h
  obtain ⟨i, j, rfl, rfl⟩ := h1 x y S Q0 h
  rw [dv_int.mp hx] at rx
  rw [dv_int.mp hy] at ry
  exact o pins s σ H _ _ _ _ Q I rx ry (h2 i j S Q0 H Q h fun d q v hv => k d S v H Go.r st (hv _ _) q)
theorem od_sub : OpD X Z (binaryOp .Sub) opSub := opII op_sub (fun x y S Q h => by cases x <;> cases y <;> first | exact ⟨_, _, rfl, rfl⟩ | exact h.elim)
  fun i j S Q0 H Q h k => ⟨i, j, rfl, rfl, k _ h _ fun _ _ => dv_int.mpr rfl⟩
theorem repS_foldl : ∀ (n : Nat) (x : Array Nat) (a : Array Nat), ((List.replicate n x).foldl (· ++ ·) a).toList = a.toList ++ (List.replicate n x.toList).flatten
  | 0, x, a => by simp
  | n + 1, x, a => by
    rw [List.replicate_succ, List.foldl_cons, repS_foldl n x (a ++ x), List.replicate_succ, List.flatten_cons, Array.toList_append, List.append_assoc]
theorem od_mulI : OpD X Z (binaryOp .Mult) opMulI := opII (op_mul.or op_mulW) (fun x y S Q h => by cases x <;> cases y <;> first | exact ⟨_, _, rfl, rfl⟩ | exact h.elim)
  fun i j S Q0 H Q h k => h.1.elim (fun c => .inl ⟨i, j, rfl, rfl, c, k _ h.2 _ fun _ _ => dv_int.mpr rfl⟩) fun c => .inr ⟨i, j, rfl, rfl, c, k _ h.2 _ fun _ _ => dv_int.mpr rfl⟩
theorem od_mul : OpD X Z (binaryOp .Mult) opMul := by
  intro pins s σ H v w u u' Q I rx ry h
  obtain ⟨x, y, S, Q0, st, hx, hy, h, k⟩ := h
  cases y with
  | int n =>
    cases x with
    | int i => exact od_mulI pins s σ H v w u u' Q I rx ry ⟨.int i, .int n, S, Q0, st, hx, hy, h, k⟩
    | str z =>
      obtain ⟨⟨n0, n1, hz⟩, h⟩ : (-(2 ^ 62) ≤ n ∧ n < 2 ^ 62 ∧ z.length * n.toNat ≤ sizeLine) ∧ Q0 (.str (repS z n)) S := h
      rw [dv_str.mp hx] at rx
      rw [dv_int.mp hy] at ry
      obtain ⟨t, rfl⟩ := rx
      obtain ⟨t', rfl⟩ := ry
      have fin : ∀ (o : Str) (t : Tok) (tk : Nat), o = repS z n → EP X pins σ Q (.str o t) { s with toks := tk } := fun o t tk e => ⟨.str o, H, I.tok tk, ⟨t, rfl⟩, by rw [e]; exact k _ S _ H Go.r st (dv_str.mpr rfl) h⟩
      have lim : (sizeLine : Int) = 16777216 := by rw [sizeLine_eq]; rfl
      refine P.mul_str ?_ (fun h1 _ => ?_) (fun h1 _ => ?_) ?_
      · rw [decide_eq_false (by omega : ¬ n < -(2 ^ 63)), decide_eq_false (by omega : ¬ n ≥ 2 ^ 63)]
        rfl
      · have h2 : ((z.length * n.toNat : Nat) : Int) ≤ 16777216 := by omega
        have h3 : (z.length : Int) * n ≤ 16777216 := by
          rw [Int.natCast_mul, Int.toNat_of_nonneg (by omega)] at h2
          exact h2
        have h4 : (z.length : Int) ≤ (2 ^ 63 - 1) / n := Int.le_ediv_of_mul_le (by omega) (by omega)
        omega
      · unfold Builtin.Str.tooLong
        exact decide_eq_false (by omega)
      · by_cases h1 : n < 1
        · rw [if_pos h1]
          refine ⟨by decide, fin _ _ _ ?_⟩
          unfold repS
          rw [Int.toNat_of_nonpos (by omega)]
          rfl
        · rw [if_neg h1]
          by_cases h2 : (n == 1 || z.length == 0) = true
          · rw [if_pos h2]
            refine fin _ _ _ ?_
            rw [Bool.or_eq_true, beq_iff_eq, beq_iff_eq] at h2
            unfold repS
            rcases h2 with h2 | h2
            · subst h2
              simp
            · have e : z.cps.toList = [] := List.length_eq_zero_iff.mp (by rw [Array.length_toList]; exact h2)
              have e2 : z.cps = #[] := by
                apply Array.ext'
                rw [e]
              cases z
              simp only at e2
              subst e2
              congr 1
              apply Array.ext'
              simp
          · rw [if_neg h2]
            have e : (⟨(List.replicate n.toNat z.cps).foldl (· ++ ·) #[]⟩ : Str) = repS z n := by
              unfold repS
              congr 1
              apply Array.ext'
              rw [repS_foldl]
              simp
            refine ⟨?_, fin _ _ _ e⟩
            rw [e]
            show (((List.replicate n.toNat z.cps.toList).flatten).toArray).size ≤ sizeLine
            rw [List.size_toArray, List.length_flatten, List.map_replicate, List.sum_replicate_nat, Array.length_toList]
            exact Nat.le_trans (Nat.le_of_eq (Nat.mul_comm _ _)) hz
    | _ => exact h.elim
  | _ => cases x <;> exact h.elim
theorem od_div : OpD X Z (binaryOp .FloorDiv) opDiv := opII (op_fdivN.or op_fdivW) (fun x y S Q h => by cases x <;> cases y <;> first | exact ⟨_, _, rfl, rfl⟩ | exact h.elim)
  fun i j S Q0 H Q h k => h.1.2.elim (fun c => .inl ⟨i, j, rfl, rfl, ⟨h.1.1, c⟩, k _ h.2 _ fun _ _ => dv_int.mpr rfl⟩) fun c => .inr ⟨i, j, rfl, rfl, c, by
    have e : i.fdiv j = i / j := Int.fdiv_eq_ediv_of_nonneg i (by omega)
    show Q (.int (i / j)) H
    rw [← e]
    exact k _ h.2 _ fun _ _ => dv_int.mpr rfl⟩
theorem od_mod : OpD X Z (binaryOp .Mod) opMod := opII op_modN (fun x y S Q h => by cases x <;> cases y <;> first | exact ⟨_, _, rfl, rfl⟩ | exact h.elim)
  fun i j S Q0 H Q h k => ⟨i, j, rfl, rfl, h.1, k _ h.2 _ fun _ _ => dv_int.mpr rfl⟩
theorem od_pow : OpD X Z (binaryOp .Pow) opPow := opII op_pow (fun x y S Q h => by cases x <;> cases y <;> first | exact ⟨_, _, rfl, rfl⟩ | exact h.elim)
  fun i j S Q0 H Q h k => ⟨i, j, rfl, rfl, h.1, k _ h.2 _ fun _ _ => dv_int.mpr rfl⟩
end

/-! ### equality by data -/
mutual
def deq : D → D → Bool
  | .non, .non => true
  | .bl a, .bl b => a == b
  | .bl a, .int j => (if a then 1 else 0) == j
  | .int i, .bl b => i == (if b then 1 else 0)
  | .int i, .int j => i == j
  | .str x, .str y => x == y
  | .tup xs, .tup ys => deqs xs ys
  | _, _ => false
def deqs : List D → List D → Bool
  | [], [] => true
  | x :: xs, y :: ys => deq x y && deqs xs ys
  | _, _ => false
end
mutual
/-- data that may be compared: no addresses, texts of signs, not too deep -/
def okD : Nat → D → Bool
  | _, .non => true
  | _, .bl _ => true
  | _, .int _ => true
  | _, .str x => PyData.strOk x
  | n + 1, .tup xs => okDs n xs
  | _, _ => false
def okDs : Nat → List D → Bool
  | _, [] => true
  | n, x :: xs => okD n x && okDs n xs
end
mutual
def toP : D → PyData
  | .non => .none
  | .bl b => .bool b
  | .int i => .int i
  | .str x => .str x
  | .tup xs => .tuple (toPs xs)
  | .rol xs => .list (toPs xs)
  | .ref _ => .none
def toPs : List D → List PyData
  | [] => []
  | x :: xs => toP x :: toPs xs
end

mutual
theorem deq_toP : ∀ (x y : D) (n m : Nat), okD n x = true → okD m y = true → PyData.eqv (toP x) (toP y) = deq x y
  | .non, y, n, m, h, h' => by cases y <;> simp_all [okD, toP, deq, PyData.eqv]
  | .bl a, y, n, m, h, h' => by cases y <;> simp_all [okD, toP, deq, PyData.eqv]
  | .int a, y, n, m, h, h' => by cases y <;> simp_all [okD, toP, deq, PyData.eqv]
  | .str a, y, n, m, h, h' => by cases y <;> simp_all [okD, toP, deq, PyData.eqv]
  | .rol xs, y, n, m, h, h' => by cases n <;> simp [okD] at h
  | .ref a, y, n, m, h, h' => by cases n <;> simp [okD] at h
  | .tup xs, y, n, m, h, h' => by
    cases n with
    | zero => simp [okD] at h
    | succ n =>
      cases y with
      | tup ys =>
        cases m with
        | zero => simp [okD] at h'
        | succ m =>
          simp only [okD] at h h'
          simp only [toP, deq, PyData.eqv]
          exact deqs_toP xs ys n m h h'
      | rol ys => cases m <;> simp [okD] at h'
      | ref a => cases m <;> simp [okD] at h'
      | _ => simp [toP, deq, PyData.eqv]
theorem deqs_toP : ∀ (xs ys : List D) (n m : Nat), okDs n xs = true → okDs m ys = true → PyData.eqvAll (toPs xs) (toPs ys) = deqs xs ys
  | [], [], _, _, _, _ => by simp [toPs, deqs, PyData.eqvAll]
  | [], y :: ys, _, _, _, _ => by simp [toPs, deqs, PyData.eqvAll]
  | x :: xs, [], _, _, _, _ => by simp [toPs, deqs, PyData.eqvAll]
  | x :: xs, y :: ys, n, m, h, h' => by
    simp only [okDs, Bool.and_eq_true] at h h'
    simp only [toPs, deqs, PyData.eqvAll]
    rw [deq_toP x y n m h.1 h'.1, deqs_toP xs ys n m h.2 h'.2]
end
mutual
theorem okD_can : ∀ (x : D) (n : Nat), okD n x = true → (toP x).canLay0 = true ∧ (toP x).depth ≤ n
  | .non, n, h => by simp [toP, PyData.canLay0, PyData.depth]
  | .bl a, n, h => by simp [toP, PyData.canLay0, PyData.depth]
  | .int a, n, h => by simp [toP, PyData.canLay0, PyData.depth]
  | .str a, n, h => by
    have h' : PyData.strOk a = true := by cases n <;> simpa [okD] using h
    simp [toP, PyData.canLay0, PyData.depth, h']
  | .rol xs, n, h => by cases n <;> simp [okD] at h
  | .ref a, n, h => by cases n <;> simp [okD] at h
  | .tup xs, n, h => by
    cases n with
    | zero => simp [okD] at h
    | succ n =>
      simp only [okD] at h
      obtain ⟨h1, h2⟩ := okDs_can xs n h
      simp only [toP, PyData.canLay0, PyData.depth]
      exact ⟨h1, by omega⟩
theorem okDs_can : ∀ (xs : List D) (n : Nat), okDs n xs = true → PyData.canLayAll0 (toPs xs) = true ∧ PyData.depthAll (toPs xs) ≤ n
  | [], n, _ => by simp [toPs, PyData.canLayAll0, PyData.depthAll]
  | x :: xs, n, h => by
    simp only [okDs, Bool.and_eq_true] at h
    obtain ⟨h1, h2⟩ := okD_can x n h.1
    obtain ⟨h3, h4⟩ := okDs_can xs n h.2
    simp only [toPs, PyData.canLayAll0, PyData.depthAll, h1, h3, Bool.and_self, true_and]
    omega
end
mutual
theorem dv_dp {K : PySem.W.Frag} {H : Hp} : ∀ (x : D) (v : V) (n : Nat), okD n x = true → DV K H x v → Dp K H v (toP x)
  | .non, v, n, _, h => by rw [dv_non.mp h]; exact .non
  | .bl b, v, n, _, h => by rw [dv_bl.mp h]; exact .bl b
  | .int i, v, n, _, h => by rw [dv_int.mp h]; exact .int i
  | .str s, v, n, _, h => by rw [dv_str.mp h]; exact .str s
  | .rol xs, v, n, h, _ => by cases n <;> simp [okD] at h
  | .ref a, v, n, h, _ => by cases n <;> simp [okD] at h
  | .tup xs, v, n, h, d => by
    cases n with
    | zero => simp [okD] at h
    | succ n =>
      simp only [okD] at h
      obtain ⟨p, vs, rfl, h1, h2⟩ := dv_tup.mp d
      exact .tup h1 (dvs_dp xs vs n h h2)
theorem dvs_dp {K : PySem.W.Frag} {H : Hp} : ∀ (xs : List D) (vs : List V) (n : Nat), okDs n xs = true → DVs K H xs vs → DpAll K H vs (toPs xs)
  | [], vs, n, _, h => by rw [dvs_nil.mp h]; exact .nil
  | x :: xs, vs, n, h, d => by
    simp only [okDs, Bool.and_eq_true] at h
    obtain ⟨v, r, rfl, h1, h2⟩ := dvs_cons.mp d
    exact .cons (dv_dp x v n h.1 h1) (dvs_dp xs r n h.2 h2)
end
/-- == : scalars, data, lists of data -/
def opEq : RD2 := fun x y S Q => match x, y with
  | .int i, .int j => Q (.bl (decide (i = j))) S
  | .str a, .str b => Q (.bl (decide (a = b))) S
  | .bl a, .bl b => Q (.bl (decide (a = b))) S
  | .ref a, .ref b => ∃ xs ys, S a = some (.lst xs) ∧ S b = some (.lst ys) ∧ okDs 60 xs = true ∧ okDs 60 ys = true ∧ Q (.bl (deqs xs ys)) S
  | x, y => okD 60 x = true ∧ okD 60 y = true ∧ Q (.bl (deq x y)) S
def opNe : RD2 := fun x y S Q => opEq x y S fun d S' => match d with
  | .bl b => Q (.bl (!b)) S'
  | _ => False
section
variable {X : Cx} {Z : Zt}
theorem shaped_of {x : D} (h : okD 60 x = true) : SeqAt.shaped (toP x) = true := by
  obtain ⟨h1, h2⟩ := okD_can x 60 h
  unfold SeqAt.shaped
  rw [h1, decide_eq_true (by omega : (toP x).depth ≤ 64)]
  rfl
theorem shapedL_of {xs : List D} (h : okDs 60 xs = true) : SeqAt.shaped (.list (toPs xs)) = true := by
  obtain ⟨h1, h2⟩ := okDs_can xs 60 h
  unfold SeqAt.shaped
  have e1 : (PyData.list (toPs xs)).canLay0 = true := by simpa [PyData.canLay0] using h1
  have e2 : (PyData.list (toPs xs)).depth ≤ 64 := by simp only [PyData.depth]; omega
  rw [e1, decide_eq_true e2]
  rfl
/-- any equality that holds of data -/
theorem eq_any {K : PySem.W.Frag} {H : Hp} {S : DS} {x y : D} {v w : V} {Q0 : QD} (st : ST K Z S H) (hx : DV K H x v) (hy : DV K H y w) (h : opEq x y S Q0) :
    ∃ b, Q0 (.bl b) S ∧ ((scal v w = true ∧ decide (v = w) = b) ∨ ∃ d e, Dp K H v d ∧ Dp K H w e ∧ SeqAt.shaped d = true ∧ SeqAt.shaped e = true ∧ PyData.eqv d e = b) := by
  have gen : ∀ {x y : D}, DV K H x v → DV K H y w → okD 60 x = true ∧ okD 60 y = true ∧ Q0 (.bl (deq x y)) S → ∃ b, Q0 (.bl b) S ∧ ((scal v w = true ∧ decide (v = w) = b) ∨ ∃ d e, Dp K H v d ∧ Dp K H w e ∧ SeqAt.shaped d = true ∧ SeqAt.shaped e = true ∧ PyData.eqv d e = b) :=
    fun {x y} hx hy ⟨h1, h2, q⟩ => ⟨_, q, .inr ⟨_, _, dv_dp _ _ 60 h1 hx, dv_dp _ _ 60 h2 hy, shaped_of h1, shaped_of h2, deq_toP _ _ 60 60 h1 h2⟩⟩
  unfold opEq at h
  split at h
  · rename_i i j
    rw [dv_int.mp hx, dv_int.mp hy]
    exact ⟨_, h, .inl ⟨rfl, by simp⟩⟩
  · rename_i i j
    rw [dv_str.mp hx, dv_str.mp hy]
    exact ⟨_, h, .inl ⟨rfl, by simp⟩⟩
  · rename_i i j
    rw [dv_bl.mp hx, dv_bl.mp hy]
    exact ⟨_, h, .inl ⟨rfl, by simp⟩⟩
  · rename_i a b
    obtain ⟨xs, ys, s1, s2, k1, k2, q⟩ := h
    obtain ⟨vs, h1, d1⟩ := sr_lst st s1
    obtain ⟨ws, h2, d2⟩ := sr_lst st s2
    rw [dv_ref.mp hx, dv_ref.mp hy]
    refine ⟨_, q, .inr ⟨_, _, .lst (SqL.of h1) (dvs_dp _ _ 60 k1 d1), .lst (SqL.of h2) (dvs_dp _ _ 60 k2 d2), shapedL_of k1, shapedL_of k2, ?_⟩⟩
    simp only [PyData.eqv]
    exact deqs_toP _ _ 60 60 k1 k2
  · exact gen hx hy h
theorem od_eq (hu : X.A.units + 64 < cLine) : OpD X Z (compareOp .Eq) opEq := by
  intro pins s σ H v w u u' Q I rx ry h
  obtain ⟨x, y, S, Q0, st, hx, hy, h, k⟩ := h
  obtain ⟨b, q, hs | ⟨d, e, h1, h2, h3, h4, h5⟩⟩ := eq_any st hx hy h
  · exact op_eq pins s σ H v w u u' Q I rx ry ⟨hs.1, by rw [hs.2]; exact k _ S _ H Go.r st (dv_bl.mpr rfl) q⟩
  · exact op_eqD hu pins s σ H v w u u' Q I rx ry ⟨d, e, h1, h2, h3, h4, by rw [h5]; exact k _ S _ H Go.r st (dv_bl.mpr rfl) q⟩
theorem od_ne (hu : X.A.units + 64 < cLine) : OpD X Z (compareOp .NotEq) opNe := by
  intro pins s σ H v w u u' Q I rx ry h
  obtain ⟨x, y, S, Q0, st, hx, hy, h, k⟩ := h
  obtain ⟨b, q, hs | ⟨d, e, h1, h2, h3, h4, h5⟩⟩ := eq_any st hx hy h
  · exact op_ne pins s σ H v w u u' Q I rx ry ⟨hs.1, by rw [hs.2]; exact k _ S _ H Go.r st (dv_bl.mpr rfl) q⟩
  · exact op_neD hu pins s σ H v w u u' Q I rx ry ⟨d, e, h1, h2, h3, h4, by rw [h5]; exact k _ S _ H Go.r st (dv_bl.mpr rfl) q⟩
end

/-! ### order by data -/
def opLt : RD2 := fun x y S Q => match x, y with
  | .int i, .int j => Q (.bl (decide (i < j))) S
  | .str a, .str b => Q (.bl (decide (a.cps.toList < b.cps.toList))) S
  | .bl a, .bl b => Q (.bl (!a && b)) S
  | _, _ => False
def opLe : RD2 := fun x y S Q => match x, y with
  | .int i, .int j => Q (.bl (decide (i ≤ j))) S
  | _, _ => False
def opGt : RD2 := fun x y S Q => match x, y with
  | .int i, .int j => Q (.bl (decide (j < i))) S
  | _, _ => False
def opGe : RD2 := fun x y S Q => match x, y with
  | .int i, .int j => Q (.bl (decide (j ≤ i))) S
  | _, _ => False
def isN : D → Bool
  | .non => true
  | _ => false
def opIsN : RD2 := fun x y S Q => match y with
  | .non => Q (.bl (isN x)) S
  | _ => False
def opNotN : RD2 := fun x y S Q => match y with
  | .non => Q (.bl (!isN x)) S
  | _ => False
section
variable {X : Cx} {Z : Zt}
theorem od_lt : OpD X Z (compareOp .Lt) opLt := by
  intro pins s σ H v w u u' Q I rx ry h
  obtain ⟨x, y, S, Q0, st, hx, hy, h, k⟩ := h
  cases x with
  | int i =>
    cases y with
    | int j =>
      rw [dv_int.mp hx] at rx
      rw [dv_int.mp hy] at ry
      exact op_lt pins s σ H _ _ _ _ Q I rx ry ⟨i, j, rfl, rfl, k _ S _ H Go.r st (dv_bl.mpr rfl) h⟩
    | _ => exact h.elim
  | str a =>
    cases y with
    | str b =>
      rw [dv_str.mp hx] at rx
      rw [dv_str.mp hy] at ry
      exact op_lt_str pins s σ H _ _ _ _ Q I rx ry ⟨a, b, rfl, rfl, k _ S _ H Go.r st (dv_bl.mpr rfl) h⟩
    | _ => exact h.elim
  | bl a =>
    cases y with
    | bl b =>
      rw [dv_bl.mp hx] at rx
      rw [dv_bl.mp hy] at ry
      cases rx
      cases ry
      refine lt_bool ⟨.bl (!a && b), H, I, ?_, k _ S _ H Go.r st (dv_bl.mpr rfl) h⟩
      cases a <;> cases b <;> rfl
    | _ => exact h.elim
  | _ => cases y <;> exact h.elim
theorem od_le : OpD X Z (compareOp .LtE) opLe := opII op_le (fun x y S Q h => by cases x <;> cases y <;> first | exact ⟨_, _, rfl, rfl⟩ | exact h.elim)
  fun i j S Q0 H Q h k => ⟨i, j, rfl, rfl, k _ h _ fun _ _ => dv_bl.mpr rfl⟩
theorem od_gt : OpD X Z (compareOp .Gt) opGt := opII op_gt (fun x y S Q h => by cases x <;> cases y <;> first | exact ⟨_, _, rfl, rfl⟩ | exact h.elim)
  fun i j S Q0 H Q h k => ⟨i, j, rfl, rfl, k _ h _ fun _ _ => dv_bl.mpr rfl⟩
theorem od_ge : OpD X Z (compareOp .GtE) opGe := opII op_ge (fun x y S Q h => by cases x <;> cases y <;> first | exact ⟨_, _, rfl, rfl⟩ | exact h.elim)
  fun i j S Q0 H Q h k => ⟨i, j, rfl, rfl, k _ h _ fun _ _ => dv_bl.mpr rfl⟩
theorem dv_isN {K : PySem.W.Frag} {H : Hp} {x : D} {v : V} (h : DV K H x v) : decide (v = .non) = isN x := by
  cases x with
  | non => rw [dv_non.mp h]; rfl
  | bl b => rw [dv_bl.mp h]; rfl
  | int b => rw [dv_int.mp h]; rfl
  | str b => rw [dv_str.mp h]; rfl
  | ref b => rw [dv_ref.mp h]; rfl
  | tup ds => obtain ⟨p, vs, e, _⟩ := dv_tup.mp h; rw [e]; rfl
  | rol ds => obtain ⟨p, vs, e, _⟩ := dv_rol.mp h; rw [e]; rfl
theorem od_isN : OpD X Z (compareOp .Is) opIsN := by
  intro pins s σ H v w u u' Q I rx ry h
  obtain ⟨x, y, S, Q0, st, hx, hy, h, k⟩ := h
  cases y with
  | non => exact op_isN pins s σ H _ _ _ _ Q I rx ry ⟨dv_non.mp hy, k _ S _ H Go.r st (by rw [dv_isN hx]; exact dv_bl.mpr rfl) h⟩
  | _ => exact h.elim
theorem od_notN : OpD X Z (compareOp .IsNot) opNotN := by
  intro pins s σ H v w u u' Q I rx ry h
  obtain ⟨x, y, S, Q0, st, hx, hy, h, k⟩ := h
  cases y with
  | non =>
    exact op_notN pins s σ H _ _ _ _ Q I rx ry ⟨dv_non.mp hy, k _ S _ H Go.r st (by rw [dv_isN hx]; exact dv_bl.mpr rfl) h⟩
  | _ => exact h.elim
end
end G

set_option Elab.async false
set_option linter.all false
set_option maxRecDepth 100000
set_option maxHeartbeats 4000000
/-! GC: tests, chains, displays, subscripts, slices. -/
namespace G
open PySem PySem.Spec PyProof.Rows L2
section
variable {X : Cx} {Z : Zt} {K : PySem.W.Frag} {W : WX}
/-- what a lifted reading becomes with another end -/
theorem lift_end {t : TD} {σ : L2.St} {H : Hp} {Q : VK} {r : Env_} {S : DS} {Q0 : QD} {E0 : XD} (R : Rel K Z r S σ H) (h : t r S Q0 E0)
    (k : ∀ d S' v H', Go H S H' S' → ST K Z S' H' → DV K H' d v → Q0 d S' → Q v H') (kE : ∀ c S' dd H', Go H S H' S' → ST K Z S' H' → E0 c S' → W (Z.ex c) dd σ H') : lift K Z W t σ H Q := ⟨r, S, Q0, E0, R, h, k, kE⟩
theorem Rel.go {r : Env_} {S S' : DS} {σ : L2.St} {H H' : Hp} (R : Rel K Z r S σ H) (e : Go H S H' S') (s : ST K Z S' H') : Rel K Z r S' σ H' := ⟨R.sl.mono e.evo, s⟩

/-! ### tests -/
def dTest (t : TD) : TDT := fun p S Q E => t p S (fun d S' => match d with | .bl b => Q b S' | _ => False) E
theorem lift_test {t : TD} {σ : L2.St} {H : Hp} {Q : Bool → Hp → Prop} (h : liftT K Z W (dTest t) σ H Q) : lift K Z W t σ H fun x H' => ∃ k, x = .bl k ∧ Q k H' := by
  obtain ⟨p, S, Q0, E0, R, q, k, kE⟩ := h
  refine ⟨p, S, _, E0, R, q, fun d S' v H' e st dv q' => ?_, kE⟩
  cases d with
  | bl b => exact ⟨b, dv_bl.mp dv, k b S' H' e st q'⟩
  | _ => exact q'.elim
theorem pdt_cmp {op : CmpOp} {r : RD2} {a b : Expr} {ta tb : TD} {pos : Pos} (ho : OpD X Z (compareOp op) r) (ha : PD X Z a ta) (hb : PD X Z b tb) (hm : behindInMarks op b = false := by first | exact nobehind _ (by decide) (by decide) | rfl) : PDT X Z (.Compare a [op] [b] pos) (dTest (dOp r ta tb)) := fun W tk =>
  PT.imp (pt_cmpR ho (ha W tk) (hb W tk) hm) fun _ _ _ h => lift_op (lift_test h)
/-- a value's truth -/
def truD (d : D) (S : DS) (Q : Bool → DS → Prop) : Prop := match d with
  | .non => Q false S
  | .bl b => Q b S
  | .int i => Q (i != 0) S
  | .str x => x.length ≤ sizeLine ∧ Q ((x.length : Int) != 0) S
  | .tup ds => Q (!ds.isEmpty) S
  | .rol ds => Q (!ds.isEmpty) S
  | .ref a => (∃ ds, S a = some (.lst ds) ∧ Q (!ds.isEmpty) S) ∨ ∃ kvs, S a = some (.dct kvs) ∧ Q (!kvs.isEmpty) S
theorem DVs.empty {H : Hp} {ds : List D} {vs : List V} (h : DVs K H ds vs) : vs.isEmpty = ds.isEmpty := by
  cases ds with
  | nil => rw [dvs_nil.mp h]; rfl
  | cons d r => obtain ⟨v, q, rfl, _⟩ := dvs_cons.mp h; rfl
theorem KDV.empty {H : Hp} {ds : List (Key × D)} {vs : List (Key × V)} (h : KDV K H ds vs) : vs.isEmpty = ds.isEmpty := by
  cases ds with
  | nil => rw [show vs = [] from h]; rfl
  | cons d r => obtain ⟨k, d⟩ := d; obtain ⟨v, q, rfl, _⟩ := h; rfl
theorem tru_dv {H : Hp} {S : DS} {d : D} {v : V} {R : Bool → DS → Prop} (st : ST K Z S H) (h : DV K H d v) (q : truD d S R) : ∃ k, TruV K v H k ∧ R k S := by
  cases d with
  | non => rw [dv_non.mp h]; exact ⟨_, rfl, q⟩
  | bl b => rw [dv_bl.mp h]; exact ⟨_, rfl, q⟩
  | int i => rw [dv_int.mp h]; exact ⟨_, rfl, q⟩
  | str i => rw [dv_str.mp h]; exact ⟨_, ⟨q.1, rfl⟩, q.2⟩
  | tup ds =>
    obtain ⟨p, vs, rfl, h1, h2⟩ := dv_tup.mp h
    exact ⟨_, .inr (.inl ⟨vs, h1, rfl⟩), by rw [h2.empty]; exact q⟩
  | rol ds =>
    obtain ⟨p, vs, rfl, h1, h2⟩ := dv_rol.mp h
    exact ⟨_, .inl ⟨vs, h1.sq, rfl⟩, by rw [h2.empty]; exact q⟩
  | ref a =>
    rw [dv_ref.mp h]
    rcases q with ⟨ds, s1, q⟩ | ⟨kvs, s1, q⟩
    · obtain ⟨vs, h1, h2⟩ := sr_lst st s1
      exact ⟨_, .inl ⟨vs, SqL.of h1, rfl⟩, by rw [h2.empty]; exact q⟩
    · obtain ⟨ws, h1, h2⟩ := st.sr a _ s1
      exact ⟨_, .inr (.inr ⟨ws, h1, rfl⟩), by rw [h2.empty]; exact q⟩
def dTru (t : TD) : TDT := fun p S Q E => t p S (fun d S' => truD d S' Q) E
theorem pdt_tru {e : Expr} {t : TD} (h : PD X Z e t) (he : ∀ whole, isTrue e X.env whole = (do let v ← whole; standAt e.pos; holding [v] (truthy v)) := by intro _; rfl) : PDT X Z e (dTru t) := fun W tk => by
  refine PT.imp (pt_truth (h W tk) he) fun σ H Q h => ?_
  obtain ⟨p, S, Q0, E0, R, q, k, kE⟩ := h
  refine ⟨p, S, _, E0, R, q, fun d S' v H' e st dv q' => ?_, kE⟩
  obtain ⟨b, h1, h2⟩ := tru_dv st dv q'
  exact ⟨b, h1, k b S' H' e st h2⟩
def dAnd (t u : TDT) : TDT := fun p S Q E => t p S (fun c S1 => if c = true then u p S1 Q E else Q false S1) E
def dOr (t u : TDT) : TDT := fun p S Q E => t p S (fun c S1 => if c = true then Q true S1 else u p S1 Q E) E
def dNot (t : TDT) : TDT := fun p S Q E => t p S (fun c S1 => Q (!c) S1) E
variable {a b e : Expr} {rest : List Expr} {pos : Pos} {tA tB' : TDT} {ta tb : TD}
theorem PDW.pt (h : PDW X Z e tA) : PDT X Z e tA := fun W tk => (h W tk).pt
theorem pdw_and1 (ha : PDT X Z a tA) : PDW X Z (.BoolOp .And [a] pos) tA := fun W tk => pw_and1 (ha W tk)
theorem pdw_or1 (ha : PDT X Z a tA) : PDW X Z (.BoolOp .Or [a] pos) tA := fun W tk => pw_or1 (ha W tk)
theorem pdw_and (ha : PDT X Z a tA) (hb : PDW X Z (.BoolOp .And (b :: rest) pos) tB') : PDW X Z (.BoolOp .And (a :: b :: rest) pos) (dAnd tA tB') := fun W tk => by
  refine PW.imp (pw_and (ha W tk) (hb W tk)) fun σ H Q h => ?_
  obtain ⟨p, S, Q0, E0, R, q, k, kE⟩ := h
  refine ⟨p, S, _, E0, R, q, fun c S' H' e st q' => ?_, kE⟩
  cases c with
  | true => exact iteT ⟨p, S', Q0, E0, R.go e st, (if_pos rfl).mp q', fun b' S2 H2 e2 => k b' S2 H2 (e.trans e2), fun c S2 dd H2 e2 => kE c S2 dd H2 (e.trans e2)⟩
  | false => exact iteF (k false S' H' e st ((if_neg Bool.false_ne_true).mp q'))
theorem pdw_or (ha : PDT X Z a tA) (hb : PDW X Z (.BoolOp .Or (b :: rest) pos) tB') : PDW X Z (.BoolOp .Or (a :: b :: rest) pos) (dOr tA tB') := fun W tk => by
  refine PW.imp (pw_or (ha W tk) (hb W tk)) fun σ H Q h => ?_
  obtain ⟨p, S, Q0, E0, R, q, k, kE⟩ := h
  refine ⟨p, S, _, E0, R, q, fun c S' H' e st q' => ?_, kE⟩
  cases c with
  | false => exact iteF ⟨p, S', Q0, E0, R.go e st, (if_neg Bool.false_ne_true).mp q', fun b' S2 H2 e2 => k b' S2 H2 (e.trans e2), fun c S2 dd H2 e2 => kE c S2 dd H2 (e.trans e2)⟩
  | true => exact iteT (k true S' H' e st ((if_pos rfl).mp q'))
theorem pdt_not (ha : PDT X Z a tA) : PDT X Z (.UnaryOp .Not a pos) (dNot tA) := fun W tk => by
  refine PT.imp (pt_not (ha W tk)) fun σ H Q h => ?_
  obtain ⟨p, S, Q0, E0, R, q, k, kE⟩ := h
  exact ⟨p, S, _, E0, R, q, fun c S' H' e st q' => k (!c) S' H' e st q', kE⟩

/-! ### or, and, not, if as values -/
def dAndV (ta tb : TD) : TD := fun p S Q E => ta p S (fun x S1 => truD x S1 fun c S2 => if c = true then tb p S2 Q E else Q x S2) E
def dOrV (ta tb : TD) : TD := fun p S Q E => ta p S (fun x S1 => truD x S1 fun c S2 => if c = true then Q x S2 else tb p S2 Q E) E
def dNotV (ta : TD) : TD := fun p S Q E => ta p S (fun x S1 => truD x S1 fun c S2 => Q (.bl (!c)) S2) E
def dIf (t : TDT) (ta tb : TD) : TD := fun p S Q E => t p S (fun c S1 => if c = true then ta p S1 Q E else tb p S1 Q E) E
theorem pd_one {op} (h : PD X Z a ta) : PD X Z (.BoolOp op [a] pos) ta := fun W tk => pe_one (h W tk)
theorem pd_and (ha : PD X Z a ta) (hb : PD X Z (.BoolOp .And (b :: rest) pos) tb) : PD X Z (.BoolOp .And (a :: b :: rest) pos) (dAndV ta tb) := fun W tk => by
  refine PE.imp (pe_andT (ha W tk) (hb W tk)) fun σ H Q h => ?_
  obtain ⟨p, S, Q0, E0, R, q, k, kE⟩ := h
  refine ⟨p, S, _, E0, R, q, fun d S' v H' e st dv q' => ?_, kE⟩
  obtain ⟨c, h1, h2⟩ := tru_dv st dv q'
  refine ⟨c, h1, ?_⟩
  cases c with
  | true => exact iteT ⟨p, S', Q0, E0, R.go e st, (if_pos rfl).mp h2, fun d2 S2 v2 H2 e2 => k d2 S2 v2 H2 (e.trans e2), fun c S2 dd H2 e2 => kE c S2 dd H2 (e.trans e2)⟩
  | false => exact iteF (k d S' v H' e st dv ((if_neg Bool.false_ne_true).mp h2))
theorem pd_or (ha : PD X Z a ta) (hb : PD X Z (.BoolOp .Or (b :: rest) pos) tb) : PD X Z (.BoolOp .Or (a :: b :: rest) pos) (dOrV ta tb) := fun W tk => by
  refine PE.imp (pe_orT (ha W tk) (hb W tk)) fun σ H Q h => ?_
  obtain ⟨p, S, Q0, E0, R, q, k, kE⟩ := h
  refine ⟨p, S, _, E0, R, q, fun d S' v H' e st dv q' => ?_, kE⟩
  obtain ⟨c, h1, h2⟩ := tru_dv st dv q'
  refine ⟨c, h1, ?_⟩
  cases c with
  | false => exact iteF ⟨p, S', Q0, E0, R.go e st, (if_neg Bool.false_ne_true).mp h2, fun d2 S2 v2 H2 e2 => k d2 S2 v2 H2 (e.trans e2), fun c S2 dd H2 e2 => kE c S2 dd H2 (e.trans e2)⟩
  | true => exact iteT (k d S' v H' e st dv ((if_pos rfl).mp h2))
theorem pd_not (ha : PD X Z a ta) : PD X Z (.UnaryOp .Not a pos) (dNotV ta) := fun W tk => by
  refine PE.imp (pe_notT (ha W tk)) fun σ H Q h => ?_
  obtain ⟨p, S, Q0, E0, R, q, k, kE⟩ := h
  refine ⟨p, S, _, E0, R, q, fun d S' v H' e st dv q' => ?_, kE⟩
  obtain ⟨c, h1, h2⟩ := tru_dv st dv q'
  exact ⟨c, h1, k _ S' _ H' e st (dv_bl.mpr rfl) h2⟩
theorem pd_if {c : Expr} (hc : PDT X Z c tA) (ha : PD X Z a ta) (hb : PD X Z b tb) : PD X Z (.IfExp c a b pos) (dIf tA ta tb) := fun W tk => by
  refine PE.imp (pe_ifExp (hc W tk) (ha W tk) (hb W tk)) fun σ H Q h => ?_
  obtain ⟨p, S, Q0, E0, R, q, k, kE⟩ := h
  refine ⟨p, S, _, E0, R, q, fun c S' H' e st q' => ?_, kE⟩
  cases c with
  | true => exact iteT ⟨p, S', Q0, E0, R.go e st, (if_pos rfl).mp q', fun d2 S2 v2 H2 e2 => k d2 S2 v2 H2 (e.trans e2), fun c S2 dd H2 e2 => kE c S2 dd H2 (e.trans e2)⟩
  | false => exact iteF ⟨p, S', Q0, E0, R.go e st, (if_neg Bool.false_ne_true).mp q', fun d2 S2 v2 H2 e2 => k d2 S2 v2 H2 (e.trans e2), fun c S2 dd H2 e2 => kE c S2 dd H2 (e.trans e2)⟩
def dNeg (ta : TD) : TD := fun p S Q E => ta p S (fun x S1 => match x with | .int i => Q (.int (-i)) S1 | _ => False) E
theorem pd_neg (ha : PD X Z a ta) : PD X Z (.UnaryOp .USub a pos) (dNeg ta) := fun W tk => by
  refine PE.imp (pe_un un_neg (ha W tk)) fun σ H Q h => ?_
  obtain ⟨p, S, Q0, E0, R, q, k, kE⟩ := h
  refine ⟨p, S, _, E0, R, q, fun d S' v H' e st dv q' => ?_, kE⟩
  cases d with
  | int i => exact ⟨i, dv_int.mp dv, k _ S' _ H' e st (dv_int.mpr rfl) q'⟩
  | _ => exact q'.elim

/-! ### chains of comparisons -/
/-- the rest of a chain behind the left value -/
def PDCh (X : Cx) (Z : Zt) (ops : List CmpOp) (es : List Expr) (t : D → TD) : Prop := ∀ (W : WX), Takes X W → ∀ (pos : Pos) (pins : List (Addr × Obj)) (s : Shared) (σ : L2.St) (H : Hp) (x : D) (v : V) (u : Value) (Q : VK), Inv X pins σ H s → DV X.K H x v → RelV v u → lift X.K Z W (t x) σ H Q →
  wpAny (model X.prog X.w) X.A (compareChain pos u ops (evalEach es X.env)) (EP X pins σ Q) X.xe s
def PDChT (X : Cx) (Z : Zt) (ops : List CmpOp) (es : List Expr) (t : D → TD) : Prop := ∀ (W : WX), Takes X W → ∀ (pos : Pos) (pins : List (Addr × Obj)) (s : Shared) (σ : L2.St) (H : Hp) (x : D) (v : V) (u : Value) (Q : Bool → Hp → Prop), Inv X pins σ H s → DV X.K H x v → RelV v u → liftT X.K Z W (dTest (t x)) σ H Q →
  wpAny (model X.prog X.w) X.A (testChain pos u ops (evalEach es X.env)) (TP X pins σ Q) X.xe s
def dCh1 (r : RD2) (te : TD) : D → TD := fun x p S Q E => te p S (fun y S1 => r x y S1 Q) E
def dChC (r : RD2) (te : TD) (tc : D → TD) : D → TD := fun x p S Q E => te p S (fun y S1 => r x y S1 fun d S2 => match d with
  | .bl c => if c = true then tc y p S2 Q E else Q (.bl false) S2
  | _ => False) E
variable {op op' : CmpOp} {ops : List CmpOp} {es : List Expr} {r : RD2} {te : TD} {tc : D → TD}
theorem pdch_1 (ho : OpD X Z (compareOp op) r) (he : PD X Z e te) : PDCh X Z [op] [e] (dCh1 r te) := fun W tk pos pins s σ H x v u Q I dx ru h => by
  obtain ⟨p, S, Q0, E0, R, q, k, kE⟩ := h
  show wpAny _ _ (compareChain pos u [op] [eval e X.env]) _ _ s
  refine chain_last (thn ((he W tk).run pins s σ H (fun y H1 => liftR X.K Z r v y H1 Q) I ⟨p, S, _, E0, R, q, fun y S1 w H1 e1 st1 dv1 q1 => ?_, kE⟩) fun w' s1 ⟨y, H1, I1, r1, q1⟩ => ho pins s1 σ H1 v y u w' Q I1 ru r1 q1)
  exact ⟨x, y, S1, Q0, st1, dx.mono e1.evo, dv1, q1, fun d S' v' H' e' st' dv' z => k d S' v' H' (e1.trans e') st' dv' z⟩
theorem pdch_c (ho : OpD X Z (compareOp op) r) (he : PD X Z e te) (hc : PDCh X Z (op' :: ops) (b :: es) tc) : PDCh X Z (op :: op' :: ops) (e :: b :: es) (dChC r te tc) := fun W tk pos pins s σ H x v u Q I dx ru h => by
  obtain ⟨p, S, Q0, E0, R, q, k, kE⟩ := h
  show wpAny _ _ (compareChain pos u (op :: op' :: ops) (eval e X.env :: eval b X.env :: evalEach es X.env)) _ _ s
  refine chain_link (thn ((he W tk).run pins s σ H (fun y H1 => ∃ yd, DV X.K H1 yd y ∧ liftR X.K Z r v y H1 fun z H2 => ∃ c, z = .bl c ∧ DV X.K H2 yd y ∧ if c = true then lift X.K Z W (tc yd) σ H2 Q else Q (.bl false) H2) I ⟨p, S, _, E0, R, q, fun y S1 w H1 e1 st1 dv1 q1 => ⟨y, dv1, ?_⟩, kE⟩) fun w' s1 ⟨y, H1, I1, r1, yd, dvy, q1⟩ => ?_)
  · refine ⟨x, y, S1, _, st1, dx.mono e1.evo, dv1, q1, fun d S' v' H' e' st' dv' z => ?_⟩
    cases d with
    | bl c =>
      refine ⟨c, dv_bl.mp dv', dv1.mono e'.evo, ?_⟩
      cases c with
      | true => exact iteT ⟨p, S', Q0, E0, R.go (e1.trans e') st', (if_pos rfl).mp z, fun d2 S2 v2 H2 e2 => k d2 S2 v2 H2 ((e1.trans e').trans e2), fun c S2 dd H2 e2 => kE c S2 dd H2 ((e1.trans e').trans e2)⟩
      | false => exact iteF (k _ S' _ H' (e1.trans e') st' (dv_bl.mpr rfl) ((if_neg Bool.false_ne_true).mp z))
    | _ => exact z.elim
  · refine thn (ho pins s1 σ H1 v y u w' _ I1 ru r1 q1) fun d s2 ⟨z, H2, I2, r2, c, ez, dvy2, q2⟩ => ?_
    subst ez
    cases r2
    refine wpAny_truthy_bool ?_
    cases c with
    | true => exact ite_tt (hc W tk pos pins s2 σ H2 yd y w' Q I2 dvy2 r1 ((if_pos rfl).mp q2))
    | false => exact ite_ff ⟨.bl false, H2, I2, rfl, (if_neg Bool.false_ne_true).mp q2⟩
theorem pdcht_1 (ho : OpD X Z (compareOp op) r) (he : PD X Z e te) : PDChT X Z [op] [e] (dCh1 r te) := fun W tk pos pins s σ H x v u Q I dx ru h => by
  obtain ⟨p, S, Q0, E0, R, q, k, kE⟩ := h
  show wpAny _ _ (testChain pos u [op] [eval e X.env]) _ _ s
  refine test_last (thn ((he W tk).run pins s σ H (fun y H1 => liftR X.K Z r v y H1 fun z H2 => ∃ c, z = .bl c ∧ Q c H2) I ⟨p, S, _, E0, R, q, fun y S1 w H1 e1 st1 dv1 q1 => ?_, kE⟩) fun w' s1 ⟨y, H1, I1, r1, q1⟩ => thn (ho pins s1 σ H1 v y u w' _ I1 ru r1 q1) fun d s2 ⟨z, H2, I2, r2, c, ez, q2⟩ => ?_)
  · refine ⟨x, y, S1, _, st1, dx.mono e1.evo, dv1, q1, fun d S' v' H' e' st' dv' z => ?_⟩
    cases d with
    | bl c => exact ⟨c, dv_bl.mp dv', k c S' H' (e1.trans e') st' z⟩
    | _ => exact z.elim
  · subst ez
    cases r2
    exact wpAny_truthy_bool ⟨H2, I2, q2⟩
theorem pdcht_c (ho : OpD X Z (compareOp op) r) (he : PD X Z e te) (hc : PDChT X Z (op' :: ops) (b :: es) tc) : PDChT X Z (op :: op' :: ops) (e :: b :: es) (dChC r te tc) := fun W tk pos pins s σ H x v u Q I dx ru h => by
  obtain ⟨p, S, Q0, E0, R, q, k, kE⟩ := h
  show wpAny _ _ (testChain pos u (op :: op' :: ops) (eval e X.env :: eval b X.env :: evalEach es X.env)) _ _ s
  refine test_link (thn ((he W tk).run pins s σ H (fun y H1 => ∃ yd, DV X.K H1 yd y ∧ liftR X.K Z r v y H1 fun z H2 => ∃ c, z = .bl c ∧ DV X.K H2 yd y ∧ if c = true then liftT X.K Z W (dTest (tc yd)) σ H2 Q else Q false H2) I ⟨p, S, _, E0, R, q, fun y S1 w H1 e1 st1 dv1 q1 => ⟨y, dv1, ?_⟩, kE⟩) fun w' s1 ⟨y, H1, I1, r1, yd, dvy, q1⟩ => ?_)
  · refine ⟨x, y, S1, _, st1, dx.mono e1.evo, dv1, q1, fun d S' v' H' e' st' dv' z => ?_⟩
    cases d with
    | bl c =>
      refine ⟨c, dv_bl.mp dv', dv1.mono e'.evo, ?_⟩
      cases c with
      | true => exact iteT ⟨p, S', Q0, E0, R.go (e1.trans e') st', (if_pos rfl).mp z, fun d2 S2 H2 e2 => k d2 S2 H2 ((e1.trans e').trans e2), fun c S2 dd H2 e2 => kE c S2 dd H2 ((e1.trans e').trans e2)⟩
      | false => exact iteF (k _ S' H' (e1.trans e') st' ((if_neg Bool.false_ne_true).mp z))
    | _ => exact z.elim
  · refine thn (ho pins s1 σ H1 v y u w' _ I1 ru r1 q1) fun d s2 ⟨z, H2, I2, r2, c, ez, dvy2, q2⟩ => ?_
    subst ez
    cases r2
    refine wpAny_truthy_bool ?_
    cases c with
    | true => exact ite_tt (hc W tk pos pins s2 σ H2 yd y w' Q I2 dvy2 r1 ((if_pos rfl).mp q2))
    | false => exact ite_ff ⟨H2, I2, (if_neg Bool.false_ne_true).mp q2⟩
def dChain (ta : TD) (tc : D → TD) : TD := fun p S Q E => ta p S (fun x S1 => tc x p S1 Q E) E
theorem pd_chain (ha : PD X Z a ta) (hc : PDCh X Z (op :: op' :: ops) (b :: e :: es) tc) (hm : lastMarks (op :: op' :: ops) (b :: e :: es) = false := by with_unfolding_all rfl) : PD X Z (.Compare a (op :: op' :: ops) (b :: e :: es) pos) (dChain ta tc) := fun W tk => by
  refine ⟨fun pins s σ H Q I h => ?_⟩
  obtain ⟨p, S, Q0, E0, R, q, k, kE⟩ := h
  refine Compare_chain (thn ((ha W tk).run pins s σ H (fun v H1 => ∃ x, DV X.K H1 x v ∧ lift X.K Z W (tc x) σ H1 Q) I ⟨p, S, _, E0, R, q, fun x S1 v H1 e1 st1 dv1 q1 => ⟨x, dv1, ?_⟩, kE⟩) fun u s1 ⟨v, H1, I1, r1, x, dx, q1⟩ => hc W tk pos pins s1 σ H1 x v u Q I1 dx r1 q1) hm
  exact ⟨p, S1, Q0, E0, R.go e1 st1, q1, fun d2 S2 v2 H2 e2 => k d2 S2 v2 H2 (e1.trans e2), fun c S2 dd H2 e2 => kE c S2 dd H2 (e1.trans e2)⟩
theorem pdt_chain (ha : PD X Z a ta) (hc : PDChT X Z (op :: op' :: ops) (b :: e :: es) tc) (hm : lastMarks (op :: op' :: ops) (b :: e :: es) = false := by with_unfolding_all rfl) : PDT X Z (.Compare a (op :: op' :: ops) (b :: e :: es) pos) (dTest (dChain ta tc)) := fun W tk => by
  refine ⟨fun pins s σ H Q I h => ?_⟩
  obtain ⟨p, S, Q0, E0, R, q, k, kE⟩ := h
  refine isTrue_chain (thn ((ha W tk).run pins s σ H (fun v H1 => ∃ x, DV X.K H1 x v ∧ liftT X.K Z W (dTest (tc x)) σ H1 Q) I ⟨p, S, _, E0, R, q, fun x S1 v H1 e1 st1 dv1 q1 => ⟨x, dv1, ?_⟩, kE⟩) fun u s1 ⟨v, H1, I1, r1, x, dx, q1⟩ => hc W tk pos pins s1 σ H1 x v u Q I1 dx r1 q1) hm
  exact ⟨p, S1, Q0, E0, R.go e1 st1, q1, fun d2 S2 H2 e2 => k d2 S2 H2 (e1.trans e2), fun c S2 dd H2 e2 => kE c S2 dd H2 (e1.trans e2)⟩
end
end G

set_option Elab.async false
set_option linter.all false
set_option maxRecDepth 100000
set_option maxHeartbeats 4000000
/-! GD: displays, subscripts, slices, calls of defs, classes, methods, built-ins. -/
namespace G
open PySem PySem.Spec PyProof.Rows L2
section
variable {X : Cx} {Z : Zt} {K : PySem.W.Frag} {W : WX} {a b e : Expr} {es : List Expr} {ta tb te : TD} {pos : Pos}
/-! ### arguments, displays -/
def dNil : TDA := fun _ S Q _ => Q [] S
def dCons (t : TD) (u : TDA) : TDA := fun p S Q E => t p S (fun x S1 => u p S1 (fun xs S2 => Q (x :: xs) S2) E) E
theorem pda_nil : PDA X Z [] dNil := fun W tk => by
  refine PA.imp pa_nil fun σ H Q h => ?_
  obtain ⟨p, S, Q0, E0, R, q, k, kE⟩ := h
  exact k [] S [] H Go.r R.st (dvs_nil.mpr rfl) q
theorem pda_cons {t : TD} {u : TDA} (he : PD X Z e t) (hr : PDA X Z es u) (hs : starEach (e :: es) X.env = (false, eval e X.env) :: starEach es X.env := by rfl) : PDA X Z (e :: es) (dCons t u) := fun W tk => by
  refine PA.imp (pa_cons (he W tk) (hr W tk) hs) fun σ H Q h => ?_
  obtain ⟨p, S, Q0, E0, R, q, k, kE⟩ := h
  refine ⟨p, S, _, E0, R, q, fun x S1 v H1 e1 st1 dv1 q1 => ?_, kE⟩
  exact ⟨p, S1, _, E0, R.go e1 st1, q1, fun xs S2 vs H2 e2 st2 dv2 q2 => k _ S2 _ H2 (e1.trans e2) st2 (DVs.cons (dv1.mono e2.evo) dv2) q2, fun c S2 dd H2 e2 => kE c S2 dd H2 (e1.trans e2)⟩
def dTup (t : TDA) : TD := fun p S Q E => t p S (fun ds S1 => ds.length ≤ sizeLine ∧ Q (.tup ds) S1) E
def dLst (t : TDA) : TD := fun p S Q E => t p S (fun ds S1 => ds.length ≤ sizeLine ∧ ∀ l, S1 l = none → Q (.ref l) (put S1 l (.lst ds))) E
theorem pd_tup {t : TDA} {x1} (h : PDA X Z es t) : PD X Z (.Tuple es x1 pos) (dTup t) := fun W tk => by
  refine PE.imp (pe_tup (h W tk)) fun σ H Q h => ?_
  obtain ⟨p, S, Q0, E0, R, q, k, kE⟩ := h
  refine ⟨p, S, _, E0, R, q, fun ds S1 vs H1 e1 st1 dv1 q1 => ⟨by rw [← dv1.len]; exact q1.1, fun l hl => ?_⟩, kE⟩
  exact k _ S1 _ _ (e1.trans (Go.new hl)) (st1.new hl) (dv_tup.mpr ⟨l, vs, rfl, .inl (.inl upd_same), dv1.mono (Evo.new hl)⟩) q1.2
theorem pd_lst {t : TDA} (h : PDA X Z es t) : PD X Z (.List es pos) (dLst t) := fun W tk => by
  refine PE.imp (pe_lst (h W tk)) fun σ H Q h => ?_
  obtain ⟨p, S, Q0, E0, R, q, k, kE⟩ := h
  refine ⟨p, S, _, E0, R, q, fun ds S1 vs H1 e1 st1 dv1 q1 => ⟨by rw [← dv1.len]; exact q1.1, fun l hl => ?_⟩, kE⟩
  exact k _ _ _ _ (e1.trans (Go.made hl)) (st1.made (o := .lst ds) hl ⟨vs, upd_same, dv1.mono (Evo.new hl)⟩) (dv_ref.mpr rfl) (q1.2 l (st1.free hl))

/-! ### subscripts -/
theorem DVs.at {H : Hp} {ds : List D} {vs : List V} {i : Int} {d : D} (h : DVs K H ds vs) (q : atI ds i = some d) : ∃ v, atI vs i = some v ∧ DV K H d v := by
  unfold atI at q ⊢
  rw [← h.len]
  cases e : ixN ds.length i with
  | none => rw [e] at q; cases q
  | some j =>
    rw [e] at q
    exact h.get q
def opIx : RD2 := fun x y S Q => match x, y with
  | .tup ds, .int i => ∃ d, atI ds i = some d ∧ Q d S
  | .rol ds, .int i => ∃ d, atI ds i = some d ∧ Q d S
  | .str z, .int i => z.length ≤ sizeLine ∧ ∃ c, atI z.cps.toList i = some c ∧ Q (.str ⟨#[c]⟩) S
  | .ref l, .int i => ∃ ds d, S l = some (.lst ds) ∧ atI ds i = some d ∧ Q d S
  | _, _ => False
theorem ixd : IxR X (liftR X.K Z opIx) := by
  intro value slice pins s σ H v w u u' Q I rx ry h hs
  obtain ⟨x, y, S, Q0, st, hx, hy, h, k⟩ := h
  cases y with
  | int i =>
    rw [dv_int.mp hy] at ry
    cases x with
    | tup ds =>
      obtain ⟨d, ha, q⟩ : ∃ d, atI ds i = some d ∧ Q0 d S := h
      obtain ⟨p, vs, e1, h1, d1⟩ := dv_tup.mp hx
      rw [e1] at rx
      obtain ⟨v', a1, a2⟩ := d1.at ha
      exact ix_tup value slice pins s σ H _ _ u u' Q I rx ry ⟨p, vs, i, v', rfl, rfl, h1, a1, k _ S _ H Go.r st a2 q⟩ hs
    | rol ds =>
      obtain ⟨d, ha, q⟩ : ∃ d, atI ds i = some d ∧ Q0 d S := h
      obtain ⟨p, vs, e1, h1, d1⟩ := dv_rol.mp hx
      rw [e1] at rx
      obtain ⟨v', a1, a2⟩ := d1.at ha
      exact ix_list value slice pins s σ H _ _ u u' Q I rx ry ⟨p, vs, i, v', rfl, rfl, h1.sq, a1, k _ S _ H Go.r st a2 q⟩ hs
    | str z =>
      obtain ⟨hz, c, ha, q⟩ : z.length ≤ sizeLine ∧ ∃ c, atI z.cps.toList i = some c ∧ Q0 (.str ⟨#[c]⟩) S := h
      rw [dv_str.mp hx] at rx
      exact ix_str value slice pins s σ H _ _ u u' Q I rx ry ⟨z, i, c, rfl, rfl, hz, ha, k _ S _ H Go.r st (dv_str.mpr rfl) q⟩ hs
    | ref l =>
      obtain ⟨ds, d, s1, ha, q⟩ : ∃ ds d, S l = some (.lst ds) ∧ atI ds i = some d ∧ Q0 d S := h
      rw [dv_ref.mp hx] at rx
      obtain ⟨vs, h1, d1⟩ := sr_lst st s1
      obtain ⟨v', a1, a2⟩ := d1.at ha
      exact ix_list value slice pins s σ H _ _ u u' Q I rx ry ⟨l, vs, i, v', rfl, rfl, SqL.of h1, a1, k _ S _ H Go.r st a2 q⟩ hs
    | _ => exact h.elim
  | _ => cases x <;> exact h.elim
theorem pd_ix (ha : PD X Z a ta) (hb : PD X Z b tb) (hs : PlainIx b := by exact fun _ _ => rfl) : PD X Z (.Subscript a b pos) (dOp opIx ta tb) := fun W tk =>
  PE.imp (pe_ix ixd (ha W tk) (hb W tk) hs) fun _ _ _ h => lift_op h
/-- an item's place as a whole number that is known -/
theorem ix_at {ds : List D} {i : Int} {d : D} {S : DS} {Q : QD} (h : atI ds i = some d) (q : Q d S) : opIx (.tup ds) (.int i) S Q := ⟨d, h, q⟩

/-! ### slices -/
abbrev TDO := Env_ → DS → (Option Int → DS → Prop) → XD → Prop
def liftO (K : PySem.W.Frag) (Z : Zt) (W : WX) (t : TDO) : TO := fun σ H Q => ∃ r S Q0 E0, Rel K Z r S σ H ∧ t r S Q0 E0 ∧
  (∀ o S' H', Go H S H' S' → ST K Z S' H' → Q0 o S' → Q o H') ∧ ∀ c S' dd H', Go H S H' S' → ST K Z S' H' → E0 c S' → W (Z.ex c) dd σ H'
def PDO (X : Cx) (Z : Zt) (o : Option Expr) (t : TDO) : Prop := ∀ W, Takes X W → PO X o (liftO X.K Z W t)
def dNoPart : TDO := fun _ S Q _ => Q none S
def dPart (t : TD) : TDO := fun p S Q E => t p S (fun d S1 => match d with | .int i => Q (some i) S1 | _ => False) E
theorem PO.imp {o : Option Expr} {t t' : TO} (h : PO X o t) (i : ∀ σ H Q, t' σ H Q → t σ H Q) : PO X o t' := ⟨fun pins s σ H Q I q => h.run pins s σ H Q I (i σ H Q q)⟩
theorem pdo_none : PDO X Z none dNoPart := fun W tk => by
  refine PO.imp po_none fun σ H Q h => ?_
  obtain ⟨p, S, Q0, E0, R, q, k, kE⟩ := h
  exact k none S H Go.r R.st q
theorem pdo_some (h : PD X Z e te) : PDO X Z (some e) (dPart te) := fun W tk => by
  refine PO.imp (po_some (h W tk)) fun σ H Q h => ?_
  obtain ⟨p, S, Q0, E0, R, q, k, kE⟩ := h
  refine ⟨p, S, _, E0, R, q, fun d S1 v H1 e1 st1 dv1 q1 => ?_, kE⟩
  cases d with
  | int i => exact ⟨i, dv_int.mp dv1, k _ S1 H1 e1 st1 q1⟩
  | _ => exact q1.elim
def cutD {α : Type} (xs : List α) (lo hi : Option Int) : List α := (xs.drop (HT.sIx xs.length 0 lo)).take (HT.sIx xs.length xs.length hi - HT.sIx xs.length 0 lo)
theorem DVs.cut {H : Hp} {ds : List D} {vs : List V} (h : DVs K H ds vs) (lo hi : Option Int) : DVs K H (cutD ds lo hi) (cutV vs lo hi) := by
  unfold cutD cutV
  rw [← h.len]
  exact (h.drop _).take _
def slD (x : D) (lo hi : Option Int) (S : DS) (Q : QD) : Prop := match x with
  | .tup ds => Q (.tup (cutD ds lo hi)) S
  | .str z => z.length ≤ sizeLine ∧ Q (.str (cutS z lo hi)) S
  | .rol ds => ∀ l, S l = none → Q (.ref l) (put S l (.lst (cutD ds lo hi)))
  | .ref l => ∃ ds, S l = some (.lst ds) ∧ ∀ p, S p = none → Q (.ref p) (put S p (.lst (cutD ds lo hi)))
  | _ => False
def dSl (te : TD) (tl th : TDO) : TD := fun p S Q E => te p S (fun x S1 => tl p S1 (fun lo S2 => th p S2 (fun hi S3 => slD x lo hi S3 Q) E) E) E
def liftSl (K : PySem.W.Frag) (Z : Zt) : V → Option Int → Option Int → Hp → VK → Prop := fun v lo hi H Q => ∃ x S Q0, ST K Z S H ∧ DV K H x v ∧ slD x lo hi S Q0 ∧ ∀ d S' v' H', Go H S H' S' → ST K Z S' H' → DV K H' d v' → Q0 d S' → Q v' H'
theorem sld : SlR X (liftSl X.K Z) := by
  intro pins s σ H x v vl vu lo hi sl Q I rx hs pl pu h
  obtain ⟨d, S, Q0, st, hx, h, k⟩ := h
  cases d with
  | tup ds =>
    obtain ⟨p, vs, e1, h1, d1⟩ := dv_tup.mp hx
    subst e1
    refine sl_tupA pins s σ H _ v vl vu lo hi sl Q I rx hs pl pu ⟨p, vs, rfl, h1, fun z => ?_, fun _ l hl => ?_⟩
    · have e : cutD ds lo hi = ds := by
        unfold cutD
        rw [d1.len, z.1, z.2]
        simp [← d1.len]
      have h' : Q0 (.tup (cutD ds lo hi)) S := h
      rw [e] at h'
      exact k _ S _ H Go.r st (dv_tup.mpr ⟨p, vs, rfl, h1, d1⟩) h'
    · exact k _ S _ _ (Go.new hl) (st.new hl) (dv_tup.mpr ⟨l, _, rfl, .inl (.inl upd_same), (d1.cut lo hi).mono (Evo.new hl)⟩) h
  | str z =>
    rw [dv_str.mp hx] at rx
    exact sl_str pins s σ H _ v vl vu lo hi sl Q I rx hs pl pu ⟨z, rfl, h.1, k _ S _ H Go.r st (dv_str.mpr rfl) h.2⟩
  | rol ds =>
    obtain ⟨p, vs, e1, h1, d1⟩ := dv_rol.mp hx
    subst e1
    exact sl_list pins s σ H _ v vl vu lo hi sl Q I rx hs pl pu ⟨p, vs, rfl, h1.sq, fun l hl => k _ _ _ _ (Go.made hl) (st.made (o := .lst (cutD ds lo hi)) hl ⟨_, upd_same, (d1.cut lo hi).mono (Evo.new hl)⟩) (dv_ref.mpr rfl) (h l (st.free hl))⟩
  | ref l =>
    rw [dv_ref.mp hx] at rx
    obtain ⟨ds, s1, h⟩ : ∃ ds, S l = some (.lst ds) ∧ ∀ p, S p = none → Q0 (.ref p) (put S p (.lst (cutD ds lo hi))) := h
    obtain ⟨vs, h1, d1⟩ := sr_lst st s1
    exact sl_list pins s σ H _ v vl vu lo hi sl Q I rx hs pl pu ⟨l, vs, rfl, SqL.of h1, fun l hl => k _ _ _ _ (Go.made hl) (st.made (o := .lst (cutD ds lo hi)) hl ⟨_, upd_same, (d1.cut lo hi).mono (Evo.new hl)⟩) (dv_ref.mpr rfl) (h l (st.free hl))⟩
  | _ => exact h.elim
theorem pd_slice {lo hi : Option Expr} {tl th : TDO} {p2 : Pos} (he : PD X Z e te) (hl : PDO X Z lo tl) (hu : PDO X Z hi th) : PD X Z (.Subscript e (.Slice lo hi none p2) pos) (dSl te tl th) := fun W tk => by
  refine PE.imp (pe_slice (sld (Z := Z)) (he W tk) (hl W tk) (hu W tk)) fun σ H Q h => ?_
  obtain ⟨p, S, Q0, E0, R, q, k, kE⟩ := h
  refine ⟨p, S, _, E0, R, q, fun x S1 v H1 e1 st1 dv1 q1 => ?_, kE⟩
  refine ⟨p, S1, _, E0, R.go e1 st1, q1, fun lo S2 H2 e2 st2 q2 => ?_, fun c S2 dd H2 e2 => kE c S2 dd H2 (e1.trans e2)⟩
  refine ⟨p, S2, _, E0, R.go (e1.trans e2) st2, q2, fun hi S3 H3 e3 st3 q3 => ?_, fun c S2 dd H2 e3 => kE c S2 dd H2 ((e1.trans e2).trans e3)⟩
  exact ⟨x, S3, _, st3, dv1.mono (e2.trans e3).evo, q3, fun d S' v' H' e' => k d S' v' H' (((e1.trans e2).trans e3).trans e')⟩
end

/-! ### what a def promises by data -/
abbrev SpD := List D → DS → QD → XD → Prop
def liftSp (K : PySem.W.Frag) (Z : Zt) (sp : SpD) : Sp := fun vs H Q E => ∃ ds S Q0 E0, ST K Z S H ∧ DVs K H ds vs ∧ sp ds S Q0 E0 ∧
  (∀ d S' v H', Go H S H' S' → ST K Z S' H' → DV K H' d v → Q0 d S' → Q v H') ∧ ∀ c S' dd H', Go H S H' S' → ST K Z S' H' → E0 c S' → E (Z.ex c) dd H'
/-- a def: its promise, how many parameters, the defaults of the last ones, its level -/
structure Ent where
  sp : SpD
  ar : Nat
  dfl : List D
  lv : Nat
  la : Option Nat := none
/-- the def at f keeps the promise, by level L -/
structure FnD (P : Program) (w : World) (K : PySem.W.Frag) (mg : Str → Option Value) (base : Heap) (Z : Zt) (L : Nat) (f : Addr) (e : Ent) : Prop where
  ok : ∃ (fd : FuncData) (ps : List Str), FnOk P w K mg base (L2.CX P w) L f fd ps (liftSp K Z e.sp) ∧ ps.length = e.ar ∧
    ∀ m, m ≤ e.dfl.length → ∃ (dvs : List V) (ds : List Value), Binds K fd ps ds ∧ Vals dvs ds ∧ ∀ H, DVs K H (e.dfl.drop m) dvs
theorem FnD.mono {P : Program} {w : World} {K : PySem.W.Frag} {mg : Str → Option Value} {base : Heap} {Z : Zt} {L L' : Nat} {f : Addr} {e : Ent} (h : FnD P w K mg base Z L f e) (l : L ≤ L') : FnD P w K mg base Z L' f e :=
  let ⟨fd, ps, a, b, c⟩ := h.ok
  ⟨fd, ps, a.mono l, b, c⟩
/-- the program's names by numbers -/
structure Tx where
  gn : Nat → Option Str
  cn : Nat → Option Str
  fl : Nat → Nat → Bool
  mt : Nat → Nat → Option Nat
  it : Nat → Option Nat
  va : Nat → Option (Str × D)
  bl : Nat → Option Str
  xn : Nat → Option Str
  sb : Nat → Nat → Option Bool
/-- no parameter, no name of its own, none captured -/
structure Lam0 (scope : Scope) : Prop where
  kind : scope.kind = .function
  co : scope.isCoroutine = false
  gen : scope.isGenerator = false
  own : ∀ y ∈ scope.names, y.2 ≠ .local ∧ y.2 ≠ .cell ∧ y.2 ≠ .free
abbrev lamEnv0 (q : Str) (scope : Scope) (L f c' : Addr) : Env := PySem.W.envX q scope L f (.ref c') []
/-- the context of such a lambda's body, entered at s from the frames outer -/
def lamCx0 (P : Program) (w : World) (K : PySem.W.Frag) (mg : Str → Option Value) (base : Heap) (A : Around) (outer : List Env) (s : Shared) (H : Hp) (E : XK) (q : Str) (scope : Scope) (f c' : Addr) : Cx where
  prog := P
  w := w
  K := K
  mg := mg
  base := base
  A := A.deeper (lamEnv0 q scope s.heap.objs.size f c')
  N := []
  s_0 := s
  H_0 := H
  env := lamEnv0 q scope s.heap.objs.size f c'
  outer := outer
  stack := lamEnv0 q scope s.heap.objs.size f c' :: outer
  ex := []
  fn := fun _ => false
  calm := true
  pn := []
  xe := fun e s' => wpAny (model P w) (A.deeper (lamEnv0 q scope s.heap.objs.size f c')) (leaving (lamEnv0 q scope s.heap.objs.size f c') e) (fun _ s'' => L2.CX P w outer H s E e s'') (fun e' s'' => L2.CX P w outer H s E e' s'') s'
/-- what calling the lambda does, by level L -/
structure LamOk (P : Program) (w : World) (K : PySem.W.Frag) (mg : Str → Option Value) (base : Heap) (Z : Zt) (L : Nat) (l : LamR) (sp : SpD) : Prop where
  sc : Lam0 l.scope
  bind : ∀ pm cv ctv : Value, bindArgs (PySem.W.kla_fn "<lambda>" l.q l.params l.body l.scope [] pm cv ctv) ⟨[], []⟩ = pure []
  body : ∃ t : TD, (∀ (A : Around) (outer : List Env) (s : Shared) (H : Hp) (E : XK) (f c' : Addr), Room L (A.deeper (lamEnv0 l.q l.scope s.heap.objs.size f c')) → PD (lamCx0 P w K mg base A outer s H E l.q l.scope f c') Z l.body t) ∧ ∀ S (Q : QD) (E : XD), sp [] S Q E → t [] S (fun d S' => ∃ S0, Sub S0 S' ∧ Q d S0) (fun c S' => ∃ S0, Sub S0 S' ∧ E c S0)
/-- an error's class as the top has made it -/
structure ExcOk (K : PySem.W.Frag) (mg : Str → Option Value) (x : Str) (u : Value) : Prop where
  ok : ∃ (C : Addr) (bmB : List Value) (B newId initId : String), u = .ref C ∧ mg x = some (.ref C) ∧ ExcBaseFacts B newId initId bmB ∧ PySem.W.excIn K C bmB newId = true ∧ PySem.W.keepIn K (.ref C) = true ∧
    PySem.W.subIn K (.ref C) (.type "BaseException") = some true ∧ PySem.W.typeIn K (.ref C) = some (.type "type")
/-- the top's facts, and the promises that are shown so far -/
structure TxOk (P : Program) (w : World) (K : PySem.W.Frag) (mg : Str → Option Value) (base : Heap) (Z : Zt) (tx : Tx) (M : List Ent) : Prop where
  fn : ∀ i x e, tx.gn i = some x → M[i]? = some e → e.la = none → ∃ f, mg x = some (.ref f) ∧ PySem.W.keepIn K (.ref f) = true ∧ FnD P w K mg base Z e.lv f e
  mt : ∀ c m i e, tx.mt c m = some i → M[i]? = some e → e.la = none → ∃ f, Cls K (Z.cm c) ∧ Meth K (Z.cm c) (Z.fn m) f ∧ FnD P w K mg base Z e.lv f e
  it : ∀ c x i e, tx.cn c = some x → tx.it c = some i → M[i]? = some e → e.la = none → ∃ f, mg x = some (.ref (Z.cm c)) ∧ Mk K (Z.cm c) f ∧ FnD P w K mg base Z e.lv f e
  fl : ∀ c i, tx.fl c i = true → Cls K (Z.cm c) ∧ NoAttr K (Z.cm c) (Z.fn i)
  va : ∀ i x d, tx.va i = some (x, d) → ∃ u v, mg x = some u ∧ RelV v u ∧ ∀ H, DV K H d v
  bl : ∀ i x, tx.bl i = some x → mg x = none
  xn : ∀ i x, tx.xn i = some x → ExcOk K mg x (Z.ex i)
  lm : ∀ (j i : Nat) (e : Ent), M[i]? = some e → e.la = some j → ∃ l, Z.lm j = some l ∧ LamOk P w K mg base Z e.lv l e.sp
  sb : ∀ i j b, tx.sb i j = some b → PySem.W.exmOne K (Z.ex i) (Z.ex j) = some b
end G

set_option Elab.async false
set_option linter.all false
set_option maxRecDepth 100000
set_option maxHeartbeats 4000000
/-! GE: calls of defs, methods, classes; fields; constants; built-ins by data. -/
namespace G
open PySem PySem.Spec PyProof.Rows L2
section
variable {X : Cx} {Z : Zt} {tx : Tx} {M : List Ent} {L : Nat} {a b e o : Expr} {es : List Expr} {ta tb te to : TD} {t : TDA} {pos p apos : Pos} {x m : Str}
/-! ### calls of defs -/
/-- the defaults that fill up behind n written arguments -/
def fill (e : Ent) (n : Nat) : List D := e.dfl.drop (n + e.dfl.length - e.ar)
def fits (e : Ent) (n L : Nat) : Prop := e.lv ≤ L ∧ n ≤ e.ar ∧ e.ar ≤ n + e.dfl.length ∧ e.la = none
/-- the i-th def, n arguments: the defaults fill up -/
def dCall (M : List Ent) (L i n : Nat) (ta : TDA) : TD := fun r S Q E => ∃ e, M[i]? = some e ∧ fits e n L ∧ ta r S (fun ds S1 => e.sp (ds ++ fill e n) S1 Q E) E
theorem liftSp_of {K : PySem.W.Frag} {W : WX} {σ : L2.St} {r : Env_} {S S1 : DS} {H H1 : Hp} {Q0 : QD} {E0 : XD} {Q : VK} {sp : SpD} {ds es : List D} {vs ws : List V} (e1 : Go H S H1 S1) (st : ST K Z S1 H1) (dv : DVs K H1 ds vs) (dw : DVs K H1 es ws) (h : sp (ds ++ es) S1 Q0 E0)
    (k : ∀ d S' v H', Go H S H' S' → ST K Z S' H' → DV K H' d v → Q0 d S' → Q v H') (kE : ∀ c S' dd H', Go H S H' S' → ST K Z S' H' → E0 c S' → W (Z.ex c) dd σ H') : liftSp K Z sp (vs ++ ws) H1 Q (WE W σ) :=
  ⟨_, S1, Q0, E0, st, dv.append dw, h, fun d S' v H' e => k d S' v H' (e1.trans e), fun c S' dd H' e => kE c S' dd H' (e1.trans e)⟩
theorem fill_ok {e : Ent} {n L : Nat} (h : fits e n L) : n + e.dfl.length - e.ar ≤ e.dfl.length := by
  obtain ⟨_, h1, h2, _⟩ := h
  omega
theorem pd_call (hM : TxOk X.prog X.w X.K X.mg X.base Z tx M) (hr : Room L X.A) (i : Nat) (n : Nat) (hN : tx.gn i = some x) (hg : Gl X x) (ha : PDA X Z (e :: es) t)
    (hdb : (x == ("__debug__" : Str)) = false := by decide) (he : starEach (e :: es) X.env = (false, eval e X.env) :: starEach es X.env := by rfl) (hpl : (backTo pos (starEach es X.env)).any (·.1) = false := by rfl) :
    PD X Z (.Call (.Name x p) (e :: es) [] pos) (dCall M L i n t) := fun W tk => by
  refine ⟨fun pins s σ H Q I h => ?_⟩
  obtain ⟨r, S, Q0, E0, R, ⟨en, hi, hf, q⟩, k, kE⟩ := h
  obtain ⟨f, hm, hk, F⟩ := hM.fn i x en hN hi hf.2.2.2
  obtain ⟨fd, ps, F, hl, hb⟩ := F.ok
  obtain ⟨dvs, ds, hb, hd, hv⟩ := hb _ (fill_ok hf)
  refine (pe_callSD (E := WE W) F (hr.mono hf.1) hg hm hk hb hd (fun σ => passAt tk σ) (ha W tk) hdb he hpl).run pins s σ H Q I ?_
  exact ⟨r, S, _, E0, R, q, fun ds S1 vs H1 e1 st1 dv1 q1 => liftSp_of (r := r) e1 st1 dv1 (hv H1) q1 k kE, kE⟩
theorem pd_call0 (hM : TxOk X.prog X.w X.K X.mg X.base Z tx M) (hr : Room L X.A) (i : Nat) (hN : tx.gn i = some x) (hg : Gl X x) (hdb : (x == ("__debug__" : Str)) = false := by decide) :
    PD X Z (.Call (.Name x p) [] [] pos) (dCall M L i 0 dNil) := fun W tk => by
  refine ⟨fun pins s σ H Q I h => ?_⟩
  obtain ⟨r, S, Q0, E0, R, ⟨en, hi, hf, q⟩, k, kE⟩ := h
  obtain ⟨f, hm, hk, F⟩ := hM.fn i x en hN hi hf.2.2.2
  obtain ⟨fd, ps, F, hl, hb⟩ := F.ok
  obtain ⟨dvs, ds, hb, hd, hv⟩ := hb _ (fill_ok hf)
  refine wpAny_Call_Name_kw (ld_glob I hg hm ?_ hdb)
  refine PySem.W.callWith_K0 I.kIn hk (run_fnSD (vs := []) (us := []) (E := WE W) F (hr.mono hf.1) hb hd (passAt tk σ) I .nil ?_)
  exact liftSp_of (r := r) (ds := []) (Go.r) R.st (dvs_nil.mpr rfl) (hv H) q k kE

/-! ### methods of own classes -/
def dMeth (tx : Tx) (M : List Ent) (L m n : Nat) (to : TD) (ta : TDA) : TD := fun r S Q E => to r S (fun x S1 => ∃ a c fs i e, x = .ref a ∧ S1 a = some (.ins c fs) ∧ tx.mt c m = some i ∧ M[i]? = some e ∧ fits e (n + 1) L ∧ lk fs m = none ∧
  ta r S1 (fun ds S2 => e.sp (.ref a :: ds ++ fill e (n + 1)) S2 Q E) E) E
theorem fv_none {K : PySem.W.Frag} {H : Hp} {fs : List (Nat × D)} {vs : List (Str × V)} {m : Nat} (h : FV K Z H fs vs) (e : lk fs m = none) : vs.lookup (Z.fn m) = none := h.2.2 _ fun i d q z => by
  rw [Z.inj i m z, e] at q
  cases q
theorem pd_meth {pl : Sem Bool} (hM : TxOk X.prog X.w X.K X.mg X.base Z tx M) (hr : Room L X.A) (mi n : Nat) (hm : Z.fn mi = m) (ho : PD X Z o to) (ha : PDA X Z (e :: es) t)
    (hst : starEach (e :: es) X.env = (false, eval e X.env) :: starEach es X.env := by rfl) (hpl : (backTo pos (starEach es X.env)).any (·.1) = false := by rfl)
    (ht : eval (.Call (.Attribute o m apos) (e :: es) [] pos) X.env = (do
      let ov ← eval o X.env
      standAt apos.atName
      let (f, first) ← holding [ov] (getMethod ov m pl)
      callWith pos f first (backTo pos (starEach (e :: es) X.env)) (backToKw pos (keywordEach [] X.env))) := by rfl) :
    PD X Z (.Call (.Attribute o m apos) (e :: es) [] pos) (dMeth tx M L mi n to t) := fun W tk => by
  refine ⟨fun pins s σ H Q I h => ?_⟩
  subst hm
  obtain ⟨r, S, Q0, E0, R, q, k, kE⟩ := h
  refine PySem.W.methodCall_KW (pl := pl) (thn ((ho W tk).run pins s σ H (fun v H1 => ∃ x S1, Go H S H1 S1 ∧ ST X.K Z S1 H1 ∧ DV X.K H1 x v ∧ ∃ a c fs i e, x = .ref a ∧ S1 a = some (.ins c fs) ∧ tx.mt c mi = some i ∧ M[i]? = some e ∧ fits e (n + 1) L ∧ lk fs mi = none ∧
    t r S1 (fun ds S2 => e.sp (.ref a :: ds ++ fill e (n + 1)) S2 Q0 E0) E0) I ⟨r, S, _, E0, R, q, fun x S1 v H1 e1 st1 dv1 q1 => ⟨x, S1, e1, st1, dv1, q1⟩, kE⟩) fun u s1 ⟨v, H1, I1, rx, x, S1, e1, st1, dv1, a, c, fs, i, en, ex, sa, hmt, hi, hf, hl, q1⟩ => ?_) ht
  subst ex
  rw [dv_ref.mp dv1] at rx
  obtain rfl : u = Value.ref a := rx
  obtain ⟨dx, vs, ha', fv⟩ := st1.sr a _ sa
  obtain ⟨f, hc, hmm, F⟩ := hM.mt c mi i en hmt hi hf.2.2.2
  obtain ⟨fd, ps, F, hlen, hb⟩ := F.ok
  obtain ⟨dvs, dsv, hb, hd, hv⟩ := hb _ (fill_ok hf)
  refine getmeth_ok I1 ha' hc hmm (fv_none fv hl) ?_
  refine PySem.W.callWith_K (first := [.ref a]) (h₀ := X.base) I.ok.mod.kin hmm.kp (thn ((ha W tk).run pos pins s1 σ H1 (fun vs H2 => liftSp X.K Z en.sp ((.ref a :: vs) ++ dvs) H2 Q (WE W σ)) I1 ⟨r, S1, _, E0, R.go e1 st1, q1, fun ds S2 vs H2 e2 st2 dv2 q2 => ?_, fun c S' dd H' e2 => kE c S' dd H' (e1.trans e2)⟩) fun us s2 ⟨vs2, H2, I2, rr, q2⟩ => ⟨I2.kIn, ?_⟩) hst hpl
  · exact liftSp_of (r := r) (ds := .ref a :: ds) (vs := .ref a :: vs) (e1.trans e2) st2 (DVs.cons (dv_ref.mpr rfl) dv2) (hv H2) q2 k kE
  · exact run_fnSD (us := .ref a :: us) (vs := .ref a :: vs2) (E := WE W) F (hr.mono hf.1) hb hd (passAt tk σ) I2 (.cons rfl rr) q2
theorem pd_meth0 {pl : Sem Bool} (hM : TxOk X.prog X.w X.K X.mg X.base Z tx M) (hr : Room L X.A) (mi : Nat) (hm : Z.fn mi = m) (ho : PD X Z o to)
    (ht : eval (.Call (.Attribute o m apos) [] [] pos) X.env = (do
      let ov ← eval o X.env
      standAt apos.atName
      let (f, first) ← holding [ov] (getMethod ov m pl)
      callWith pos f first (backTo pos (starEach [] X.env)) (backToKw pos (keywordEach [] X.env))) := by rfl) :
    PD X Z (.Call (.Attribute o m apos) [] [] pos) (dMeth tx M L mi 0 to dNil) := fun W tk => by
  refine ⟨fun pins s σ H Q I h => ?_⟩
  subst hm
  obtain ⟨r, S, Q0, E0, R, q, k, kE⟩ := h
  refine PySem.W.methodCall_KW (pl := pl) (thn ((ho W tk).run pins s σ H (fun v H1 => ∃ x S1, Go H S H1 S1 ∧ ST X.K Z S1 H1 ∧ DV X.K H1 x v ∧ ∃ a c fs i e, x = .ref a ∧ S1 a = some (.ins c fs) ∧ tx.mt c mi = some i ∧ M[i]? = some e ∧ fits e (0 + 1) L ∧ lk fs mi = none ∧
    e.sp (D.ref a :: [] ++ fill e (0 + 1)) S1 Q0 E0) I ⟨r, S, _, E0, R, q, fun x S1 v H1 e1 st1 dv1 q1 => ⟨x, S1, e1, st1, dv1, q1⟩, kE⟩) fun u s1 ⟨v, H1, I1, rx, x, S1, e1, st1, dv1, a, c, fs, i, en, ex, sa, hmt, hi, hf, hl, q1⟩ => ?_) ht
  subst ex
  rw [dv_ref.mp dv1] at rx
  obtain rfl : u = Value.ref a := rx
  obtain ⟨dx, vs, ha', fv⟩ := st1.sr a _ sa
  obtain ⟨f, hc, hmm, F⟩ := hM.mt c mi i en hmt hi hf.2.2.2
  obtain ⟨fd, ps, F, hlen, hb⟩ := F.ok
  obtain ⟨dvs, dsv, hb, hd, hv⟩ := hb _ (fill_ok hf)
  refine getmeth_ok I1 ha' hc hmm (fv_none fv hl) ?_
  refine PySem.W.callWith_K0 (first := [.ref a]) I1.kIn hmm.kp (run_fnSD (us := [.ref a]) (vs := [.ref a]) (E := WE W) F (hr.mono hf.1) hb hd (passAt tk σ) I1 (.cons rfl .nil) ?_)
  exact liftSp_of (r := r) (ds := [.ref a]) (vs := [.ref a]) e1 st1 (DVs.cons (dv_ref.mpr rfl) (dvs_nil.mpr rfl)) (hv H1) q1 k kE

/-! ### classes -/
def dMake (tx : Tx) (M : List Ent) (L c n : Nat) (ta : TDA) : TD := fun r S Q E => ∃ i e, tx.it c = some i ∧ M[i]? = some e ∧ fits e (n + 1) L ∧
  ta r S (fun ds S1 => ∀ a, S1 a = none → e.sp (.ref a :: ds ++ fill e (n + 1)) (put S1 a (.ins c [])) (fun d S2 => d = .non ∧ Q (.ref a) S2) E) E
theorem run_makeS {CX : CXT} {f C : Addr} {fd : FuncData} {ps : List Str} {sp : Sp} {dvs : List V} {ds : List Value} {k : Nat} {E : L2.St → XK} {pins : List (Addr × Obj)} {σ : L2.St} {H : Hp} {s : Shared} {Q : VK} {us : List Value} {vs : List V} (M : Mk X.K C f) (F : FnOk X.prog X.w X.K X.mg X.base CX k f fd ps sp) (hr : Room (k + 1) X.A) (hb : Binds X.K fd ps ds) (hd : Vals dvs ds)
    (hx : PassesAt CX X σ (E σ)) (I : Inv X pins σ H s) (r : Vals vs us)
    (h : ∀ x dx, H x = none → H dx = none → dx ≠ x → sp (.ref x :: (vs ++ dvs)) (upd (upd H dx (.own x)) x (.ins C dx [])) (fun v H2 => v = .non ∧ Q (.ref x) H2) (E σ)) :
    wpAny (model X.prog X.w) X.A (call (.ref C) us) (EP X pins σ Q) X.xe s := by
  have hq := h (s.heap.objs.size + 1) s.heap.objs.size (I.hok.fresh (Nat.le_succ _)) (I.hok.fresh (Nat.le_refl _)) (Nat.ne_of_lt (Nat.lt_succ_self _))
  have I2 := Inv.made (C := C) I
  have r2 : Vals (V.ref (s.heap.objs.size + 1) :: (vs ++ dvs)) (Value.ref (s.heap.objs.size + 1) :: (us ++ ds)) := .cons rfl (r.append hd)
  have hl : (Value.ref (s.heap.objs.size + 1) :: us ++ ds).length = ps.length := by
    have e := r2.length
    rw [F.len _ _ _ _ hq] at e
    exact e.symm
  refine wpAny_call (make_map (f := f) I.kIn M.makes M.init (beq_iff_eq.mp M.fn) (codeAny_mono (F.run _ X.stack _ _ ⟨Value.ref (s.heap.objs.size + 1) :: us, []⟩ (Value.ref (s.heap.objs.size + 1) :: (us ++ ds)) _ _ (E σ) (hr.make C us [])
    (I2.env0.make C us []) (hb _ (Value.ref (s.heap.objs.size + 1) :: us) I2.kIn hl) r2 hq) fun r s' hq' => ?_))
  cases r with
  | error e => exact hx pins _ _ e s' I2 hq'
  | ok fl =>
    cases fl with
    | ret u =>
      obtain ⟨v, H', I3, rv, ev, q3⟩ := I2.after hq'
      subst ev
      exact ⟨rv, ⟨V.ref (s.heap.objs.size + 1), H', I3, rfl, q3⟩⟩
    | next => exact False.elim hq'
    | brk => exact False.elim hq'
    | cont => exact False.elim hq'
theorem make_st {K : PySem.W.Frag} {H : Hp} {S : DS} {c : Nat} {a dx : Addr} (st : ST K Z S H) (ha : H a = none) (hdx : H dx = none) (ne : dx ≠ a) :
    Go H S (upd (upd H dx (.own a)) a (.ins (Z.cm c) dx [])) (put S a (.ins c [])) ∧ ST K Z (put S a (.ins c [])) (upd (upd H dx (.own a)) a (.ins (Z.cm c) dx [])) := by
  have h1 : upd H dx (.own a) a = none := by rw [upd_ne ne.symm]; exact ha
  refine ⟨(Go.new hdx).trans (Go.made h1), (st.new hdx).made h1 (o := .ins c []) ⟨dx, [], upd_same, Nat.zero_le _, fun i d q => (nomatch (show (none : Option D) = some d from q)), fun _ _ => rfl⟩⟩
theorem pd_make (hM : TxOk X.prog X.w X.K X.mg X.base Z tx M) (hr : Room (L + 1) X.A) (c n : Nat) (hN : tx.cn c = some x) (hg : Gl X x) (ha : PDA X Z (e :: es) t)
    (hdb : (x == ("__debug__" : Str)) = false := by decide) (he : starEach (e :: es) X.env = (false, eval e X.env) :: starEach es X.env := by rfl) (hpl : (backTo pos (starEach es X.env)).any (·.1) = false := by rfl) :
    PD X Z (.Call (.Name x p) (e :: es) [] pos) (dMake tx M L c n t) := fun W tk => by
  refine ⟨fun pins s σ H Q I h => ?_⟩
  obtain ⟨r, S, Q0, E0, R, ⟨i, en, hit, hi, hf, q⟩, k, kE⟩ := h
  obtain ⟨f, hm, mk, F⟩ := hM.it c x i en hN hit hi hf.2.2.2
  obtain ⟨fd, ps, F, hlen, hb⟩ := F.ok
  obtain ⟨dvs, dsv, hb, hd, hv⟩ := hb _ (fill_ok hf)
  refine wpAny_Call_Name_kw (ld_glob I hg hm ?_ hdb)
  refine PySem.W.callWith_K (h₀ := X.base) I.ok.mod.kin mk.kp (thn ((ha W tk).run pos pins s σ H (fun vs H1 => ∃ ds S1, Go H S H1 S1 ∧ ST X.K Z S1 H1 ∧ DVs X.K H1 ds vs ∧ ∀ a, S1 a = none → en.sp (.ref a :: ds ++ fill en (n + 1)) (put S1 a (.ins c [])) (fun d S2 => d = .non ∧ Q0 (.ref a) S2) E0) I
    ⟨r, S, _, E0, R, q, fun ds S1 vs H1 e1 st1 dv1 q1 => ⟨ds, S1, e1, st1, dv1, q1⟩, kE⟩) fun us s1 ⟨vs, H1, I1, rr, ds, S1, e1, st1, dv1, q1⟩ => ⟨I1.kIn, ?_⟩) he hpl
  refine run_makeS (E := WE W) mk (F.mono hf.1) hr hb hd (passAt tk σ) I1 rr fun a dx hna hndx hne => ?_
  obtain ⟨g1, st2⟩ := make_st (c := c) st1 hna hndx hne
  exact liftSp_of (r := r) (W := W) (σ := σ) (ds := .ref a :: ds) (vs := .ref a :: vs) (e1.trans g1) st2 (DVs.cons (dv_ref.mpr rfl) (dv1.mono g1.evo)) (hv _) (q1 a (st1.free hna))
    (fun d S' v H' g st dv q2 => ⟨by rw [q2.1] at dv; exact dv_non.mp dv, k _ S' _ H' g st (dv_ref.mpr rfl) q2.2⟩) kE
theorem pd_make0 (hM : TxOk X.prog X.w X.K X.mg X.base Z tx M) (hr : Room (L + 1) X.A) (c : Nat) (hN : tx.cn c = some x) (hg : Gl X x) (hdb : (x == ("__debug__" : Str)) = false := by decide) :
    PD X Z (.Call (.Name x p) [] [] pos) (dMake tx M L c 0 dNil) := fun W tk => by
  refine ⟨fun pins s σ H Q I h => ?_⟩
  obtain ⟨r, S, Q0, E0, R, ⟨i, en, hit, hi, hf, q⟩, k, kE⟩ := h
  obtain ⟨f, hm, mk, F⟩ := hM.it c x i en hN hit hi hf.2.2.2
  obtain ⟨fd, ps, F, hlen, hb⟩ := F.ok
  obtain ⟨dvs, dsv, hb, hd, hv⟩ := hb _ (fill_ok hf)
  refine wpAny_Call_Name_kw (ld_glob I hg hm ?_ hdb)
  refine PySem.W.callWith_K0 I.kIn mk.kp (run_makeS (us := []) (vs := []) (E := WE W) mk (F.mono hf.1) hr hb hd (passAt tk σ) I .nil fun a dx hna hndx hne => ?_)
  obtain ⟨g1, st2⟩ := make_st (c := c) R.st hna hndx hne
  exact liftSp_of (r := r) (W := W) (σ := σ) (ds := [.ref a]) (vs := [.ref a]) g1 st2 (DVs.cons (dv_ref.mpr rfl) (dvs_nil.mpr rfl)) (hv _) (q a (R.st.free hna))
    (fun d S' v H' g st dv q2 => ⟨by rw [q2.1] at dv; exact dv_non.mp dv, k _ S' _ H' g st (dv_ref.mpr rfl) q2.2⟩) kE

/-! ### fields, constants -/
def dFld (tx : Tx) (f : Nat) (to : TD) : TD := fun r S Q E => to r S (fun x S1 => ∃ a c fs d, x = .ref a ∧ S1 a = some (.ins c fs) ∧ tx.fl c f = true ∧ lk fs f = some d ∧ Q d S1) E
theorem pd_fld (hM : TxOk X.prog X.w X.K X.mg X.base Z tx M) (f : Nat) (hf : Z.fn f = m) (ho : PD X Z o to) (hb : attributeBase o m X.env (eval o X.env) = eval o X.env := by rfl) : PD X Z (.Attribute o m pos) (dFld tx f to) := fun W tk => by
  subst hf
  refine PE.imp (pe_fld (ho W tk) hb) fun σ H Q h => ?_
  obtain ⟨r, S, Q0, E0, R, q, k, kE⟩ := h
  refine ⟨r, S, _, E0, R, q, fun x S1 v H1 e1 st1 dv1 q1 => ?_, kE⟩
  obtain ⟨a, c, fs, d, ex, sa, hfl, hl, q2⟩ := q1
  subst ex
  obtain ⟨dx, vs, ha, fv⟩ := st1.sr a _ sa
  obtain ⟨hc, hn⟩ := hM.fl c f hfl
  obtain ⟨v', h1, h2⟩ := fv.2.1 f d hl
  exact ⟨a, Z.cm c, dx, vs, v', dv_ref.mp dv1, ha, hc, hn, h1, k d S1 v' H1 e1 st1 h2 q2⟩
theorem pd_glob (hM : TxOk X.prog X.w X.K X.mg X.base Z tx M) (i : Nat) {d : D} (hv : tx.va i = some (x, d)) (hg : Gl X x) (hdb : (x == ("__debug__" : Str)) = false := by decide) : PD X Z (.Name x pos) (dC d) := by
  obtain ⟨u, v, h1, h2, h3⟩ := hM.va i x d hv
  exact pd_c (pe_glob hg h1 h2 hdb) h3

/-! ### built-ins by data -/
abbrev RDC := List D → DS → QD → Prop
def liftC (K : PySem.W.Frag) (Z : Zt) (r : RDC) : List V → Hp → VK → Prop := fun vs H Q => ∃ ds S Q0, ST K Z S H ∧ DVs K H ds vs ∧ r ds S Q0 ∧ ∀ d S' v H', Go H S H' S' → ST K Z S' H' → DV K H' d v → Q0 d S' → Q v H'
def CallD (X : Cx) (Z : Zt) (f : Value) (r : RDC) : Prop := CallR X f (liftC X.K Z r)
def dBi (r : RDC) (ta : TDA) : TD := fun p S Q E => ta p S (fun ds S1 => r ds S1 Q) E
theorem lift_bi {K : PySem.W.Frag} {W : WX} {r : RDC} {σ : L2.St} {H : Hp} {Q : VK} (h : lift K Z W (dBi r t) σ H Q) : tCB (liftC K Z r) (liftA K Z W t) σ H Q := by
  obtain ⟨p, S, Q0, E0, R, q, k, kE⟩ := h
  exact ⟨p, S, _, E0, R, q, fun ds S1 vs H1 e1 st1 dv1 q1 => ⟨ds, S1, Q0, st1, dv1, q1, fun d S' v H' e => k d S' v H' (e1.trans e)⟩, kE⟩
theorem pd_bi {r : RDC} {id : String} (hM : TxOk X.prog X.w X.K X.mg X.base Z tx M) (hc : CallD X Z (.builtin id) r) (i : Nat) (hN : tx.bl i = some x) (hg : Gl X x) (hv : bootBuiltins x = some (.builtin id)) (ha : PDA X Z (e :: es) t)
    (hn : x ≠ "__name__" := by decide) (hdb : (x == ("__debug__" : Str)) = false := by decide) (he : starEach (e :: es) X.env = (false, eval e X.env) :: starEach es X.env := by rfl) (hpl : (backTo pos (starEach es X.env)).any (·.1) = false := by rfl) :
    PD X Z (.Call (.Name x p) (e :: es) [] pos) (dBi r t) := fun W tk =>
  PE.imp (pe_callB hc hg (hM.bl i x hN) hv (ha W tk) hn hdb he hpl) fun _ _ _ h => lift_bi h
theorem pd_ty {r : RDC} {T : String} (hM : TxOk X.prog X.w X.K X.mg X.base Z tx M) (hc : CallD X Z (.type T) r) (i : Nat) (hN : tx.bl i = some x) (hg : Gl X x) (hv : bootBuiltins x = some (.type T)) (ha : PDA X Z (e :: es) t)
    (hn : x ≠ "__name__" := by decide) (hdb : (x == ("__debug__" : Str)) = false := by decide) (he : starEach (e :: es) X.env = (false, eval e X.env) :: starEach es X.env := by rfl) (hpl : (backTo pos (starEach es X.env)).any (·.1) = false := by rfl) :
    PD X Z (.Call (.Name x p) (e :: es) [] pos) (dBi r t) := fun W tk =>
  PE.imp (pe_callTy hc hg (hM.bl i x hN) hv (ha W tk) hn hdb he hpl) fun _ _ _ h => lift_bi h
end
end G

set_option Elab.async false
set_option linter.all false
set_option maxRecDepth 100000
set_option maxHeartbeats 4000000
/-! GF: statements, targets, loops, comprehensions, errors. -/
namespace G
open PySem PySem.Spec PyProof.Rows L2
/-- what is wanted behind a statement -/
structure EndsD where
  nx : Env_ → DS → Prop
  rt : QD
  bk : Env_ → DS → Prop := fun _ _ => False
  ct : Env_ → DS → Prop := fun _ _ => False
  ex : Nat → Env_ → DS → Prop := fun _ _ _ => False
abbrev TDS := EndsD → Env_ → DS → Prop
section
variable (K : PySem.W.Frag) (Z : Zt) (W : WX)
structure Meant (r : Env_) (S : DS) (σ : L2.St) (H : Hp) (D0 : EndsD) (D : Ends) : Prop where
  nx : ∀ r' S' σ' H', Go H S H' S' → Rel K Z r' S' σ' H' → D0.nx r' S' → D.nx σ' H'
  rt : ∀ d S' v H', Go H S H' S' → ST K Z S' H' → DV K H' d v → D0.rt d S' → D.rt v H'
  bk : ∀ r' S' σ' H', Go H S H' S' → Rel K Z r' S' σ' H' → D0.bk r' S' → D.bk σ' H'
  ct : ∀ r' S' σ' H', Go H S H' S' → Rel K Z r' S' σ' H' → D0.ct r' S' → D.ct σ' H'
  ex : ∀ c r' S' dd σ' H', Go H S H' S' → Rel K Z r' S' σ' H' → D0.ex c r' S' → W (Z.ex c) dd σ' H'
def liftS (t : TDS) : TS := fun D σ H => ∃ r S D0, Rel K Z r S σ H ∧ t D0 r S ∧ Meant K Z W r S σ H D0 D
end
def PDS (X : Cx) (Z : Zt) (st : Stmt) (t : TDS) : Prop := ∀ W, Takes X W → PS X st (liftS X.K Z W t)
def PDSs (X : Cx) (Z : Zt) (st : List Stmt) (t : TDS) : Prop := ∀ W, Takes X W → PSs X st (liftS X.K Z W t)
section
variable {X : Cx} {Z : Zt} {tx : Tx} {M : List Ent} {L : Nat} {a b e o : Expr} {es : List Expr} {te to ti : TD} {t u : TDS} {tc : TDT} {pos pos' : Pos} {x m : Str} {st : Stmt} {rest : List Stmt}
theorem PSs.imp {st : List Stmt} {t t' : TS} (h : PSs X st t) (i : ∀ D σ H, t' D σ H → t D σ H) : PSs X st t' := ⟨fun pins s σ H D I q => h.run pins s σ H D I (i D σ H q)⟩
/-- later ends from earlier ones -/
theorem Meant.go {K : PySem.W.Frag} {W : WX} {r r' : Env_} {S S' : DS} {σ σ' : L2.St} {H H' : Hp} {D0 : EndsD} {D : Ends} (h : Meant K Z W r S σ H D0 D) (g : Go H S H' S') : Meant K Z W r' S' σ' H' D0 D :=
  ⟨fun r2 S2 σ2 H2 e => h.nx r2 S2 σ2 H2 (g.trans e), fun d S2 v H2 e => h.rt d S2 v H2 (g.trans e), fun r2 S2 σ2 H2 e => h.bk r2 S2 σ2 H2 (g.trans e), fun r2 S2 σ2 H2 e => h.ct r2 S2 σ2 H2 (g.trans e), fun c r2 S2 dd σ2 H2 e => h.ex c r2 S2 dd σ2 H2 (g.trans e)⟩
theorem Meant.exx {K : PySem.W.Frag} {W : WX} {r : Env_} {S : DS} {σ : L2.St} {H : Hp} {D0 : EndsD} {D : Ends} (h : Meant K Z W r S σ H D0 D) (R : Rel K Z r S σ H) : ∀ c S' dd H', Go H S H' S' → ST K Z S' H' → D0.ex c r S' → W (Z.ex c) dd σ H' :=
  fun c S' dd H' e st q => h.ex c r S' dd σ H' e (R.go e st) q
/-! ### blocks, small statements -/
def dNext : TDS := fun D r S => D.nx r S
def dSeq (t u : TDS) : TDS := fun D r S => t { D with nx := u D } r S
theorem pdss_nil : PDSs X Z [] dNext := fun W tk => PSs.imp pss_nil fun D σ H ⟨r, S, D0, R, q, k⟩ => k.nx r S σ H Go.r R q
theorem pdss_cons (h1 : PDS X Z st t) (h2 : PDSs X Z rest u) : PDSs X Z (st :: rest) (dSeq t u) := fun W tk => by
  refine PSs.imp (pss_cons (h1 W tk) (h2 W tk)) fun D σ H h => ?_
  obtain ⟨r, S, D0, R, q, k⟩ := h
  exact ⟨r, S, _, R, q, ⟨fun r' S' σ' H' e R' q' => ⟨r', S', D0, R', q', k.go e⟩, k.rt, k.bk, k.ct, k.ex⟩⟩
theorem pdss_one (h1 : PDS X Z st t) : PDSs X Z [st] t := fun W tk => pss_one (h1 W tk)
theorem pds_pass : PDS X Z (.Pass pos) dNext := fun W tk => PS.imp ps_pass fun D σ H ⟨r, S, D0, R, q, k⟩ => k.nx r S σ H Go.r R q
def dBreak : TDS := fun D r S => D.bk r S
def dCont : TDS := fun D r S => D.ct r S
theorem pds_break : PDS X Z (.Break pos) dBreak := fun W tk => PS.imp ps_break fun D σ H ⟨r, S, D0, R, q, k⟩ => k.bk r S σ H Go.r R q
theorem pds_continue : PDS X Z (.Continue pos) dCont := fun W tk => PS.imp ps_continue fun D σ H ⟨r, S, D0, R, q, k⟩ => k.ct r S σ H Go.r R q
def dDrop (te : TD) : TDS := fun D r S => te r S (fun _ S1 => D.nx r S1) (fun c S1 => D.ex c r S1)
theorem pds_expr (he : PD X Z e te) (hs : swapsWith e none pos.line X.env = pure false := by rfl) : PDS X Z (.Expr e pos) (dDrop te) := fun W tk => by
  refine PS.imp (ps_expr (he W tk) hs) fun D σ H h => ?_
  obtain ⟨r, S, D0, R, q, k⟩ := h
  exact ⟨r, S, _, _, R, q, fun d S' v H' e st dv q' => k.nx r S' σ H' e (R.go e st) q', k.exx R⟩
def dRet (te : TD) : TDS := fun D r S => te r S D.rt (fun c S1 => D.ex c r S1)
theorem pds_ret (he : PD X Z e te) : PDS X Z (.Return (some e) pos) (dRet te) := fun W tk => by
  refine PS.imp (ps_ret (he W tk)) fun D σ H h => ?_
  obtain ⟨r, S, D0, R, q, k⟩ := h
  exact ⟨r, S, _, _, R, q, k.rt, k.exx R⟩
def dRetN : TDS := fun D _ S => D.rt .non S
theorem pds_retN : PDS X Z (.Return none pos) dRetN := fun W tk => PS.imp ps_retN fun D σ H ⟨r, S, D0, R, q, k⟩ => k.rt .non S .non H Go.r R.st (dv_non.mpr rfl) q
def dIfS (c : TDT) (t u : TDS) : TDS := fun D r S => c r S (fun b S1 => if b = true then t D r S1 else u D r S1) (fun c S1 => D.ex c r S1)
theorem pds_if {c : Expr} {sa sb : List Stmt} (hc : PDT X Z c tc) (ha : PDSs X Z sa t) (hb : PDSs X Z sb u) : PDS X Z (.If c sa sb pos) (dIfS tc t u) := fun W tk => by
  refine PS.imp (ps_if (hc W tk) (ha W tk) (hb W tk)) fun D σ H h => ?_
  obtain ⟨r, S, D0, R, q, k⟩ := h
  refine ⟨r, S, _, _, R, q, fun b S' H' e st q' => ?_, k.exx R⟩
  cases b with
  | true => exact iteT ⟨r, S', D0, R.go e st, (if_pos rfl).mp q', k.go e⟩
  | false => exact iteF ⟨r, S', D0, R.go e st, (if_neg Bool.false_ne_true).mp q', k.go e⟩

/-! ### targets -/
abbrev TDG := D → Env_ → DS → (Env_ → DS → Prop) → XD → Prop
abbrev TDGs := List D → Env_ → DS → (Env_ → DS → Prop) → XD → Prop
/-- slots but those of the list stay -/
def Keep (ts : List Nat) (σ σ' : L2.St) : Prop := σ'.length = σ.length ∧ ∀ j, j ∉ ts → σ'[j]? = σ[j]?
theorem Keep.refl {ts : List Nat} {σ : L2.St} : Keep ts σ σ := ⟨rfl, fun _ _ => rfl⟩
theorem Keep.trans {ts us : List Nat} {σ σ1 σ2 : L2.St} (a : Keep ts σ σ1) (b : Keep us σ1 σ2) : Keep (ts ++ us) σ σ2 :=
  ⟨b.1.trans a.1, fun j hj => (b.2 j fun z => hj (List.mem_append_right _ z)).trans (a.2 j fun z => hj (List.mem_append_left _ z))⟩
def liftG (K : PySem.W.Frag) (Z : Zt) (W : WX) (ts : List Nat) (g : TDG) : TG := fun v σ H Q => ∃ d r S Q0 E0, Rel K Z r S σ H ∧ DV K H d v ∧ g d r S Q0 E0 ∧
  (∀ r' S' σ' H', Go H S H' S' → Rel K Z r' S' σ' H' → Keep ts σ σ' → Q0 r' S' → Q σ' H') ∧ ∀ c S' dd H', Go H S H' S' → ST K Z S' H' → E0 c S' → W (Z.ex c) dd σ H'
def liftGs (K : PySem.W.Frag) (Z : Zt) (W : WX) (ts : List Nat) (g : TDGs) : TGs := fun vs σ H Q => ∃ ds r S Q0 E0, Rel K Z r S σ H ∧ DVs K H ds vs ∧ g ds r S Q0 E0 ∧
  (∀ r' S' σ' H', Go H S H' S' → Rel K Z r' S' σ' H' → Keep ts σ σ' → Q0 r' S' → Q σ' H') ∧ ∀ c S' dd H', Go H S H' S' → ST K Z S' H' → E0 c S' → W (Z.ex c) dd σ H'
def PDG (X : Cx) (Z : Zt) (tg : Expr) (ts : List Nat) (g : TDG) : Prop := ∀ W, Takes X W → PG X tg (liftG X.K Z W ts g)
def PDGs (X : Cx) (Z : Zt) (tg : List Expr) (ts : List Nat) (g : TDGs) : Prop := ∀ W, Takes X W → PGs X tg (liftGs X.K Z W ts g)
theorem PG.imp {tg : Expr} {t t' : TG} (h : PG X tg t) (i : ∀ v σ H Q, t' v σ H Q → t v σ H Q) : PG X tg t' := ⟨fun pins s σ H v u Q I r q => h.run pins s σ H v u Q I r (i v σ H Q q)⟩
theorem PGs.imp {tg : List Expr} {t t' : TGs} (h : PGs X tg t) (i : ∀ v σ H Q, t' v σ H Q → t v σ H Q) : PGs X tg t' := ⟨fun pins s σ H v u Q I r q => h.run pins s σ H v u Q I r (i v σ H Q q)⟩
def gN (i : Nat) : TDG := fun d r S Q _ => Q (r.set i (some d)) S
theorem pdg_name {i : Nat} (hN : X.N.Nodup) (hi : X.N[i]? = some x := by rfl) (hx : Loc X.env.scope x := by first | exact .inl rfl | exact .inr rfl) (hf : X.fn x = true ∨ X.env.scope.names.lookup x = some .local := by first | exact .inl rfl | exact .inr rfl) : PDG X Z (.Name x pos) [i] (gN i) := fun W tk => by
  refine PG.imp (pg_name hN hi hx hf) fun v σ H Q h => ?_
  obtain ⟨d, r, S, Q0, E0, R, dv, q, k, _⟩ := h
  exact k _ S _ H Go.r ⟨R.sl.set i dv, R.st⟩ ⟨List.length_set, fun j hj => List.getElem?_set_ne (fun z => hj (by rw [z]; exact List.mem_singleton.mpr rfl))⟩ q
def gNl : TDGs := fun ds r S Q _ => ds = [] ∧ Q r S
def gCs (g : TDG) (h : TDGs) : TDGs := fun ds r S Q E => match ds with
  | d :: rest => g d r S (fun r' S' => h rest r' S' Q (fun _ _ => False)) (fun _ _ => False)
  | [] => False
theorem pdgs_nil : PDGs X Z [] [] gNl := fun W tk => by
  refine PGs.imp pgs_nil fun v σ H Q h => ?_
  obtain ⟨ds, r, S, Q0, E0, R, dv, q, k, _⟩ := h
  rw [q.1] at dv
  exact ⟨dvs_nil.mp dv, k r S σ H Go.r R Keep.refl q.2⟩
theorem pdgs_cons {ts us : List Nat} {g : TDG} {h : TDGs} (h1 : PDG X Z e ts g) (h2 : PDGs X Z es us h) (hs : (assignEach (e :: es) X.env).map (·.2) = assign e X.env :: (assignEach es X.env).map (·.2) := by rfl) : PDGs X Z (e :: es) (ts ++ us) (gCs g h) := fun W tk => by
  refine PGs.imp (pgs_cons (h1 W tk) (h2 W tk) hs) fun v σ H Q h => ?_
  obtain ⟨ds, r, S, Q0, E0, R, dv, q, k, kE⟩ := h
  cases ds with
  | nil => exact q.elim
  | cons d rest =>
    obtain ⟨v', vr, e1, dv1, dv2⟩ := dvs_cons.mp dv
    refine ⟨v', vr, e1, d, r, S, _, _, R, dv1, q, fun r' S' σ' H' e R' kp q' => ?_, fun _ _ _ _ _ _ z => z.elim⟩
    exact ⟨rest, r', S', _, _, R', dv2.mono e.evo, q', fun r2 S2 σ2 H2 e2 R2 kp2 q2 => k r2 S2 σ2 H2 (e.trans e2) R2 (kp.trans kp2) q2, fun _ _ _ _ _ _ z => z.elim⟩
def gT (n : Nat) (g : TDGs) : TDG := fun d r S Q E => match d with
  | .tup ds => ds.length = n ∧ g ds r S Q E
  | _ => False
theorem pdg_tup {ts : List Nat} {g : TDGs} {k n : Nat} (hc : X.calm = true) (h : PDGs X Z es ts g) (hn : (assignEach es X.env).length = n := by rfl) (hst : (assignEach es X.env).findIdx? (·.1) = none := by rfl) : PDG X Z (.Tuple es k pos) ts (gT n g) := fun W tk => by
  refine PG.imp (pg_tup hc (h W tk) hn hst) fun v σ H Q h => ?_
  obtain ⟨d, r, S, Q0, E0, R, dv, q, k, kE⟩ := h
  cases d with
  | tup ds =>
    obtain ⟨p, vs, e1, h1, d1⟩ := dv_tup.mp dv
    exact ⟨p, vs, e1, h1, by rw [← d1.len]; exact q.1, ds, r, S, Q0, E0, R, d1, q.2, k, kE⟩
  | _ => exact q.elim
/-- o[i] = .. of a list -/
def gIx (to ti : TD) : TDG := fun d r S Q E => to r S (fun x S1 => ti r S1 (fun y S2 => match x, y with
  | .ref a, .int i => ∃ ds j, S2 a = some (.lst ds) ∧ ixN ds.length i = some j ∧ Q r (put S2 a (.lst (ds.set j d)))
  | _, _ => False) E) E
theorem pdg_ix (ho : PD X Z o to) (hi : PD X Z a ti) (ha : ∀ v, assign (.Subscript o a pos) X.env v = (do
      let ov ← holding [v] (eval o X.env)
      let iv ← holding [v, ov] (eval a X.env)
      standAt pos
      holding [v, ov, iv] (setItem ov iv v)
      release [v, ov, iv] []) := by intro _; rfl) : PDG X Z (.Subscript o a pos) [] (gIx to ti) := fun W tk => by
  refine PG.imp (pg_sub (ho W tk) (hi W tk) set_list ha) fun v σ H Q h => ?_
  obtain ⟨d, r, S, Q0, E0, R, dv, q, k, kE⟩ := h
  refine ⟨r, S, _, E0, R, q, fun x S1 ov H1 e1 st1 dv1 q1 => ?_, kE⟩
  refine ⟨r, S1, _, E0, R.go e1 st1, q1, fun y S2 iv H2 e2 st2 dv2 q2 => ?_, fun c S2 dd H2 e2 => kE c S2 dd H2 (e1.trans e2)⟩
  cases x with
  | ref l =>
    cases y with
    | int i =>
      obtain ⟨ds, j, sa, hj, q3⟩ : ∃ ds j, S2 l = some (.lst ds) ∧ ixN ds.length i = some j ∧ Q0 r (put S2 l (.lst (ds.set j d))) := q2
      obtain ⟨vs, h1, d1⟩ := sr_lst st2 sa
      have ev : Evo H2 (upd H2 l (.lst (vs.set j v))) := mut_evo h1 trivial
      refine ⟨l, vs, i, j, (dv_ref.mp (dv1.mono e2.evo)), dv_int.mp dv2, h1, by rw [← d1.len]; exact hj, ?_⟩
      have st3 : ST X.K Z (put S2 l (.lst (ds.set j d))) (upd H2 l (.lst (vs.set j v))) := st2.wrote h1 trivial ⟨_, upd_same, (DVs.set (dv.mono (e1.trans e2).evo) j d1).mono ev⟩
      have g3 := (e1.trans e2).trans (Go.wrote (u' := .lst (ds.set j d)) ev sa)
      exact k r _ σ _ g3 (R.go g3 st3) Keep.refl q3
    | _ => exact q2.elim
  | _ => cases y <;> exact q2.elim
/-- target = e -/
def dAsg (te : TD) (g : TDG) : TDS := fun D r S => te r S (fun d S1 => g d r S1 D.nx (fun c S2 => D.ex c r S2)) (fun c S1 => D.ex c r S1)
theorem lift_asg {K : PySem.W.Frag} {W : WX} {te : TD} {g : TDG} {ts : List Nat} {D : Ends} {σ : L2.St} {H : Hp} (h : liftS K Z W (dAsg te g) D σ H) : tAsg (lift K Z W te) (liftG K Z W ts g) D σ H := by
  obtain ⟨r, S, D0, R, q, k⟩ := h
  refine ⟨r, S, _, _, R, q, fun d S1 v H1 e1 st1 dv1 q1 => ?_, k.exx R⟩
  exact ⟨d, r, S1, _, _, R.go e1 st1, dv1, q1, fun r' S' σ' H' e' R' _ q' => k.nx r' S' σ' H' (e1.trans e') R' q', fun c S' dd H' e' st' q' => k.ex c r S' dd σ H' (e1.trans e') (R.go (e1.trans e') st') q'⟩
theorem pds_asg {tg : Expr} {g : TDG} {ts : List Nat} (he : PD X Z e te) (hg : PDG X Z tg ts g) (hs : swapsWithSole [tg] e pos.line X.env = pure false := by rfl) (hw : swappedStores [tg] e X.env = pure none := by rfl)
    (h1 : (assignEach [tg] X.env).map (·.2) = [assign tg X.env] := by rfl) : PDS X Z (.Assign [tg] e pos) (dAsg te g) := fun W tk =>
  PS.imp (ps_asg (he W tk) (hg W tk) hs hw h1) fun _ _ _ h => lift_asg h
theorem pds_set {i : Nat} (hN : X.N.Nodup) (he : PD X Z e te) (hi : X.N[i]? = some x := by rfl) (hx : Loc X.env.scope x := by first | exact .inl rfl | exact .inr rfl) (hs : swapsWith e (some (.Name x pos')) pos.line X.env = pure false := by rfl) (hf : X.fn x = true ∨ X.env.scope.names.lookup x = some .local := by first | exact .inl rfl | exact .inr rfl) :
    PDS X Z (.Assign [.Name x pos'] e pos) (dAsg te (gN i)) := fun W tk => by
  refine PS.imp (ps_set hN hi hx (he W tk) hs hf) fun D σ H h => ?_
  obtain ⟨r, S, D0, R, q, k⟩ := h
  refine ⟨r, S, _, _, R, q, fun d S1 v H1 e1 st1 dv1 q1 => ?_, k.exx R⟩
  exact k.nx _ S1 _ H1 e1 ⟨(R.sl.mono e1.evo).set i dv1, st1⟩ q1
/-- o.f = e -/
def putD (f : Nat) (d : D) : List (Nat × D) → List (Nat × D)
  | [] => [(f, d)]
  | (g, y) :: r => if g = f then (g, d) :: r else (g, y) :: putD f d r
theorem lk_putD (f i : Nat) (d : D) : ∀ fs : List (Nat × D), lk (putD f d fs) i = if i = f then some d else lk fs i
  | [] => by
    show (if i = f then some d else none) = _
    rfl
  | (g, y) :: r => by
    by_cases h : g = f
    · subst h
      show lk (if g = g then (g, d) :: r else (g, y) :: putD g d r) i = _
      rw [if_pos rfl]
      show (if i = g then some d else lk r i) = if i = g then some d else (if i = g then some y else lk r i)
      split <;> rfl
    · show lk (if g = f then (g, d) :: r else (g, y) :: putD f d r) i = _
      rw [if_neg h]
      show (if i = g then some y else lk (putD f d r) i) = if i = f then some d else (if i = g then some y else lk r i)
      rw [lk_putD f i d r]
      by_cases hg : i = g
      · rw [if_pos hg, if_pos hg, if_neg (fun z => h (hg.symm.trans z))]
      · rw [if_neg hg, if_neg hg]
theorem len_putD (f : Nat) (d : D) : ∀ fs : List (Nat × D), (putD f d fs).length = if (lk fs f).isSome then fs.length else fs.length + 1
  | [] => rfl
  | (g, y) :: r => by
    have ih := len_putD f d r
    by_cases h : g = f
    · subst h
      simp [putD, lk]
    · have h' : ¬ f = g := fun z => h z.symm
      simp only [putD, lk, if_neg h, if_neg h', List.length_cons, ih]
      split <;> rfl
theorem len_putF_has (f : Str) (v : V) : ∀ fs : List (Str × V), (fs.lookup f).isSome → (putF f v fs).length = fs.length
  | [], h => by simp at h
  | (g, y) :: r, h => by
    show (if g = f then (g, v) :: r else (g, y) :: putF f v r).length = r.length + 1
    by_cases hg : g = f
    · rw [if_pos hg]; rfl
    · rw [if_neg hg, List.length_cons, len_putF_has f v r]
      have : (f == g) = false := by simp [Ne.symm hg]
      simpa [List.lookup, this] using h
theorem FV.put {K : PySem.W.Frag} {H : Hp} {fs : List (Nat × D)} {vs : List (Str × V)} {f : Nat} {d : D} {v : V} (h : FV K Z H fs vs) (dv : DV K H d v) : FV K Z H (putD f d fs) (putF (Z.fn f) v vs) := by
  refine ⟨?_, fun i d' q => ?_, fun y hy => ?_⟩
  · rw [len_putD]
    cases e : lk fs f with
    | none =>
      have := length_putF (Z.fn f) v vs
      have := h.1
      simp
      omega
    | some d0 =>
      obtain ⟨v0, h1, _⟩ := h.2.1 f d0 e
      rw [len_putF_has _ _ _ (by rw [h1]; rfl)]
      exact h.1
  · rw [lk_putD] at q
    rw [lookup_putF]
    by_cases hi : i = f
    · rw [if_pos hi] at q
      cases q
      exact ⟨v, by rw [if_pos (by rw [hi])], dv⟩
    · rw [if_neg hi] at q
      rw [if_neg (fun z => hi (Z.inj _ _ z))]
      exact h.2.1 i d' q
  · rw [lookup_putF]
    have hf : Z.fn f ≠ y := hy f d (by rw [lk_putD, if_pos rfl])
    rw [if_neg (fun z => hf z.symm)]
    refine h.2.2 y fun i d' q => ?_
    by_cases hi : i = f
    · rw [hi]; exact hf
    · exact hy i d' (by rw [lk_putD, if_neg hi]; exact q)
def dFldS (tx : Tx) (f : Nat) (to te : TD) : TDS := fun D r S => te r S (fun d S1 => to r S1 (fun x S2 => ∃ a c fs, x = .ref a ∧ S2 a = some (.ins c fs) ∧ tx.fl c f = true ∧ fs.length < 900 ∧ D.nx r (put S2 a (.ins c (putD f d fs)))) (fun c S2 => D.ex c r S2)) (fun c S1 => D.ex c r S1)
theorem pds_fld (hM : TxOk X.prog X.w X.K X.mg X.base Z tx M) (f : Nat) (hf : Z.fn f = m) (ho : PD X Z o to) (he : PD X Z e te) (hs : swapsWith e (some (.Attribute o m pos')) pos.line X.env = pure false := by rfl) : PDS X Z (.Assign [.Attribute o m pos'] e pos) (dFldS tx f to te) := fun W tk => by
  subst hf
  refine PS.imp (ps_fld (ho W tk) (he W tk) hs) fun D σ H h => ?_
  obtain ⟨r, S, D0, R, q, k⟩ := h
  refine ⟨r, S, _, _, R, q, fun d S1 v H1 e1 st1 dv1 q1 => ?_, k.exx R⟩
  refine ⟨r, S1, _, _, R.go e1 st1, q1, fun x S2 w H2 e2 st2 dv2 q2 => ?_, fun c S' dd H' e' => k.exx R c S' dd H' (e1.trans e')⟩
  obtain ⟨a, c, fs, ex, sa, hfl, hl, q3⟩ := q2
  subst ex
  obtain ⟨dx, vs, ha, fv⟩ := st2.sr a _ sa
  obtain ⟨hc, hn⟩ := hM.fl c f hfl
  have ev : Evo H2 (upd H2 a (.ins (Z.cm c) dx (putF (Z.fn f) v vs))) := mut_evo ha trivial
  refine ⟨a, Z.cm c, dx, vs, dv_ref.mp dv2, ha, hc, hn, by have := fv.1; omega, ?_⟩
  have st3 : ST X.K Z (put S2 a (.ins c (putD f d fs))) (upd H2 a (.ins (Z.cm c) dx (putF (Z.fn f) v vs))) := st2.wrote ha trivial ⟨dx, _, upd_same, (fv.put (dv1.mono e2.evo)).mono ev⟩
  have g3 := (e1.trans e2).trans (Go.wrote (u' := .ins c (putD f d fs)) ev sa)
  exact k.nx r _ σ _ g3 (R.go g3 st3) q3
end
end G

set_option Elab.async false
set_option linter.all false
set_option maxRecDepth 100000
set_option maxHeartbeats 4000000
/-! GG: op=, while, for, what is walked, comprehensions, errors, tries, several names at once. -/
namespace G
open PySem PySem.Spec PyProof.Rows L2
section
variable {X : Cx} {Z : Zt} {tx : Tx} {M : List Ent} {L : Nat} {a b c e o : Expr} {es : List Expr} {te to ti : TD} {t u tb : TDS} {tc : TDT} {ta : TDA} {pos pos' p : Pos} {x m : Str} {st : Stmt} {rest body : List Stmt}
/-! ### name op= e -/
def IpD (X : Cx) (Z : Zt) (op : Operator) (r : RD2) : Prop := PIp X op (liftR X.K Z r)
def opIAdd : RD2 := fun x y S Q => match x, y with
  | .int i, .int j => Q (.int (i + j)) S
  | .str a, .str b => a.length + b.length ≤ sizeLine ∧ Q (.str (a ++ b)) S
  | _, _ => False
theorem id_add : IpD X Z .Add opIAdd := by
  intro pins s σ H v w u u' Q I rx ry h
  obtain ⟨x, y, S, Q0, st, hx, hy, h, k⟩ := h
  cases x with
  | int i =>
    cases y with
    | int j =>
      rw [dv_int.mp hx] at rx
      rw [dv_int.mp hy] at ry
      exact iop_add pins s σ H _ _ _ _ Q I rx ry ⟨i, j, rfl, rfl, k _ S _ H Go.r st (dv_int.mpr rfl) h⟩
    | _ => exact h.elim
  | str a =>
    cases y with
    | str b =>
      rw [dv_str.mp hx] at rx
      rw [dv_str.mp hy] at ry
      exact iop_add_str pins s σ H _ _ _ _ Q I rx ry ⟨a, b, rfl, rfl, h.1, k _ S _ H Go.r st (dv_str.mpr rfl) h.2⟩
    | _ => exact h.elim
  | _ => cases y <;> exact h.elim
theorem id_sub : IpD X Z .Sub opSub := opII iop_sub (fun x y S Q h => by cases x <;> cases y <;> first | exact ⟨_, _, rfl, rfl⟩ | exact h.elim)
  fun i j S Q0 H Q h k => ⟨i, j, rfl, rfl, k _ h _ fun _ _ => dv_int.mpr rfl⟩
def opIMul : RD2 := fun x y S Q => match x, y with
  | .int i, .int j => CMul i j ∧ Q (.int (i * j)) S
  | _, _ => False
theorem id_mul : IpD X Z .Mult opIMul := opII iop_mul (fun x y S Q h => by cases x <;> cases y <;> first | exact ⟨_, _, rfl, rfl⟩ | exact h.elim)
  fun i j S Q0 H Q h k => ⟨i, j, rfl, rfl, h.1, k _ h.2 _ fun _ _ => dv_int.mpr rfl⟩
def dAug (i : Nat) (te : TD) (r2 : RD2) : TDS := fun D r S => ∃ x, r[i]? = some (some x) ∧ te r S (fun y S1 => r2 x y S1 fun z S2 => D.nx (r.set i (some z)) S2) (fun c S1 => D.ex c r S1)
theorem pds_aug {op : Operator} {r2 : RD2} {i : Nat} (hN : X.N.Nodup) (he : PD X Z e te) (ho : IpD X Z op r2) (hi : X.N[i]? = some x := by rfl) (hx : Loc X.env.scope x := by first | exact .inl rfl | exact .inr rfl) (hf : X.fn x = true ∨ X.env.scope.names.lookup x = some .local := by first | exact .inl rfl | exact .inr rfl) :
    PDS X Z (.AugAssign (.Name x pos') op e pos) (dAug i te r2) := fun W tk => by
  refine PS.imp (ps_aug hN hi hx (he W tk) ho hf) fun D σ H h => ?_
  obtain ⟨r, S, D0, R, ⟨d, hd, q⟩, k⟩ := h
  obtain ⟨v, h1, h2⟩ := R.sl.get i d hd
  refine ⟨v, h1, r, S, _, _, R, q, fun y S1 w H1 e1 st1 dv1 q1 => ?_, k.exx R⟩
  refine ⟨d, y, S1, _, st1, h2.mono e1.evo, dv1, q1, fun z S2 v2 H2 e2 st2 dv2 q2 => ?_⟩
  exact k.nx _ S2 _ H2 (e1.trans e2) ⟨(R.sl.mono (e1.trans e2).evo).set i dv2, st2⟩ q2

/-! ### while -/
def dWhile (c : TDT) (tb : TDS) : TDS := fun D r S => ∃ Wv : Nat → Env_ → DS → Prop, (∃ m, Wv m r S) ∧ ∀ m r S, Wv m r S →
  c r S (fun b S1 => if b = true then tb { D with nx := fun r' S' => ∃ S0 m', Sub S0 S' ∧ m' < m ∧ Wv m' r' S0, ct := fun r' S' => ∃ S0 m', Sub S0 S' ∧ m' < m ∧ Wv m' r' S0, bk := D.nx } r S1 else D.nx r S1) (fun c S1 => D.ex c r S1)
theorem pds_while {sts : List Stmt} (hp : PassesOwn (model X.prog X.w) X.A X.env X.xe) (hc : PDT X Z c tc) (hb : PDSs X Z body tb) : PDS X Z (.While c body [] pos) (dWhile tc tb) := fun W tk => by
  refine PS.imp (ps_while hp (hc W tk) (hb W tk)) fun D σ H h => ?_
  obtain ⟨r, S, D0, R, ⟨Wv, ⟨m0, w0⟩, turn⟩, k⟩ := h
  refine ⟨fun m σ' H' => ∃ r' S', Go H S H' S' ∧ Rel X.K Z r' S' σ' H' ∧ Wv m r' S', ⟨m0, r, S, Go.r, R, w0⟩, fun m σ1 H1 ⟨r1, S1, g1, R1, w1⟩ => ?_⟩
  have k1 : Meant X.K Z W r1 S1 σ1 H1 D0 D := k.go g1
  refine ⟨r1, S1, _, _, R1, turn m r1 S1 w1, fun b S2 H2 e2 st2 q2 => ?_, k1.exx R1⟩
  cases b with
  | true =>
    refine iteT ⟨fun σ' H' => ∃ m', m' < m ∧ ∃ r' S', Go H S H' S' ∧ Rel X.K Z r' S' σ' H' ∧ Wv m' r' S', fun σ' H' h => h, r1, S2, _, R1.go e2 st2, (if_pos rfl).mp q2, ?_⟩
    have g2 := g1.trans e2
    refine ⟨fun r' S' σ' H' e R' ⟨S0, m', hs, hm, w'⟩ => ⟨m', hm, r', S0, (g2.trans e).sub hs, ⟨R'.sl, R'.st.sub hs⟩, w'⟩, fun d S' v H' e => k.rt d S' v H' (g2.trans e), fun r' S' σ' H' e => k.nx r' S' σ' H' (g2.trans e), fun r' S' σ' H' e R' ⟨S0, m', hs, hm, w'⟩ => ⟨m', hm, r', S0, (g2.trans e).sub hs, ⟨R'.sl, R'.st.sub hs⟩, w'⟩,
      fun c r' S' dd σ' H' e => k.ex c r' S' dd σ' H' (g2.trans e)⟩
  | false => exact iteF (k1.nx r1 S2 σ1 H2 e2 (R1.go e2 st2) ((if_neg Bool.false_ne_true).mp q2))

/-! ### what is walked -/
/-- J gives ds, one by one, as long as ok holds of the store -/
def Yields (K : PySem.W.Frag) (Z : Zt) (H0 : Hp) (J : It) (ds : List D) (ok : DS → Prop) : Prop := ∀ i S H, Evo H0 H → ST K Z S H → ok S →
  (∀ d, ds[i]? = some d → J.go i H ∧ ∀ x H', J.yld i H x H' → DV K H' d x ∧ Go H S H' S ∧ ST K Z S H') ∧ (ds.length ≤ i → J.stop i H)
abbrev TDI := Env_ → DS → (List D → (DS → Prop) → DS → Prop) → XD → Prop
def liftI (K : PySem.W.Frag) (Z : Zt) (W : WX) (wi : TDI) : TI := fun σ H R => ∃ r S Q0 E0, Rel K Z r S σ H ∧ wi r S Q0 E0 ∧
  (∀ ds ok S' J H', Go H S H' S' → ST K Z S' H' → Yields K Z H' J ds ok → Q0 ds ok S' → R J H') ∧ ∀ c S' dd H', Go H S H' S' → ST K Z S' H' → E0 c S' → W (Z.ex c) dd σ H'
def PDI (X : Cx) (Z : Zt) (tg iter : Expr) (wi : TDI) : Prop := ∀ W, Takes X W → PI X tg iter (liftI X.K Z W wi)
theorem PI.imp {tg it : Expr} {t t' : TI} (h : PI X tg it t) (i : ∀ σ H R, t' σ H R → t σ H R) : PI X tg it t' := ⟨fun pins s σ H R I q => h.run pins s σ H R I (i σ H R q)⟩
section
variable {K : PySem.W.Frag} {H0 : Hp}
theorem Evo.put_go {H : Hp} {S : DS} {T : Addr} {u : HO} (h : H T = none) (st : ST K Z S H) : Go H S (upd H T u) S ∧ ST K Z S (upd H T u) := ⟨Go.new h, st.new h⟩
theorem y_list {l : Addr} {ds : List D} : Yields K Z H0 (Itl K l) ds (fun S => S l = some (.lst ds)) := fun i S H _ st ok => by
  obtain ⟨vs, h1, d1⟩ := sr_lst st ok
  refine ⟨fun d hd => ?_, fun hi => ⟨vs, SqL.of h1, by rw [← d1.len]; exact hi⟩⟩
  obtain ⟨v, hv, dv⟩ := d1.get hd
  refine ⟨⟨vs, v, SqL.of h1, hv⟩, fun x H' y => ?_⟩
  obtain ⟨e, y⟩ := y
  subst e
  have := y vs (SqL.of h1)
  rw [hv] at this
  cases this
  exact ⟨dv, Go.r, st⟩
theorem y_tup {l : Addr} {ds : List D} {vs : List V} (h : SqT K H0 l vs) (dv : DVs K H0 ds vs) : Yields K Z H0 (Itt K l) ds (fun _ => True) := fun i S H e st _ => by
  have h1 := e.sqT h
  have d1 := dv.mono e
  refine ⟨fun d hd => ?_, fun hi => ⟨vs, h1, by rw [← d1.len]; exact hi⟩⟩
  obtain ⟨v, hv, dv⟩ := d1.get hd
  refine ⟨⟨vs, v, h1, hv⟩, fun x H' y => ?_⟩
  obtain ⟨e, y⟩ := y
  subst e
  have := y vs h1
  rw [hv] at this
  cases this
  exact ⟨dv, Go.r, st⟩
theorem y_rol {l : Addr} {ds : List D} {vs : List V} (h : RoL K H0 l vs) (dv : DVs K H0 ds vs) : Yields K Z H0 (Itl K l) ds (fun _ => True) := fun i S H e st _ => by
  have h1 := (e.roL h).sq
  have d1 := dv.mono e
  refine ⟨fun d hd => ?_, fun hi => ⟨vs, h1, by rw [← d1.len]; exact hi⟩⟩
  obtain ⟨v, hv, dv⟩ := d1.get hd
  refine ⟨⟨vs, v, h1, hv⟩, fun x H' y => ?_⟩
  obtain ⟨e, y⟩ := y
  subst e
  have := y vs h1
  rw [hv] at this
  cases this
  exact ⟨dv, Go.r, st⟩
def signs (z : Str) : List D := z.cps.toList.map fun c => D.str ⟨#[c]⟩
theorem y_str {z : Str} : Yields K Z H0 (Its z) (signs z) (fun _ => True) := fun i S H e st _ => by
  refine ⟨fun d hd => ?_, fun hi => ?_⟩
  · unfold signs at hd
    rw [List.getElem?_map, Array.getElem?_toList] at hd
    cases hc : z.cps[i]? with
    | none => rw [hc] at hd; cases hd
    | some c =>
      rw [hc] at hd
      cases hd
      refine ⟨(Array.getElem?_eq_some_iff.mp hc).1, fun x H' y => ?_⟩
      obtain ⟨e, c', h1, h2⟩ := y
      subst e
      rw [hc] at h1
      cases h1
      exact ⟨dv_str.mpr h2, Go.r, st⟩
  · unfold signs at hi
    rw [List.length_map, Array.length_toList] at hi
    exact hi
def rngD (lo : Int) (n : Nat) : List D := (List.range n).map fun i => D.int (lo + (i : Nat))
theorem rngD_get {lo : Int} {n i : Nat} {d : D} (h : (rngD lo n)[i]? = some d) : i < n ∧ d = .int (lo + i) := by
  unfold rngD at h
  rw [List.getElem?_map] at h
  by_cases hi : i < n
  · rw [List.getElem?_range hi] at h
    cases h
    exact ⟨hi, rfl⟩
  · rw [List.getElem?_eq_none (by rw [List.length_range]; omega)] at h
    cases h
theorem rngD_len (lo : Int) (n : Nat) : (rngD lo n).length = n := by unfold rngD; rw [List.length_map, List.length_range]
theorem y_rng {lo : Int} {n : Nat} : Yields K Z H0 (Itr lo n) (rngD lo n) (fun _ => True) := fun i S H e st _ => by
  refine ⟨fun d hd => ?_, fun hi => by rw [rngD_len] at hi; exact hi⟩
  obtain ⟨h1, h2⟩ := rngD_get hd
  subst h2
  exact ⟨h1, fun x H' y => ⟨by rw [y.2]; exact dv_int.mpr rfl, by rw [y.1]; exact Go.r, by rw [y.1]; exact st⟩⟩
end
/-- a list, a tuple, a text that is walked -/
def iAny (te : TD) : TDI := fun r S Q E => te r S (fun x S1 => match x with
  | .ref l => ∃ ds, S1 l = some (.lst ds) ∧ Q ds (fun S => S l = some (.lst ds)) S1
  | .tup ds => Q ds (fun _ => True) S1
  | .rol ds => Q ds (fun _ => True) S1
  | .str z => Q (signs z) (fun _ => True) S1
  | _ => False) E
theorem it_list {tg : Expr} {pins : List (Addr × Obj)} {σ : L2.St} {H : Hp} {s : Shared} {R : It → Hp → Prop} {l : Addr} {vs : List V} (I : Inv X pins σ H s) (h : SqL X.K H l vs) (q : R (Itl X.K l) H) : wpAny (model X.prog X.w) X.A (pyIter (.ref l)) (PIE X pins σ tg R) X.xe s := by
  obtain ⟨its, rv, p, hz⟩ := I.list h
  refine wpAny_pyIter_list p.isList ?_
  refine ⟨s.heap.objs.size, [s.heap.objs.size], _, _, H, rfl, I.kept (t' := s.toks) fun b o e => Heap.get?_push_of_some _ e, turn_list l _, ⟨_, Heap.get?_push_size _ rfl, rfl, rfl⟩, fun b hb => ?_, q⟩
  have e : b = s.heap.objs.size := by simpa using hb
  subst e
  exact I.fpOk (Nat.le_refl _) (I.hok.fresh (Nat.le_refl _))
theorem it_tup {tg : Expr} {pins : List (Addr × Obj)} {σ : L2.St} {H : Hp} {s : Shared} {R : It → Hp → Prop} {l : Addr} {vs : List V} (I : Inv X pins σ H s) (h : SqT X.K H l vs) (q : R (Itt X.K l) H) : wpAny (model X.prog X.w) X.A (pyIter (.ref l)) (PIE X pins σ tg R) X.xe s := by
  obtain ⟨its, rv, p, hz⟩ := I.tuple h
  refine wpAny_pyIter_tuple (show s.heap.IsTuple l its.toArray from p) ?_
  refine ⟨s.heap.objs.size, [s.heap.objs.size], _, _, H, rfl, I.kept (t' := s.toks) fun b o e => Heap.get?_push_of_some _ e, turn_tuple l _, ⟨_, Heap.get?_push_size _ rfl, rfl, rfl⟩, fun b hb => ?_, q⟩
  have e : b = s.heap.objs.size := by simpa using hb
  subst e
  exact I.fpOk (Nat.le_refl _) (I.hok.fresh (Nat.le_refl _))
theorem it_str {tg : Expr} {pins : List (Addr × Obj)} {σ : L2.St} {H : Hp} {s : Shared} {R : It → Hp → Prop} {z : Str} {t : Tok} (I : Inv X pins σ H s) (q : R (Its z) H) : wpAny (model X.prog X.w) X.A (pyIter (.str z t)) (PIE X pins σ tg R) X.xe s := by
  cases ha : z.cps.all (· < 128)
  · exact wpAny_pyIter_wide ha (pi_one (tk := s.toks) I _ (turn_str _ z t "str_iterator" (.inr rfl)) ⟨_, Heap.get?_push_size _ rfl, rfl, rfl⟩ q)
  · exact wpAny_pyIter_ascii ha (pi_one (tk := s.toks) I _ (turn_str _ z t "str_ascii_iterator" (.inl rfl)) ⟨_, Heap.get?_push_size _ rfl, rfl, rfl⟩ q)
theorem pdi_any {tg : Expr} (he : PD X Z e te) : PDI X Z tg e (iAny te) := fun W tk => by
  refine ⟨fun pins s σ H R I h => ?_⟩
  obtain ⟨r, S, Q0, E0, RR, q, k, kE⟩ := h
  refine thn ((he W tk).run pins s σ H (fun v H1 => ∃ x S1, Go H S H1 S1 ∧ ST X.K Z S1 H1 ∧ DV X.K H1 x v ∧ (match x with
    | .ref l => ∃ ds, S1 l = some (.lst ds) ∧ Q0 ds (fun S => S l = some (.lst ds)) S1
    | .tup ds => Q0 ds (fun _ => True) S1
    | .rol ds => Q0 ds (fun _ => True) S1
    | .str z => Q0 (signs z) (fun _ => True) S1
    | _ => False)) I ⟨r, S, _, E0, RR, q, fun x S1 v H1 e1 st1 dv1 q1 => ⟨x, S1, e1, st1, dv1, q1⟩, kE⟩) fun u s1 ⟨v, H1, I1, rv, x, S1, e1, st1, dv1, q1⟩ => ?_
  cases x with
  | ref l =>
    obtain ⟨ds, sa, q2⟩ := q1
    rw [dv_ref.mp dv1] at rv
    obtain rfl : u = Value.ref l := rv
    obtain ⟨vs, h1, d1⟩ := sr_lst st1 sa
    exact it_list I1 (SqL.of h1) (k ds _ S1 _ H1 e1 st1 y_list q2)
  | tup ds =>
    obtain ⟨l, vs, ev, h1, d1⟩ := dv_tup.mp dv1
    rw [ev] at rv
    obtain rfl : u = Value.ref l := rv
    exact it_tup I1 h1 (k ds _ S1 _ H1 e1 st1 (y_tup h1 d1) q1)
  | rol ds =>
    obtain ⟨l, vs, ev, h1, d1⟩ := dv_rol.mp dv1
    rw [ev] at rv
    obtain rfl : u = Value.ref l := rv
    exact it_list I1 h1.sq (k ds _ S1 _ H1 e1 st1 (y_rol h1 d1) q1)
  | str z =>
    rw [dv_str.mp dv1] at rv
    obtain ⟨t, rfl⟩ := rv
    exact it_str I1 (k _ _ S1 _ H1 e1 st1 y_str q1)
  | _ => exact q1.elim
def RgOk (j : Int) : Prop := -(2 ^ 62) ≤ j ∧ j < 2 ^ 62
def iRg1 (ta : TDA) : TDI := fun r S Q E => ta r S (fun ds S1 => match ds with
  | [.int j] => RgOk j ∧ Q (rngD 0 j.toNat) (fun _ => True) S1
  | _ => False) E
def iRg2 (ta : TDA) : TDI := fun r S Q E => ta r S (fun ds S1 => match ds with
  | [.int i, .int j] => RgOk i ∧ RgOk j ∧ Q (rngD i (j - i).toNat) (fun _ => True) S1
  | _ => False) E
theorem pdi_range1 {tg : Expr} (hM : TxOk X.prog X.w X.K X.mg X.base Z tx M) (i : Nat) (hN : tx.bl i = some ("range" : Str)) (ha : PDA X Z [a] ta) (hg : Gl X "range" := by rfl) (hs : starEach [a] X.env = [(false, eval a X.env)] := by rfl) : PDI X Z tg (.Call (.Name "range" p) [a] [] pos) (iRg1 ta) := fun W tk => by
  refine PI.imp (pi_range1 hg (hM.bl i _ hN) (ha W tk) hs) fun σ H R h => ?_
  obtain ⟨r, S, Q0, E0, RR, q, k, kE⟩ := h
  refine ⟨r, S, _, E0, RR, q, fun ds S1 vs H1 e1 st1 dv1 q1 => ?_, kE⟩
  match ds, q1, dv1 with
  | [.int j], q1, dv1 =>
    exact ⟨j, dvs_intsE (ns := [j]) dv1, q1.1.1, q1.1.2, k _ _ S1 _ H1 e1 st1 y_rng q1.2⟩
theorem pdi_range2 {tg : Expr} (hM : TxOk X.prog X.w X.K X.mg X.base Z tx M) (i : Nat) (hN : tx.bl i = some ("range" : Str)) (ha : PDA X Z [a, b] ta) (hg : Gl X "range" := by rfl) (hs : starEach [a, b] X.env = [(false, eval a X.env), (false, eval b X.env)] := by rfl) (hs2 : starEach [b] X.env = [(false, eval b X.env)] := by rfl) : PDI X Z tg (.Call (.Name "range" p) [a, b] [] pos) (iRg2 ta) := fun W tk => by
  refine PI.imp (pi_range2 hg (hM.bl i _ hN) (ha W tk) hs hs2) fun σ H R h => ?_
  obtain ⟨r, S, Q0, E0, RR, q, k, kE⟩ := h
  refine ⟨r, S, _, E0, RR, q, fun ds S1 vs H1 e1 st1 dv1 q1 => ?_, kE⟩
  match ds, q1, dv1 with
  | [.int i, .int j], q1, dv1 =>
    exact ⟨i, j, dvs_intsE (ns := [i, j]) dv1, ⟨q1.1.1, q1.1.2, q1.2.1.1, q1.2.1.2⟩, k _ _ S1 _ H1 e1 st1 y_rng q1.2.2⟩

/-! ### for -/
def dFor (wi : TDI) (g : TDG) (tb : TDS) : TDS := fun D r S => wi r S (fun ds ok S1 => ∃ Pv : Nat → Env_ → DS → Prop, Pv 0 r S1 ∧ (∀ i r S, Pv i r S → ok S) ∧
  (∀ i d r S, ds[i]? = some d → Pv i r S → g d r S (fun r2 S2 => tb { D with nx := fun r' S' => ∃ S0, Sub S0 S' ∧ Pv (i + 1) r' S0, ct := fun r' S' => ∃ S0, Sub S0 S' ∧ Pv (i + 1) r' S0, bk := D.nx } r2 S2) (fun _ _ => False)) ∧
  ∀ r S, Pv ds.length r S → D.nx r S) (fun c S1 => D.ex c r S1)
theorem pds_for {tg iter : Expr} {wi : TDI} {g : TDG} {ts : List Nat} (hp : PassesOwn (model X.prog X.w) X.A X.env X.xe) (hc : X.calm = true) (hi : PDI X Z tg iter wi) (hg : PDG X Z tg ts g) (hb : PDSs X Z body tb)
    (hs : ∀ x, foldedSetIterable iter X.env x = pure x := by intro _; rfl) : PDS X Z (.For tg iter body [] pos) (dFor wi g tb) := fun W tk => by
  refine PS.imp (ps_for hp hc (hi W tk) (hg W tk) (hb W tk) hs) fun D σ H h => ?_
  obtain ⟨r, S, D0, R, q, k⟩ := h
  refine ⟨r, S, _, _, R, q, fun ds ok S1 J H1 e1 st1 yy q1 => ?_, k.exx R⟩
  obtain ⟨Pv, p0, pok, pt, pe⟩ := q1
  refine ⟨fun i m σ' H' => m = ds.length - i ∧ i ≤ ds.length ∧ ∃ r' S', Go H S H' S' ∧ Evo H1 H' ∧ Rel X.K Z r' S' σ' H' ∧ Pv i r' S', ⟨ds.length, by simp, Nat.zero_le _, r, S1, e1, Evo.refl _, R.go e1 st1, p0⟩, ?_⟩
  rintro i m σ' H' ⟨rfl, hi, r', S', g', ev', R', p'⟩
  obtain ⟨y1, y2⟩ := yy i S' H' ev' R'.st (pok i r' S' p')
  by_cases hlt : i < ds.length
  · have hd : ds[i]? = some ds[i] := List.getElem?_eq_getElem hlt
    obtain ⟨go, y1⟩ := y1 _ hd
    refine .inr ⟨go, fun σ2 H2 => ∃ r2 S2, Go H S H2 S2 ∧ Evo H1 H2 ∧ Rel X.K Z r2 S2 σ2 H2 ∧ Pv (i + 1) r2 S2, fun σ2 H2 h2 => ⟨ds.length - (i + 1), by omega, rfl, hlt, h2⟩, fun x H2 y => ?_⟩
    obtain ⟨dx, g2, st2⟩ := y1 x H2 y
    refine ⟨ds[i], r', S', _, _, R'.go g2 st2, dx, pt i _ r' S' hd p', fun r3 S3 σ3 H3 e3 R3 _ q3 => ?_, fun _ _ _ _ _ _ z => z.elim⟩
    have g3 := (g'.trans g2).trans e3
    have ev3 := (ev'.trans g2.evo).trans e3.evo
    refine ⟨r3, S3, _, R3, q3, ?_⟩
    refine ⟨fun r4 S4 σ4 H4 e4 R4 ⟨S0, hs, p4⟩ => ⟨r4, S0, (g3.trans e4).sub hs, ev3.trans e4.evo, ⟨R4.sl, R4.st.sub hs⟩, p4⟩, fun d S4 v H4 e4 => k.rt d S4 v H4 (g3.trans e4), fun r4 S4 σ4 H4 e4 => k.nx r4 S4 σ4 H4 (g3.trans e4),
      fun r4 S4 σ4 H4 e4 R4 ⟨S0, hs, p4⟩ => ⟨r4, S0, (g3.trans e4).sub hs, ev3.trans e4.evo, ⟨R4.sl, R4.st.sub hs⟩, p4⟩, fun c r4 S4 dd σ4 H4 e4 => k.ex c r4 S4 dd σ4 H4 (g3.trans e4)⟩
  · have e : i = ds.length := by omega
    subst e
    exact .inl ⟨y2 (Nat.le_refl _), k.nx r' S' σ' H' g' R' (pe r' S' p')⟩
end
end G

set_option Elab.async false
set_option linter.all false
set_option maxRecDepth 100000
set_option maxHeartbeats 4000000
/-! GH: comprehensions, errors, tries, several names at once, a def's promise from its body. -/
namespace G
open PySem PySem.Spec PyProof.Rows L2
section
variable {X : Cx} {Z : Zt} {tx : Tx} {M : List Ent} {L : Nat} {a b c e o : Expr} {es : List Expr} {te to ti : TD} {t u tb : TDS} {tt tt1 : TDT} {ta : TDA} {pos pos' p np : Pos} {x m : Str} {st : Stmt} {rest body suite : List Stmt}
/-! ### comprehensions -/
def PDTs (X : Cx) (Z : Zt) (ifs : List Expr) (t : TDT) : Prop := ∀ W, Takes X W → PTs X ifs (liftT X.K Z W t)
def dYes : TDT := fun _ S Q _ => Q true S
theorem PTs.imp {ifs : List Expr} {t t' : TT} (h : PTs X ifs t) (i : ∀ σ H Q, t' σ H Q → t σ H Q) : PTs X ifs t' := ⟨fun pins s σ H Q I q => h.run pins s σ H Q I (i σ H Q q)⟩
theorem pdts_nil : PDTs X Z [] dYes := fun W tk => PTs.imp pts_nil fun σ H Q h => by
  obtain ⟨r, S, Q0, E0, R, q, k, _⟩ := h
  exact k true S H Go.r R.st q
theorem pdts_one (h : PDT X Z c tt) : PDTs X Z [c] tt := fun W tk => pts_one (h W tk)
def wipeD (r : Env_) : List Nat → Env_
  | [] => r
  | v :: vs => (wipeD r vs).set v none
theorem SL.wipe {K : PySem.W.Frag} {H : Hp} {r : Env_} {σ : L2.St} (h : SL K H r σ) : ∀ vs, SL K H (wipeD r vs) (L2.wipe σ vs)
  | [] => h
  | v :: vs => by
    have ih := h.wipe vs
    refine ⟨by unfold wipeD L2.wipe; rw [List.length_set, List.length_set]; exact ih.len, fun i d q => ?_⟩
    unfold wipeD at q
    unfold L2.wipe
    by_cases hi : v = i
    · subst hi
      by_cases hv : v < (wipeD r vs).length
      · rw [List.getElem?_set_self hv] at q; cases q
      · rw [List.getElem?_eq_none (by simpa using hv)] at q; cases q
    · rw [List.getElem?_set_ne hi] at q ⊢
      exact ih.get i d q
theorem Keep.wipe {ts vs : List Nat} {σ σ' : L2.St} (h : Keep ts (L2.wipe σ vs) σ') (hs : ∀ i ∈ ts, i ∈ vs) : L2.wipe σ' vs = L2.wipe σ vs := by
  apply List.ext_getElem?
  intro j
  by_cases hj : j ∈ vs
  · have e : ∀ {τ : L2.St} {us : List Nat}, j ∈ us → (L2.wipe τ us)[j]? = if j < τ.length then some none else none := by
      intro τ us
      induction us with
      | nil => intro z; cases z
      | cons v us ih =>
        intro z
        unfold L2.wipe
        by_cases hv : v = j
        · subst hv
          by_cases hl : v < (L2.wipe τ us).length
          · rw [List.getElem?_set_self hl]
            rw [wipe_length] at hl
            rw [if_pos hl]
          · rw [List.getElem?_eq_none (by simpa using hl)]
            rw [wipe_length] at hl
            rw [if_neg hl]
        · rw [List.getElem?_set_ne hv]
          exact ih ((List.mem_cons.mp z).resolve_left fun q => hv q.symm)
    rw [e hj, e hj, h.1, wipe_length]
  · rw [wipe_out hj, h.2 j (fun z => hj (hs j z))]
def nofl : XD := fun _ _ => False
/-- the new list isn't told before it is whole: acc holds what is made so far -/
def dLc (wi : TDI) (g : TDG) (tt : TDT) (te : TD) (vs : List Nat) : TD := fun r S Q E => wi r S (fun ds ok S1 => ds.length ≤ sizeLine ∧ ∃ Pv : Nat → List D → DS → Prop, Pv 0 [] S1 ∧ (∀ i acc S, Pv i acc S → ok S) ∧
  (∀ i d acc S, ds[i]? = some d → Pv i acc S → g d (wipeD r vs) S (fun r2 S2 => tt r2 S2 (fun b S3 =>
    if b = true then te r2 S3 (fun y S4 => ∃ S0, Sub S0 S4 ∧ Pv (i + 1) (acc ++ [y]) S0) nofl else ∃ S0, Sub S0 S3 ∧ Pv (i + 1) acc S0) nofl) nofl) ∧
  ∀ acc S l, Pv ds.length acc S → S l = none → Q (.ref l) (put S l (.lst acc))) E
variable {elt tg iter tg1 iter1 : Expr} {ifs ifs1 : List Expr} {scope : Scope} {own : List (Str × Nat)} {wi wi1 : TDI} {g g1 : TDG} {ts ts1 : List Nat}
/-- what holds ahead of a turn -/
structure Turn0 (K : PySem.W.Frag) (Z : Zt) (r : Env_) (σ : L2.St) (H0 : Hp) (S0 : DS) (H1 : Hp) (Dl : Addr) (acc : List D) (S : DS) (H : Hp) : Prop where
  go : Go H0 S0 H S
  ev : Evo H1 H
  st : ST K Z S H
  sl : SL K H r σ
  no : S Dl = none
  at_ : ∃ vs, H Dl = some (.lst vs) ∧ DVs K H acc vs
theorem Turn0.step {K : PySem.W.Frag} {r : Env_} {σ : L2.St} {H0 : Hp} {S0 : DS} {H1 : Hp} {Dl : Addr} {acc : List D} {S S' S'' : DS} {H H' : Hp} (h : Turn0 K Z r σ H0 S0 H1 Dl acc S H) (g : Go H S H' S') (st : ST K Z S' H') (s : Sub S'' S') : Turn0 K Z r σ H0 S0 H1 Dl acc S'' H' := by
  obtain ⟨vs, e, d⟩ := h.at_
  refine ⟨(h.go.trans g).sub s, h.ev.trans g.evo, st.sub s, h.sl.mono g.evo, (g.sub s).fr Dl (by rw [e]; exact fun z => nomatch z) h.no, vs, g.un Dl _ e h.no (fun ps z => nomatch z), d.mono g.evo⟩
theorem Turn0.app {K : PySem.W.Frag} {r : Env_} {σ : L2.St} {H0 : Hp} {S0 : DS} {H1 : Hp} {Dl : Addr} {acc : List D} {S : DS} {H : Hp} {y : D} {v : V} (h : Turn0 K Z r σ H0 S0 H1 Dl acc S H) (n0 : H0 Dl = none) (dv : DV K H y v) :
    ∃ vs, H Dl = some (.lst vs) ∧ vs.length = acc.length ∧ Turn0 K Z r σ H0 S0 H1 Dl (acc ++ [y]) S (upd H Dl (.lst (vs ++ [v]))) := by
  obtain ⟨vs, e, d⟩ := h.at_
  have ev : Evo H (upd H Dl (.lst (vs ++ [v]))) := mut_evo e trivial
  refine ⟨vs, e, d.len.symm, ⟨⟨h.go.evo.trans ev, h.go.fr, fun b o e1 e2 e3 => ?_⟩, h.ev.trans ev, ⟨fun b o eb => ?_, h.st.tb.wrote e trivial (fun _ z => nomatch z)⟩, h.sl.mono ev, h.no, vs ++ [v], upd_same, (d.append (DVs.cons dv (dvs_nil.mpr rfl))).mono ev⟩⟩
  · rw [upd_ne (ne_of_none e1 n0)]
    exact h.go.un b o e1 e2 e3
  · exact (h.st.sr b o eb).mono ev (upd_ne fun z => by rw [z, h.no] at eb; cases eb)
theorem lift_lc {K : PySem.W.Frag} {W : WX} {te : TD} {vs : List Nat} {σ : L2.St} {H : Hp} {Q : VK} (hts : ∀ i ∈ ts, i ∈ vs) (h : lift K Z W (dLc wi g tt te vs) σ H Q) :
    tLc (liftI K Z W wi) (liftG K Z (fun _ _ _ _ => False) ts g) (liftT K Z (fun _ _ _ _ => False) tt) (lift K Z (fun _ _ _ _ => False) te) vs σ H Q := by
  obtain ⟨r, S, Q0, E0, R, q, k, kE⟩ := h
  refine ⟨r, S, _, E0, R, q, fun ds ok S1 J H1 e1 st1 yy q1 => ?_, kE⟩
  obtain ⟨hsz, Pv, p0, pok, pt, pe⟩ := q1
  intro Dl hDl
  have nS : S1 Dl = none := st1.free hDl
  have n0 : H Dl = none := by
    cases z : H Dl with
    | none => rfl
    | some o => exact absurd hDl (e1.evo.dom Dl (by rw [z]; exact fun z => nomatch z))
  refine ⟨fun i m H' => m = ds.length - i ∧ i ≤ ds.length ∧ ∃ acc S', acc.length ≤ i ∧ Turn0 K Z (wipeD r vs) (wipe σ vs) H S H1 Dl acc S' H' ∧ Pv i acc S',
    ⟨ds.length, by simp, Nat.zero_le _, [], S1, Nat.le_refl _, ⟨e1.trans (Go.new hDl), Evo.new hDl, st1.new hDl, ((R.sl.mono e1.evo).wipe vs).mono (Evo.new hDl), nS, [], upd_same, dvs_nil.mpr rfl⟩, p0⟩, ?_⟩
  rintro i m H' ⟨rfl, hi, acc, S', hacc, T', p'⟩
  obtain ⟨y1, y2⟩ := yy i S' H' T'.ev T'.st (pok i acc S' p')
  by_cases hlt : i < ds.length
  · have hd : ds[i]? = some ds[i] := List.getElem?_eq_getElem hlt
    obtain ⟨go, y1⟩ := y1 _ hd
    refine .inr ⟨go, fun H2 => ∃ acc2 S2, acc2.length ≤ i + 1 ∧ Turn0 K Z (wipeD r vs) (wipe σ vs) H S H1 Dl acc2 S2 H2 ∧ Pv (i + 1) acc2 S2, fun H2 ⟨acc2, S2, h1, h2, h3⟩ => ⟨ds.length - (i + 1), by omega, rfl, hlt, acc2, S2, h1, h2, h3⟩, fun x H2 y => ?_⟩
    obtain ⟨dx, g2, st2⟩ := y1 x H2 y
    have T2 := T'.step g2 st2 (Sub.refl _)
    refine ⟨ds[i], wipeD r vs, S', _, _, ⟨T2.sl, st2⟩, dx, pt i _ acc S' hd p', fun r3 S3 σ3 H3 e3 R3 kp q3 => ⟨kp.wipe hts, ?_⟩, fun _ _ _ _ _ _ z => z.elim⟩
    have T3 := T2.step e3 R3.st (Sub.refl _)
    refine ⟨r3, S3, _, _, R3, q3, fun b S4 H4 e4 st4 q4 => ?_, fun _ _ _ _ _ _ z => z.elim⟩
    have T4 := T3.step e4 st4 (Sub.refl _)
    cases b with
    | true =>
      refine iteT ⟨r3, S4, _, _, R3.go e4 st4, (if_pos rfl).mp q4, fun y' S5 v H5 e5 st5 dv5 ⟨S6, hs, p6⟩ => ?_, fun _ _ _ _ _ _ z => z.elim⟩
      obtain ⟨ws, h1, h2, T6⟩ := (T4.step e5 st5 hs).app n0 dv5
      exact ⟨ws, h1, by omega, acc ++ [y'], S6, by rw [List.length_append]; simp; omega, T6, p6⟩
    | false =>
      obtain ⟨S6, hs, p6⟩ := (if_neg Bool.false_ne_true).mp q4
      exact iteF ⟨acc, S6, by omega, T3.step e4 st4 hs, p6⟩
  · have e : i = ds.length := by omega
    subst e
    obtain ⟨ws, h1, h2⟩ := T'.at_
    refine .inl ⟨y2 (Nat.le_refl _), k (.ref Dl) (put S' Dl (.lst acc)) _ _ ⟨T'.go.evo, fun b h3 h4 => ?_, T'.go.un⟩ ⟨fun b o eb => ?_, T'.st.tb⟩ (dv_ref.mpr rfl) (pe acc S' Dl p' T'.no)⟩
    · rw [put_ne (fun z => h3 (by rw [z]; exact n0))]
      exact T'.go.fr b h3 h4
    · by_cases hb : b = Dl
      · subst hb
        rw [put_same] at eb
        cases eb
        exact ⟨ws, h1, h2⟩
      · rw [put_ne hb] at eb
        exact T'.st.sr b o eb
theorem takesF {X : Cx} : Takes X (fun _ _ _ _ => False) := L2.takes0
theorem pd_lc {te : TD} (hc : X.calm = true) (hN : X.N.Nodup) (hi : PDI X Z tg iter wi) (own : List (Str × Nat)) (ok : BlkOk X.N X.env.scope scope own) (hts : ∀ i ∈ ts, i ∈ own.map (·.2))
    (hg : ∀ (s : Shared) (H : Hp) (C : Addr) (cl : List (Str × Addr)) (fp : List Addr), PDG (X.blk s H scope (compEnvC scope cl C X.env) fp) Z tg ts g) (ht : ∀ (s : Shared) (H : Hp) (C : Addr) (cl : List (Str × Addr)) (fp : List Addr), PDTs (X.blk s H scope (compEnvC scope cl C X.env) fp) Z ifs tt)
    (he : ∀ (s : Shared) (H : Hp) (C : Addr) (cl : List (Str × Addr)) (fp : List Addr), PD (X.blk s H scope (compEnvC scope cl C X.env) fp) Z elt te) (hs : ∀ x, foldedSetIterable iter X.env x = pure x := by intro _; rfl) :
    PD X Z (.ListComp elt [⟨tg, iter, ifs, 0⟩] scope pos) (dLc wi g tt te (own.map (·.2))) := fun W tk =>
  PE.imp (pe_lc (g := liftG X.K Z (fun _ _ _ _ => False) ts g) (tt := liftT X.K Z (fun _ _ _ _ => False) tt) (te := lift X.K Z (fun _ _ _ _ => False) te) hc hN (hi W tk) ok (fun s H C cl fp => hg s H C cl fp _ takesF) (fun s H C cl fp => ht s H C cl fp _ takesF) (fun s H C cl fp => he s H C cl fp _ takesF) hs) fun _ _ _ h => lift_lc hts h
/-- name = [..] on one line -/
theorem pds_setLc {te : TD} {i : Nat} {y : Str} {py spos : Pos} (hc : X.calm = true) (hN : X.N.Nodup) (hi : PDI X Z tg iter wi) (own : List (Str × Nat)) (ok : BlkOk X.N X.env.scope scope own) (hts : ∀ i ∈ ts, i ∈ own.map (·.2))
    (hg : ∀ (s : Shared) (H : Hp) (C : Addr) (cl : List (Str × Addr)) (fp : List Addr), PDG (X.blk s H scope (compEnvC scope cl C X.env) fp) Z tg ts g) (ht : ∀ (s : Shared) (H : Hp) (C : Addr) (cl : List (Str × Addr)) (fp : List Addr), PDTs (X.blk s H scope (compEnvC scope cl C X.env) fp) Z ifs tt)
    (he : ∀ (s : Shared) (H : Hp) (C : Addr) (cl : List (Str × Addr)) (fp : List Addr), PD (X.blk s H scope (compEnvC scope cl C X.env) fp) Z elt te)
    (hsw : swapsWith (.ListComp elt [⟨tg, iter, ifs, 0⟩] scope pos) (some (.Name y py)) spos.line X.env = pure true) (hy : X.N[i]? = some y := by rfl) (hyl : X.env.scope.names.lookup y = some .local := by rfl) (hs : ∀ x, foldedSetIterable iter X.env x = pure x := by intro _; rfl) :
    PDS X Z (.Assign [.Name y py] (.ListComp elt [⟨tg, iter, ifs, 0⟩] scope pos) spos) (dAsg (dLc wi g tt te (own.map (·.2))) (gN i)) := fun W tk => by
  refine PS.imp (ps_setLc (g := liftG X.K Z (fun _ _ _ _ => False) ts g) (tt := liftT X.K Z (fun _ _ _ _ => False) tt) (te := lift X.K Z (fun _ _ _ _ => False) te) hc hN hy hyl hsw (hi W tk) ok (fun s H C cl fp => hg s H C cl fp _ takesF) (fun s H C cl fp => ht s H C cl fp _ takesF) (fun s H C cl fp => he s H C cl fp _ takesF) hs) fun D σ H h => ?_
  obtain ⟨r, S, D0, R, q, k⟩ := h
  refine lift_lc (W := W) hts ⟨r, S, _, _, R, q, fun d S1 v H1 e1 st1 dv1 q1 => ?_, k.exx R⟩
  exact k.nx _ S1 _ H1 e1 ⟨(R.sl.mono e1.evo).set i dv1, st1⟩ q1

/-! ### errors -/
def dRaise (i : Nat) : TDS := fun D r S => D.ex i r S
theorem pds_raise {mm : Str} {j : Nat} {p2 p1 : Pos} (hM : TxOk X.prog X.w X.K X.mg X.base Z tx M) (i : Nat) (hN : tx.xn i = some x) (hc : X.calm = true) (hg : Gl X x) (hdb : (x == ("__debug__" : Str)) = false := by decide) :
    PDS X Z (.Raise (some (.Call (.Name x p1) [.Constant (.str mm) j p2] [] p)) none pos) (dRaise i) := fun W tk => by
  obtain ⟨C, bmB, B, newId, initId, eu, hm, F, q, kC, hb, ht⟩ := (hM.xn i x hN).ok
  refine PS.imp (ps_raise hc tk (pmk_own F q hm kC (raises_own hb ht) hg hdb)) fun D σ H h => ?_
  obtain ⟨r, S, D0, R, q, k⟩ := h
  have z := k.ex i r S none σ H Go.r R q
  rw [eu] at z
  exact z
def dTry (tx : Tx) (i : Nat) (t u : TDS) : TDS := fun D r S => t { D with ex := fun c r' S' => ∃ b, tx.sb c i = some b ∧ (b = true → u { D with ex := fun _ _ _ => False } r' S') ∧ (b = false → D.ex c r' S') } r S
theorem pds_try {b₀ : Stmt} (hM : TxOk X.prog X.w X.K X.mg X.base Z tx M) (i : Nat) (hN : tx.xn i = some x) (hg : Gl X x)
    (hb : ∀ (pn : List (Addr × Obj)) (xe : Value → Shared → Prop), PassesOwn (model X.prog X.w) X.A X.env xe → PDSs (X.tr pn xe) Z body t)
    (hsu : ∀ (a : Addr) (oe : Obj) (pn : List (Addr × Obj)), PDSs (X.suite a ((a, oe) :: pn)) Z (b₀ :: suite) u)
    (hs : X.stack = X.env :: X.outer := by rfl) (hf : X.env.frame = some X.env.locals := by rfl) (hdb : (x == ("__debug__" : Str)) = false := by decide) :
    PDS X Z (.Try body [.ExceptHandler (some (.Name x np)) none (b₀ :: suite) pos'] [] [] pos) (dTry tx i t u) := fun W tk => by
  obtain ⟨C, bmB, B, newId, initId, eu, hm, F, q, kC, _, ht⟩ := (hM.xn i x hN).ok
  refine PS.imp (ps_try_only (c := .ref C) (tb := fun W => liftS X.K Z W t) (ts := fun _ _ _ => liftS X.K Z (fun _ _ _ _ => False) u) (Wout := W) hs hf ⟨hg, hdb, .inl hm⟩ tk (fun W pn xe tk' hp => hb pn xe hp W tk') (fun a oe cls d pn _ _ => hsu a oe pn _ takesF)) fun D σ H h => ?_
  obtain ⟨r, S, D0, R, q, k⟩ := h
  refine ⟨r, S, _, R, q, k.nx, k.rt, k.bk, k.ct, fun c r' S' dd σ' H' e R' ⟨b, h1, h2, h3⟩ => ⟨b, ?_, fun hb a na => ?_, fun hb => k.ex c r' S' dd σ' H' e R' (h3 hb)⟩⟩
  · rw [← eu]
    exact hM.sb c i b h1
  · have k' : Meant X.K Z W r' S' σ' H' D0 D := k.go e
    exact ⟨r', S', _, R', h2 hb, k'.nx, k'.rt, k'.bk, k'.ct, fun _ _ _ _ _ _ _ _ z => z.elim⟩

/-! ### several names at once -/
def dPar2 (i j : Nat) (ta : TDA) : TDS := fun D r S => ta r S (fun ds S1 => match ds with
  | [d, e] => D.nx ((r.set i (some d)).set j (some e)) S1
  | _ => False) (fun c S1 => D.ex c r S1)
theorem pds_par2 {i j : Nat} {x y : Str} {a b : Expr} {px py pt : Pos} {kt k2 pt2} (hc : X.calm = true) (hN : X.N.Nodup) (ha : PDA X Z [a, b] ta) (hw : swappedStores [.Tuple [.Name x px, .Name y py] kt pt] (.Tuple [a, b] k2 pt2) X.env = pure (some [x, y])) (hij : i ≠ j := by decide) (hi : X.N[i]? = some x := by rfl) (hj : X.N[j]? = some y := by rfl)
    (hx : X.env.scope.names.lookup x = some .local := by rfl) (hy : X.env.scope.names.lookup y = some .local := by rfl)
    (hs : swapsWithSole [.Tuple [.Name x px, .Name y py] kt pt] (.Tuple [a, b] k2 pt2) pos.line X.env = pure false := by rfl) :
    PDS X Z (.Assign [.Tuple [.Name x px, .Name y py] kt pt] (.Tuple [a, b] k2 pt2) pos) (dPar2 i j ta) := fun W tk => by
  refine PS.imp (ps_par hc hN hi hj hij hx hy (ha W tk) hw hs) fun D σ H h => ?_
  obtain ⟨r, S, D0, R, q, k⟩ := h
  refine ⟨r, S, _, _, R, q, fun ds S1 vs H1 e1 st1 dv1 q1 => ?_, k.exx R⟩
  match ds, q1, dv1 with
  | [d, e], q1, dv1 =>
    obtain ⟨v, r1, ev1, h1, h2⟩ := dvs_cons.mp dv1
    obtain ⟨w, r2, ev2, h3, h4⟩ := dvs_cons.mp h2
    rw [dvs_nil.mp h4] at ev2
    rw [ev2] at ev1
    exact ⟨v, w, ev1, k.nx _ S1 _ H1 e1 ⟨((R.sl.mono e1.evo).set i h1).set j h3, st1⟩ q1⟩
theorem ps_par3 {i j l : Nat} {x y z : Str} {a b c : Expr} {ta : TA} {px py pz pt : Pos} {kt k2 pt2} (hc : X.calm = true) (hN : X.N.Nodup) (hi : X.N[i]? = some x) (hj : X.N[j]? = some y) (hl : X.N[l]? = some z) (hij : i ≠ j) (hil : i ≠ l) (hjl : j ≠ l)
    (hx : X.env.scope.names.lookup x = some .local) (hy : X.env.scope.names.lookup y = some .local) (hz : X.env.scope.names.lookup z = some .local) (ha : PA X [a, b, c] ta)
    (hw : swappedStores [.Tuple [.Name x px, .Name y py, .Name z pz] kt pt] (.Tuple [a, b, c] k2 pt2) X.env = pure (some [x, y, z]))
    (hs : swapsWithSole [.Tuple [.Name x px, .Name y py, .Name z pz] kt pt] (.Tuple [a, b, c] k2 pt2) pos.line X.env = pure false := by rfl) :
    PS X (.Assign [.Tuple [.Name x px, .Name y py, .Name z pz] kt pt] (.Tuple [a, b, c] k2 pt2) pos) (fun D σ H => ta σ H fun vs H1 => ∃ v w u, vs = [v, w, u] ∧ D.nx (((σ.set i (some v)).set j (some w)).set l (some u)) H1) := by
  refine ⟨fun pins s σ H D I h => ?_⟩
  rw [exec_Assign_arm]
  refine wpAny_bind (wpAny_standAt ?_)
  rw [hs]
  refine wpAny_bind (wpAny_pure ?_)
  rw [if_neg (by decide)]
  refine wpAny_bind (Tuple_ (thn (ha.run _ pins s σ H _ I h) fun us s1 ⟨vs, H1, I1, r1, q1⟩ => ?_))
  obtain ⟨v, w, u, e1, q1⟩ := q1
  subst e1
  obtain ⟨u1, u2, u3, rfl, rv, rw', ru⟩ : ∃ u1 u2 u3, us = [u1, u2, u3] ∧ RelV v u1 ∧ RelV w u2 ∧ RelV u u3 := by
    cases r1 with
    | cons p q =>
      cases q with
      | cons p' q' =>
        cases q' with
        | cons p2 q2 =>
          cases q2
          exact ⟨_, _, _, rfl, p, p', p2⟩
  refine wpAny_newObj_type ?_ (by show 3 ≤ sizeLine; decide)
  have I2 : Inv X pins σ H1 { s1 with heap := s1.heap.push { cls := .type "tuple", data := .seq [u1, u2, u3].toArray } } := I1.kept (t' := s1.toks) fun b o e => Heap.get?_push_of_some _ e
  rw [hw]
  refine wpAny_bind (wpAny_pure ?_)
  show wpAny (model X.prog X.w) X.A (do rule "assign.swapped-stores"; let items ← unpackItems (.ref s1.heap.objs.size) 3 none; assignInOrder [fun v => bindName X.env z v, fun v => bindName X.env y v, fun v => bindName X.env x v] items.reverse; pure Flow.next) _ _ _
  refine wpAny_bind (wpAny_rule (wpAny_bind (unpackItems_tuple (items := #[u1, u2, u3]) (I.ok.hd hc) (IsTup.new s1.heap _) fun h' hx' => ?_)))
  have I3 := I2.kept (h' := h') (t' := s1.toks) fun b o e => hx' b o (Nat.ne_of_lt (Heap.lt_size e)) e
  show wpAny _ _ (assignInOrder [fun v => bindName X.env z v, fun v => bindName X.env y v, fun v => bindName X.env x v] [u3, u2, u1] >>= fun _ => pure Flow.next) _ _ _
  refine wpAny_bind (assignInOrder_cons (wpAny_bindName (store_ok I3 hN hl (.inl hz) ru (fun s2 I4 => ?_) (.inr hz))))
  refine assignInOrder_cons (wpAny_bindName (store_ok I4 hN hj (.inl hy) rw' (fun s3 I5 => ?_) (.inr hy)))
  refine assignInOrder_cons (wpAny_bindName (store_ok I5 hN hi (.inl hx) rv (fun s4 I6 => assignInOrder_nil (wpAny_pure ?_)) (.inr hx)))
  have e2 : ((σ.set l (some u)).set j (some w)).set i (some v) = ((σ.set i (some v)).set j (some w)).set l (some u) := by
    rw [List.set_comm _ _ (Ne.symm hjl), List.set_comm _ _ (Ne.symm hil), List.set_comm _ _ (Ne.symm hij)]
  rw [e2] at I6
  exact ⟨_, H1, I6, q1⟩
def dPar3 (i j l : Nat) (ta : TDA) : TDS := fun D r S => ta r S (fun ds S1 => match ds with
  | [d, e, f] => D.nx (((r.set i (some d)).set j (some e)).set l (some f)) S1
  | _ => False) (fun c S1 => D.ex c r S1)
theorem pds_par3 {i j l : Nat} {x y z : Str} {a b c : Expr} {px py pz pt : Pos} {kt k2 pt2} (hc : X.calm = true) (hN : X.N.Nodup) (ha : PDA X Z [a, b, c] ta) (hw : swappedStores [.Tuple [.Name x px, .Name y py, .Name z pz] kt pt] (.Tuple [a, b, c] k2 pt2) X.env = pure (some [x, y, z])) (hij : i ≠ j := by decide) (hil : i ≠ l := by decide) (hjl : j ≠ l := by decide)
    (hi : X.N[i]? = some x := by rfl) (hj : X.N[j]? = some y := by rfl) (hl : X.N[l]? = some z := by rfl)
    (hx : X.env.scope.names.lookup x = some .local := by rfl) (hy : X.env.scope.names.lookup y = some .local := by rfl) (hz : X.env.scope.names.lookup z = some .local := by rfl)
    (hs : swapsWithSole [.Tuple [.Name x px, .Name y py, .Name z pz] kt pt] (.Tuple [a, b, c] k2 pt2) pos.line X.env = pure false := by rfl) :
    PDS X Z (.Assign [.Tuple [.Name x px, .Name y py, .Name z pz] kt pt] (.Tuple [a, b, c] k2 pt2) pos) (dPar3 i j l ta) := fun W tk => by
  refine PS.imp (ps_par3 hc hN hi hj hl hij hil hjl hx hy hz (ha W tk) hw hs) fun D σ H h => ?_
  obtain ⟨r, S, D0, R, q, k⟩ := h
  refine ⟨r, S, _, _, R, q, fun ds S1 vs H1 e1 st1 dv1 q1 => ?_, k.exx R⟩
  match ds, q1, dv1 with
  | [d, e, f], q1, dv1 =>
    obtain ⟨v, r1, ev1, h1, h2⟩ := dvs_cons.mp dv1
    obtain ⟨w, r2, ev2, h3, h4⟩ := dvs_cons.mp h2
    obtain ⟨w3, r3, ev3, h5, h6⟩ := dvs_cons.mp h4
    rw [dvs_nil.mp h6] at ev3
    rw [ev3] at ev2
    rw [ev2] at ev1
    exact ⟨v, w, w3, ev1, k.nx _ S1 _ H1 e1 ⟨(((R.sl.mono e1.evo).set i h1).set j h3).set l h5, st1⟩ q1⟩
end

/-! ### a def's promise from its body -/
def startD (N : List Str) (ds : List D) : Env_ := ds.map some ++ List.replicate (N.length - ds.length) none
theorem sl_start {K : PySem.W.Frag} {H : Hp} {N : List Str} {ds : List D} {vs : List V} (h : DVs K H ds vs) : SL K H (startD N ds) (L2.start N vs) := by
  unfold startD L2.start
  rw [← h.len]
  refine ⟨by simp [h.len], fun i d q => ?_⟩
  by_cases hi : i < ds.length
  · rw [List.getElem?_append_left (by simpa using hi), List.getElem?_map] at q
    rw [List.getElem?_append_left (by simpa [← h.len] using hi), List.getElem?_map]
    cases e : ds[i]? with
    | none => rw [e] at q; cases q
    | some d' =>
      rw [e] at q
      cases q
      obtain ⟨v, h1, h2⟩ := h.get e
      exact ⟨v, by rw [h1]; rfl, h2⟩
  · rw [List.getElem?_append_right (by simpa using hi)] at q
    have := List.getElem?_eq_some_iff.mp q
    obtain ⟨h1, h2⟩ := this
    rw [List.getElem_replicate] at h2
    cases h2
/-- what is wanted at a def's end: less may be known -/
def fin (Q0 : QD) (E0 : XD) : EndsD := { nx := fun _ S' => ∃ S0, Sub S0 S' ∧ Q0 .non S0, rt := fun d S' => ∃ S0, Sub S0 S' ∧ Q0 d S0, ex := fun c _ S' => ∃ S0, Sub S0 S' ∧ E0 c S0 }
section
variable {P : Program} {w : World} {K : PySem.W.Frag} {mg : Str → Option Value} {base : Heap} {Z : Zt}
theorem fn_body {x qual : Str} {st : Stmt} {f : Addr} {fd : FuncData} {N ps : List Str} {L : Nat} {sp : SpD} (F : Fun K x qual st f fd) (Sc : FnScope N ps (defScope st)) (len : ∀ ds S Q E, sp ds S Q E → ds.length = ps.length) (t : TDS)
    (hd : ∀ (cdv : Value) (A : Around) (outer : List Env) (s : Shared) (H : Hp) (E : XK), Room L (A.deeper (envOfC qual (defScope st) s.heap.objs.size f cdv)) → PDSs (cxOf (L2.CX P w) P w K mg base N qual (defScope st) f cdv A outer s H E) Z (defBody st) t)
    (hb : ∀ ds S Q0 E0, sp ds S Q0 E0 → t (fin Q0 E0) (startD N ds) S) : FnOk P w K mg base (L2.CX P w) (L + 1) f fd ps (liftSp K Z sp) := by
  refine F.okX Sc (fun vs H Q E h => ?_) (fun cdv A outer s H vs Q E hr h => ?_)
  · obtain ⟨ds, S, Q0, E0, st', dv, h, _⟩ := h
    rw [← dv.len]
    exact len _ _ _ _ h
  · obtain ⟨ds, S, Q0, E0, st', dv, h, k, kE⟩ := h
    refine ⟨_, hd cdv A outer s H E hr _ (takes_of rfl rfl rfl rfl), startD N ds, S, fin Q0 E0, ⟨sl_start dv, st'⟩, hb ds S Q0 E0 h, ?_⟩
    exact ⟨fun r' S' σ' H' g R' ⟨S0, s0, q⟩ => k .non S0 .non H' (g.sub s0) (R'.st.sub s0) (dv_non.mpr rfl) q, fun d S' v H' g st dv ⟨S0, s0, q⟩ => k d S0 v H' (g.sub s0) (st.sub s0) dv q, fun _ _ _ _ _ _ z => z.elim, fun _ _ _ _ _ _ z => z.elim,
      fun c r' S' dd σ' H' g R' ⟨S0, s0, q⟩ => kE c S0 dd H' (g.sub s0) (R'.st.sub s0) q⟩
/-- without defaults -/
theorem FnD.mk0 {f : Addr} {fd : FuncData} {ps : List Str} {L : Nat} {e : Ent} (F : FnOk P w K mg base (L2.CX P w) L f fd ps (liftSp K Z e.sp)) (h : ps.length = e.ar) (hd : e.dfl = []) (b : Binds K fd ps []) : FnD P w K mg base Z L f e :=
  ⟨fd, ps, F, h, fun m hm => ⟨[], [], b, .nil, fun H => by rw [hd, List.drop_nil]; exact dvs_nil.mpr rfl⟩⟩
end
end G

set_option Elab.async false
set_option linter.all false
set_option maxRecDepth 100000
set_option maxHeartbeats 4000000
/-! GI: built-ins and methods of built-in types, by data; two clauses; enumerate, zip. -/
namespace G
open PySem PySem.Spec PyProof.Rows L2
section
variable {X : Cx} {Z : Zt} {tx : Tx} {M : List Ent} {L : Nat} {a b c e o : Expr} {es : List Expr} {te to ti : TD} {ta : TDA} {pos p apos cpos : Pos} {x m : Str}
/-! ### built-ins -/
def rAbs : RDC := fun ds S Q => match ds with
  | [.int i] => Q (.int (if i < 0 then -i else i)) S
  | _ => False
def rInt : RDC := fun ds S Q => match ds with
  | [.int i] => Q (.int i) S
  | [.bl b] => Q (.int (if b then 1 else 0)) S
  | [.str z] => ∃ n, PySem.intText? z = some n ∧ z.length ≤ 640 ∧ Q (.int n) S
  | _ => False
def rStr : RDC := fun ds S Q => match ds with
  | [.int i] => i.natAbs.log2 < 1920 ∧ Q (.str (toString i)) S
  | _ => False
def rLen : RDC := fun ds S Q => match ds with
  | [.str z] => z.length ≤ sizeLine ∧ Q (.int z.length) S
  | [.tup xs] => Q (.int xs.length) S
  | [.rol xs] => Q (.int xs.length) S
  | [.ref l] => ∃ xs, S l = some (.lst xs) ∧ Q (.int xs.length) S
  | _ => False
def rList : RDC := fun ds S Q => match ds with
  | [.tup xs] => ∀ l, S l = none → Q (.ref l) (put S l (.lst xs))
  | [.rol xs] => ∀ l, S l = none → Q (.ref l) (put S l (.lst xs))
  | [.ref p] => ∃ xs, S p = some (.lst xs) ∧ ∀ l, S l = none → Q (.ref l) (put S l (.lst xs))
  | _ => False
def rTuple : RDC := fun ds S Q => match ds with
  | [.tup xs] => Q (.tup xs) S
  | [.rol xs] => Q (.tup xs) S
  | [.ref p] => ∃ xs, S p = some (.lst xs) ∧ Q (.tup xs) S
  | _ => False
def rMax : RDC := fun ds S Q => match ds with
  | [.int i, .int j] => Q (.int (if j > i then j else i)) S
  | [.ref p] => ∃ ns : List Int, S p = some (.lst (ns.map D.int)) ∧ ns ≠ [] ∧ ∀ m, m ∈ ns → (∀ y, y ∈ ns → y ≤ m) → Q (.int m) S
  | _ => False
def rMin : RDC := fun ds S Q => match ds with
  | [.int i, .int j] => Q (.int (if j < i then j else i)) S
  | [.ref p] => ∃ ns : List Int, S p = some (.lst (ns.map D.int)) ∧ ns ≠ [] ∧ ∀ m, m ∈ ns → (∀ y, y ∈ ns → m ≤ y) → Q (.int m) S
  | _ => False
def rSum : RDC := fun ds S Q => match ds with
  | [.ref p] => ∃ ns : List Int, S p = some (.lst (ns.map D.int)) ∧ Q (.int ns.sum) S
  | _ => False
theorem one_of {K : PySem.W.Frag} {H : Hp} {d : D} {vs : List V} (h : DVs K H [d] vs) : ∃ v, vs = [v] ∧ DV K H d v := by
  obtain ⟨v, r, e, h1, h2⟩ := dvs_cons.mp h
  rw [dvs_nil.mp h2] at e
  exact ⟨v, e, h1⟩
theorem two_of {K : PySem.W.Frag} {H : Hp} {d f : D} {vs : List V} (h : DVs K H [d, f] vs) : ∃ v w, vs = [v, w] ∧ DV K H d v ∧ DV K H f w := by
  obtain ⟨v, r, e, h1, h2⟩ := dvs_cons.mp h
  obtain ⟨w, e2, h3⟩ := one_of h2
  rw [e2] at e
  exact ⟨v, w, e, h1, h3⟩
theorem cd_abs : CallD X Z (.builtin "abs") rAbs := by
  intro pins s σ H vs us Q I rv h
  obtain ⟨ds, S, Q0, st, dv, h, k⟩ := h
  match ds, h, dv with
  | [.int i], h, dv =>
    obtain ⟨v, rfl, dq⟩ := one_of dv
    rw [dv_int.mp dq] at rv
    exact call_abs pins s σ H _ us Q I rv ⟨i, rfl, k _ S _ H Go.r st (dv_int.mpr rfl) h⟩
theorem cd_int : CallD X Z (.type "int") rInt := by
  intro pins s σ H vs us Q I rv h
  obtain ⟨ds, S, Q0, st, dv, h, k⟩ := h
  match ds, h, dv with
  | [.int i], h, dv =>
    obtain ⟨v, rfl, dq⟩ := one_of dv
    rw [dv_int.mp dq] at rv
    exact call_int1 pins s σ H _ us Q I rv (.inl ⟨i, rfl, k _ S _ H Go.r st (dv_int.mpr rfl) h⟩)
  | [.bl i], h, dv =>
    obtain ⟨v, rfl, dq⟩ := one_of dv
    rw [dv_bl.mp dq] at rv
    exact call_int1 pins s σ H _ us Q I rv (.inr ⟨i, rfl, k _ S _ H Go.r st (dv_int.mpr rfl) h⟩)
  | [.str z], h, dv =>
    obtain ⟨v, rfl, dq⟩ := one_of dv
    rw [dv_str.mp dq] at rv
    obtain ⟨n, h1, h2, h3⟩ := h
    exact call_int_str pins s σ H _ us Q I rv ⟨z, n, rfl, h1, h2, k _ S _ H Go.r st (dv_int.mpr rfl) h3⟩
theorem cd_str : CallD X Z (.type "str") rStr := by
  intro pins s σ H vs us Q I rv h
  obtain ⟨ds, S, Q0, st, dv, h, k⟩ := h
  match ds, h, dv with
  | [.int i], h, dv =>
    obtain ⟨v, rfl, dq⟩ := one_of dv
    rw [dv_int.mp dq] at rv
    exact call_str_int pins s σ H _ us Q I rv ⟨i, rfl, h.1, k _ S _ H Go.r st (dv_str.mpr rfl) h.2⟩
theorem cd_len : CallD X Z (.builtin "len") rLen := by
  intro pins s σ H vs us Q I rv h
  obtain ⟨ds, S, Q0, st, dv, h, k⟩ := h
  match ds, h, dv with
  | [.str z], h, dv =>
    obtain ⟨v, rfl, dq⟩ := one_of dv
    rw [dv_str.mp dq] at rv
    exact call_len_str pins s σ H _ us Q I rv ⟨z, rfl, h.1, k _ S _ H Go.r st (dv_int.mpr rfl) h.2⟩
  | [.tup xs], h, dv =>
    obtain ⟨v, rfl, dq⟩ := one_of dv
    obtain ⟨q, ws, e1, h1, d1⟩ := dv_tup.mp dq
    rw [e1] at rv
    exact call_len_seq pins s σ H _ us Q I rv ⟨q, ws, rfl, .inr h1, by rw [← d1.len]; exact k _ S _ H Go.r st (dv_int.mpr rfl) h⟩
  | [.rol xs], h, dv =>
    obtain ⟨v, rfl, dq⟩ := one_of dv
    obtain ⟨q, ws, e1, h1, d1⟩ := dv_rol.mp dq
    rw [e1] at rv
    exact call_len_seq pins s σ H _ us Q I rv ⟨q, ws, rfl, .inl h1.sq, by rw [← d1.len]; exact k _ S _ H Go.r st (dv_int.mpr rfl) h⟩
  | [.ref l], h, dv =>
    obtain ⟨v, rfl, dq⟩ := one_of dv
    rw [dv_ref.mp dq] at rv
    obtain ⟨xs, sa, h⟩ := h
    obtain ⟨ws, h1, d1⟩ := sr_lst st sa
    exact call_len_seq pins s σ H _ us Q I rv ⟨l, ws, rfl, .inl (SqL.of h1), by rw [← d1.len]; exact k _ S _ H Go.r st (dv_int.mpr rfl) h⟩
theorem cd_list : CallD X Z (.type "list") rList := by
  intro pins s σ H vs us Q I rv h
  obtain ⟨ds, S, Q0, st, dv, h, k⟩ := h
  match ds, h, dv with
  | [.tup xs], h, dv =>
    obtain ⟨v, rfl, dq⟩ := one_of dv
    obtain ⟨q, ws, e1, h1, d1⟩ := dv_tup.mp dq
    rw [e1] at rv
    exact call_list_of pins s σ H _ us Q I rv ⟨q, ws, rfl, .inr h1, fun l hl => k _ _ _ _ (Go.made hl) (st.made (o := .lst xs) hl ⟨ws, upd_same, d1.mono (Evo.new hl)⟩) (dv_ref.mpr rfl) (h l (st.free hl))⟩
  | [.rol xs], h, dv =>
    obtain ⟨v, rfl, dq⟩ := one_of dv
    obtain ⟨q, ws, e1, h1, d1⟩ := dv_rol.mp dq
    rw [e1] at rv
    exact call_list_of pins s σ H _ us Q I rv ⟨q, ws, rfl, .inl h1.sq, fun l hl => k _ _ _ _ (Go.made hl) (st.made (o := .lst xs) hl ⟨ws, upd_same, d1.mono (Evo.new hl)⟩) (dv_ref.mpr rfl) (h l (st.free hl))⟩
  | [.ref r], h, dv =>
    obtain ⟨v, rfl, dq⟩ := one_of dv
    rw [dv_ref.mp dq] at rv
    obtain ⟨xs, sa, h⟩ := h
    obtain ⟨ws, h1, d1⟩ := sr_lst st sa
    exact call_list_of pins s σ H _ us Q I rv ⟨r, ws, rfl, .inl (SqL.of h1), fun l hl => k _ _ _ _ (Go.made hl) (st.made (o := .lst xs) hl ⟨ws, upd_same, d1.mono (Evo.new hl)⟩) (dv_ref.mpr rfl) (h l (st.free hl))⟩
theorem cd_tuple : CallD X Z (.type "tuple") rTuple := by
  intro pins s σ H vs us Q I rv h
  obtain ⟨ds, S, Q0, st, dv, h, k⟩ := h
  match ds, h, dv with
  | [.tup xs], h, dv =>
    obtain ⟨v, rfl, dq⟩ := one_of dv
    obtain ⟨q, ws, e1, h1, d1⟩ := dv_tup.mp dq
    rw [e1] at rv
    exact call_tuple_of pins s σ H _ us Q I rv ⟨q, ws, rfl, .inr ⟨h1, k _ S _ H Go.r st (dv_tup.mpr ⟨q, ws, rfl, h1, d1⟩) h⟩⟩
  | [.rol xs], h, dv =>
    obtain ⟨v, rfl, dq⟩ := one_of dv
    obtain ⟨q, ws, e1, h1, d1⟩ := dv_rol.mp dq
    rw [e1] at rv
    exact call_tuple_of pins s σ H _ us Q I rv ⟨q, ws, rfl, .inl ⟨h1.sq, fun l hl => k _ S _ _ (Go.new hl) (st.new hl) (dv_tup.mpr ⟨l, ws, rfl, .inl (.inl upd_same), d1.mono (Evo.new hl)⟩) h⟩⟩
  | [.ref r], h, dv =>
    obtain ⟨v, rfl, dq⟩ := one_of dv
    rw [dv_ref.mp dq] at rv
    obtain ⟨xs, sa, h⟩ := h
    obtain ⟨ws, h1, d1⟩ := sr_lst st sa
    exact call_tuple_of pins s σ H _ us Q I rv ⟨r, ws, rfl, .inl ⟨SqL.of h1, fun l hl => k _ S _ _ (Go.new hl) (st.new hl) (dv_tup.mpr ⟨l, ws, rfl, .inl (.inl upd_same), d1.mono (Evo.new hl)⟩) h⟩⟩
theorem cd_max (hc : X.calm = true) : CallD X Z (.builtin "max") rMax := by
  intro pins s σ H vs us Q I rv h
  obtain ⟨ds, S, Q0, st, dv, h, k⟩ := h
  match ds, h, dv with
  | [.int i, .int j], h, dv =>
    obtain ⟨v, w, rfl, d1, d2⟩ := two_of dv
    rw [dv_int.mp d1, dv_int.mp d2] at rv
    exact call_max2 hc pins s σ H _ us Q I rv ⟨i, j, rfl, k _ S _ H Go.r st (dv_int.mpr rfl) h⟩
  | [.ref r], h, dv =>
    obtain ⟨v, rfl, dq⟩ := one_of dv
    rw [dv_ref.mp dq] at rv
    obtain ⟨ns, sa, hne, h⟩ := h
    obtain ⟨ws, h1, d1⟩ := sr_lst st sa
    rw [dvs_intsE d1] at h1
    exact cr_max hc pins s σ H _ us Q I rv ⟨r, ns, rfl, SqL.of h1, List.length_pos_iff.mpr hne, fun m hm hy => k _ S _ H Go.r st (dv_int.mpr rfl) (h m hm hy)⟩
theorem cd_min (hc : X.calm = true) : CallD X Z (.builtin "min") rMin := by
  intro pins s σ H vs us Q I rv h
  obtain ⟨ds, S, Q0, st, dv, h, k⟩ := h
  match ds, h, dv with
  | [.int i, .int j], h, dv =>
    obtain ⟨v, w, rfl, d1, d2⟩ := two_of dv
    rw [dv_int.mp d1, dv_int.mp d2] at rv
    exact call_min2 hc pins s σ H _ us Q I rv ⟨i, j, rfl, k _ S _ H Go.r st (dv_int.mpr rfl) h⟩
  | [.ref r], h, dv =>
    obtain ⟨v, rfl, dq⟩ := one_of dv
    rw [dv_ref.mp dq] at rv
    obtain ⟨ns, sa, hne, h⟩ := h
    obtain ⟨ws, h1, d1⟩ := sr_lst st sa
    rw [dvs_intsE d1] at h1
    exact cr_min hc pins s σ H _ us Q I rv ⟨r, ns, rfl, SqL.of h1, List.length_pos_iff.mpr hne, fun m hm hy => k _ S _ H Go.r st (dv_int.mpr rfl) (h m hm hy)⟩
theorem cd_sum (hc : X.calm = true) : CallD X Z (.builtin "sum") rSum := by
  intro pins s σ H vs us Q I rv h
  obtain ⟨ds, S, Q0, st, dv, h, k⟩ := h
  match ds, h, dv with
  | [.ref r], h, dv =>
    obtain ⟨v, rfl, dq⟩ := one_of dv
    rw [dv_ref.mp dq] at rv
    obtain ⟨ns, sa, h⟩ := h
    obtain ⟨ws, h1, d1⟩ := sr_lst st sa
    rw [dvs_intsE d1] at h1
    exact cr_sum hc pins s σ H _ us Q I rv ⟨r, ns, rfl, SqL.of h1, k _ S _ H Go.r st (dv_int.mpr rfl) h⟩
/-- list(range(a, b)) -/
def dLRg2 (ta tb : TD) : TD := fun r S Q E => ta r S (fun x S1 => tb r S1 (fun y S2 => match x, y with
  | .int i, .int j => RgOk i ∧ RgOk j ∧ j - i ≤ 1000000 ∧ ∀ l, S2 l = none → Q (.ref l) (put S2 l (.lst (rngD i (j - i).toNat)))
  | _, _ => False) E) E
theorem dvs_rng {K : PySem.W.Frag} {H : Hp} (i : Int) (n : Nat) : DVs K H (rngD i n) ((List.range n).map fun k => V.int (i + (k : Nat))) := by
  have e : rngD i n = ((List.range n).map fun k => i + ((k : Nat) : Int)).map D.int := by
    unfold rngD
    rw [List.map_map]
    rfl
  rw [e]
  have e2 : ((List.range n).map fun k => V.int (i + (k : Nat))) = ((List.range n).map fun k => i + ((k : Nat) : Int)).map V.int := by
    rw [List.map_map]
    rfl
  rw [e2]
  exact dvs_ints _

/-! ### methods of texts and lists -/
abbrev RDM := D → List D → DS → QD → Prop
def liftM (K : PySem.W.Frag) (Z : Zt) (r : RDM) : V → List V → Hp → VK → Prop := fun v vs H Q => ∃ x ds S Q0, ST K Z S H ∧ DV K H x v ∧ DVs K H ds vs ∧ r x ds S Q0 ∧ ∀ d S' v' H', Go H S H' S' → ST K Z S' H' → DV K H' d v' → Q0 d S' → Q v' H'
def MtD (X : Cx) (Z : Zt) (id : String) (r : RDM) : Prop := MtR X id (liftM X.K Z r)
/-- o.m(..) of a text -/
def dSM (r2 : RDM) (to : TD) (ta : TDA) : TD := fun r S Q E => to r S (fun x S1 => (∃ z, x = .str z) ∧ ta r S1 (fun ds S2 => r2 x ds S2 Q) E) E
theorem lift_bm {K : PySem.W.Frag} {W : WX} {T : String} {r2 : RDM} {σ : L2.St} {H : Hp} {Q : VK} (P : D → DS → Prop) (hP : ∀ H S x v, ST K Z S H → DV K H x v → P x S → tyV K T v H)
    (h : lift K Z W (fun r S Q E => to r S (fun x S1 => P x S1 ∧ ta r S1 (fun ds S2 => r2 x ds S2 Q) E) E) σ H Q) : tBM K T (liftM K Z r2) (lift K Z W to) (liftA K Z W ta) σ H Q := by
  obtain ⟨r, S, Q0, E0, R, q, k, kE⟩ := h
  refine ⟨r, S, _, E0, R, q, fun x S1 v H1 e1 st1 dv1 q1 => ⟨hP H1 S1 x v st1 dv1 q1.1, ?_⟩, kE⟩
  exact ⟨r, S1, _, E0, R.go e1 st1, q1.2, fun ds S2 vs H2 e2 st2 dv2 q2 => ⟨x, ds, S2, Q0, st2, dv1.mono e2.evo, dv2, q2, fun d S' v' H' e' => k d S' v' H' ((e1.trans e2).trans e')⟩, fun c S' dd H' e' => kE c S' dd H' (e1.trans e')⟩
theorem pd_sm {name : Str} {id : String} {r2 : RDM} (slot : Slot "str" name id) (hty : typeOf (.builtin id) = pure (.type "method_descriptor")) (hm : MtD X Z id r2) (ho : PD X Z o to) (ha : PDA X Z (e :: es) ta)
    (hbase : attributeBase o name X.env (eval o X.env) = eval o X.env := by rfl)
    (hfew : ((backTo cpos (starEach (e :: es) X.env)).all (fun x => !x.1) && (backToKw cpos (keywordEach [] X.env)).all (fun x => x.1.isSome)
      && decide ((e :: es).length + ([] : List Keyword).length + (if ([] : List Keyword).isEmpty then 0 else 1) < 30)) = true := by rfl)
    (hline : (apos.endLine == cpos.line) = true := by rfl) (hs : starEach (e :: es) X.env = (false, eval e X.env) :: starEach es X.env := by rfl) (hplain : (backTo cpos (starEach es X.env)).any (·.1) = false := by rfl) :
    PD X Z (.Call (.Attribute o name apos) (e :: es) [] cpos) (dSM r2 to ta) := fun W tk =>
  PE.imp (pe_bm PySem.F.plainAttrs_str slot hty hm (ho W tk) (ha W tk) hbase hfew hline hs hplain) fun σ H Q h => lift_bm (T := "str") (fun x _ => ∃ z, x = D.str z) (fun H S x v _ dv hp => by
    obtain ⟨z, rfl⟩ := hp
    rw [dv_str.mp dv]
    rfl) h
/-- o.m(..) of a list -/
def dLM (r2 : RDM) (to : TD) (ta : TDA) : TD := fun r S Q E => to r S (fun x S1 => (∃ l ds, x = .ref l ∧ S1 l = some (.lst ds)) ∧ ta r S1 (fun ds S2 => r2 x ds S2 Q) E) E
theorem pd_lm {name : Str} {id : String} {r2 : RDM} (slot : Slot "list" name id) (hty : typeOf (.builtin id) = pure (.type "method_descriptor")) (hm : MtD X Z id r2) (ho : PD X Z o to) (ha : PDA X Z (e :: es) ta)
    (hbase : attributeBase o name X.env (eval o X.env) = eval o X.env := by rfl)
    (hfew : ((backTo cpos (starEach (e :: es) X.env)).all (fun x => !x.1) && (backToKw cpos (keywordEach [] X.env)).all (fun x => x.1.isSome)
      && decide ((e :: es).length + ([] : List Keyword).length + (if ([] : List Keyword).isEmpty then 0 else 1) < 30)) = true := by rfl)
    (hline : (apos.endLine == cpos.line) = true := by rfl) (hs : starEach (e :: es) X.env = (false, eval e X.env) :: starEach es X.env := by rfl) (hplain : (backTo cpos (starEach es X.env)).any (·.1) = false := by rfl) :
    PD X Z (.Call (.Attribute o name apos) (e :: es) [] cpos) (dLM r2 to ta) := fun W tk =>
  PE.imp (pe_bm PySem.F.plainAttrs_list slot hty hm (ho W tk) (ha W tk) hbase hfew hline hs hplain) fun σ H Q h => lift_bm (T := "list") (fun x S => ∃ l ds, x = D.ref l ∧ S l = some (.lst ds)) (fun H S x v st dv hp => by
    obtain ⟨l, ds, rfl, sa⟩ := hp
    rw [dv_ref.mp dv]
    obtain ⟨ws, h1, _⟩ := sr_lst st sa
    exact .inl ⟨rfl, ws, SqL.of h1⟩) h
def rPart : RDM := fun x ds S Q => match x, ds with
  | .str a, [.str b] => (b.length == 0) = false ∧ a.length ≤ sizeLine ∧ Q (.tup [.str (Txt.partition a b).1, .str (Txt.partition a b).2.1, .str (Txt.partition a b).2.2]) S
  | _, _ => False
theorem md_partition : MtD X Z "str.partition" rPart := by
  intro pins s σ H v vs u us Q I rx rv h
  obtain ⟨x, ds, S, Q0, st, dx, dv, h, k⟩ := h
  match x, ds, h, dx, dv with
  | .str a, [.str b], h, dx, dv =>
    obtain ⟨w, rfl, dw⟩ := one_of dv
    rw [dv_str.mp dx] at rx
    rw [dv_str.mp dw] at rv
    exact mt_partition pins s σ H _ _ u us Q I rx rv ⟨a, b, rfl, rfl, h.1, h.2.1, fun l hl => k _ S _ _ (Go.new hl) (st.new hl) (dv_tup.mpr ⟨l, _, rfl, .inl (.inl upd_same), DVs.cons (dv_str.mpr rfl) (DVs.cons (dv_str.mpr rfl) (DVs.cons (dv_str.mpr rfl) (dvs_nil.mpr rfl)))⟩) h.2.2⟩
def rStarts : RDM := fun x ds S Q => match x, ds with
  | .str a, [.str b] => Q (.bl (Txt.startswith a b)) S
  | _, _ => False
theorem md_startswith : MtD X Z "str.startswith" rStarts := by
  intro pins s σ H v vs u us Q I rx rv h
  obtain ⟨x, ds, S, Q0, st, dx, dv, h, k⟩ := h
  match x, ds, h, dx, dv with
  | .str a, [.str b], h, dx, dv =>
    obtain ⟨w, rfl, dw⟩ := one_of dv
    rw [dv_str.mp dx] at rx
    rw [dv_str.mp dw] at rv
    exact mt_startswith pins s σ H _ _ u us Q I rx rv ⟨a, b, rfl, rfl, k _ S _ H Go.r st (dv_bl.mpr rfl) h⟩
def rSIndex : RDM := fun x ds S Q => match x, ds with
  | .str a, [.str b] => ∃ i rest, Builtin.Str.occurrences a b 0 a.length 1 = i :: rest ∧ Q (.int (i : Nat)) S
  | _, _ => False
theorem md_sindex : MtD X Z "str.index" rSIndex := by
  intro pins s σ H v vs u us Q I rx rv h
  obtain ⟨x, ds, S, Q0, st, dx, dv, h, k⟩ := h
  match x, ds, h, dx, dv with
  | .str a, [.str b], h, dx, dv =>
    obtain ⟨w, rfl, dw⟩ := one_of dv
    rw [dv_str.mp dx] at rx
    rw [dv_str.mp dw] at rv
    obtain ⟨i, rest, h1, h2⟩ := h
    exact mt_sindex pins s σ H _ _ u us Q I rx rv ⟨a, b, i, rest, rfl, rfl, h1, k _ S _ H Go.r st (dv_int.mpr rfl) h2⟩
def rApp : RDM := fun x ds S Q => match x, ds with
  | .ref l, [d] => ∃ xs, S l = some (.lst xs) ∧ xs.length < sizeLine ∧ Q .non (put S l (.lst (xs ++ [d])))
  | _, _ => False
theorem md_append : MtD X Z "list.append" rApp := by
  intro pins s σ H v vs u us Q I rx rv h
  obtain ⟨x, ds, S, Q0, st, dx, dv, h, k⟩ := h
  match x, ds, h, dx, dv with
  | .ref l, [d], h, dx, dv =>
    obtain ⟨w, rfl, dw⟩ := one_of dv
    rw [dv_ref.mp dx] at rx
    obtain ⟨xs, sa, hz, h⟩ := h
    obtain ⟨ws, h1, d1⟩ := sr_lst st sa
    have ev : Evo H (upd H l (.lst (ws ++ [w]))) := mut_evo h1 trivial
    exact mt_append pins s σ H _ _ u us Q I rx rv ⟨l, ws, w, rfl, rfl, h1, by rw [← d1.len]; exact hz, k _ _ _ _ (Go.wrote (u' := .lst (xs ++ [d])) ev sa) (st.wrote h1 trivial ⟨_, upd_same, (d1.append (DVs.cons dw (dvs_nil.mpr rfl))).mono ev⟩) (dv_non.mpr rfl) h⟩

/-! ### in, not in -/
/-- one sign in a text; x in a list or tuple of plain data -/
def flatD : D → Bool
  | .non => true
  | .bl _ => true
  | .int _ => true
  | .str _ => true
  | _ => false
def inD (x : D) (xs : List D) : Bool := xs.any fun y => deq y x
def memIn (neg : Bool) : RD2 := fun x y S Q => match y with
  | .str z => (∃ c, x = .str ⟨#[c]⟩ ∧ Q (.bl (if neg then !decide (c ∈ z.cps.toList) else decide (c ∈ z.cps.toList))) S)
  | .tup ds => flatD x = true ∧ ds.all flatD = true ∧ Q (.bl (if neg then !inD x ds else inD x ds)) S
  | .ref l => ∃ ds, S l = some (.lst ds) ∧ flatD x = true ∧ ds.all flatD = true ∧ Q (.bl (if neg then !inD x ds else inD x ds)) S
  | _ => False
theorem flat_dv {K : PySem.W.Frag} {H : Hp} {x : D} {v : V} (h : DV K H x v) (f : flatD x = true) : flatV v = true := by
  cases x with
  | non => rw [dv_non.mp h]; rfl
  | bl b => rw [dv_bl.mp h]; rfl
  | int b => rw [dv_int.mp h]; rfl
  | str b => rw [dv_str.mp h]; rfl
  | _ => cases f
theorem eqV_dv {K : PySem.W.Frag} {H : Hp} {x y : D} {v w : V} (h : DV K H x v) (h' : DV K H y w) (f : flatD x = true) (f' : flatD y = true) : eqV v w = deq x y := by
  cases x <;> first | (cases f; done) | skip
  all_goals (cases y <;> first | (cases f'; done) | skip)
  all_goals (simp only [DV] at h h'; subst h; subst h'; simp [eqV, deq])
end
end G

set_option Elab.async false
set_option linter.all false
set_option maxRecDepth 100000
set_option maxHeartbeats 4000000
/-! GJ: in, not in; list(range(..)); two clauses; any over a text's signs; lambdas that capture nothing. -/
namespace G
open PySem PySem.Spec PyProof.Rows L2
section
variable {X : Cx} {Z : Zt} {tx : Tx} {M : List Ent} {L : Nat} {a b c e o : Expr} {es : List Expr} {te to ti ta' tb' : TD} {ta : TDA} {pos p apos cpos : Pos} {x m : Str}
/-! ### in, not in -/
theorem flat_dvs {K : PySem.W.Frag} {H : Hp} : ∀ {ds : List D} {vs : List V}, DVs K H ds vs → ds.all flatD = true → vs.all flatV = true
  | [], _, h, _ => by rw [dvs_nil.mp h]; rfl
  | d :: ds, _, h, f => by
    obtain ⟨v, r, rfl, h1, h2⟩ := dvs_cons.mp h
    rw [List.all_cons, Bool.and_eq_true] at f ⊢
    exact ⟨flat_dv h1 f.1, flat_dvs h2 f.2⟩
theorem inV_dv {K : PySem.W.Frag} {H : Hp} {x : D} {v : V} (h : DV K H x v) (f : flatD x = true) : ∀ {ds : List D} {vs : List V}, DVs K H ds vs → ds.all flatD = true → inV v vs = inD x ds
  | [], _, h', _ => by rw [dvs_nil.mp h']; rfl
  | d :: ds, _, h', f' => by
    obtain ⟨w, r, rfl, h1, h2⟩ := dvs_cons.mp h'
    rw [List.all_cons, Bool.and_eq_true] at f'
    have ih := inV_dv h f h2 f'.2
    unfold inV inD at ih ⊢
    rw [List.any_cons, List.any_cons, eqV_dv h1 h f'.1 f, ih]
theorem od_mem {neg : Bool} {op : Value → Value → Sem Value} (o1 : OpR X op (rIn X.K neg)) (o2 : OpR X op (fun x y H Q => ∃ (c : Nat) (z : Str), x = .str ⟨#[c]⟩ ∧ y = .str z ∧ Q (.bl (if neg then !decide (c ∈ z.cps.toList) else decide (c ∈ z.cps.toList))) H)) : OpD X Z op (memIn neg) := by
  intro pins s σ H v w u u' Q I rx ry h
  obtain ⟨x, y, S, Q0, st, hx, hy, h, k⟩ := h
  cases y with
  | str z =>
    obtain ⟨c, rfl, h⟩ : ∃ c, x = .str ⟨#[c]⟩ ∧ Q0 (.bl (if neg then !decide (c ∈ z.cps.toList) else decide (c ∈ z.cps.toList))) S := h
    rw [dv_str.mp hx] at rx
    rw [dv_str.mp hy] at ry
    exact o2 pins s σ H _ _ _ _ Q I rx ry ⟨c, z, rfl, rfl, k _ S _ H Go.r st (dv_bl.mpr rfl) h⟩
  | tup ds =>
    obtain ⟨f1, f2, h⟩ : flatD x = true ∧ ds.all flatD = true ∧ Q0 (.bl (if neg then !inD x ds else inD x ds)) S := h
    obtain ⟨q, vs, e1, h1, d1⟩ := dv_tup.mp hy
    rw [e1] at ry
    exact o1 pins s σ H _ _ _ _ Q I rx ry ⟨q, vs, rfl, .inr h1, flat_dv hx f1, flat_dvs d1 f2, by rw [inV_dv hx f1 d1 f2]; exact k _ S _ H Go.r st (dv_bl.mpr rfl) h⟩
  | ref l =>
    obtain ⟨ds, sa, f1, f2, h⟩ : ∃ ds, S l = some (.lst ds) ∧ flatD x = true ∧ ds.all flatD = true ∧ Q0 (.bl (if neg then !inD x ds else inD x ds)) S := h
    rw [dv_ref.mp hy] at ry
    obtain ⟨vs, h1, d1⟩ := sr_lst st sa
    exact o1 pins s σ H _ _ _ _ Q I rx ry ⟨l, vs, rfl, .inl (SqL.of h1), flat_dv hx f1, flat_dvs d1 f2, by rw [inV_dv hx f1 d1 f2]; exact k _ S _ H Go.r st (dv_bl.mpr rfl) h⟩
  | _ => exact h.elim
theorem od_in : OpD X Z (compareOp .In) (memIn false) := od_mem op_in_seq (by simpa using op_in_sign)
theorem od_notIn : OpD X Z (compareOp .NotIn) (memIn true) := od_mem op_notIn_seq (by simpa using op_notIn_sign)

/-! ### list(range(a, b)) -/
theorem pd_listRg2 {p2 pos2 : Pos} (hM : TxOk X.prog X.w X.K X.mg X.base Z tx M) (hc : X.calm = true) (i j : Nat) (hN : tx.bl i = some ("list" : Str)) (hN2 : tx.bl j = some ("range" : Str)) (hg : Gl X "list") (hg2 : Gl X "range") (ha : PD X Z a ta') (hb : PD X Z b tb')
    (na : starEach [a, b] X.env = (false, eval a X.env) :: starEach [b] X.env := by rfl) (nb : starEach [b] X.env = (false, eval b X.env) :: starEach [] X.env := by rfl) (hp : (backTo pos2 (starEach [b] X.env)).any (·.1) = false := by rfl)
    (nc : starEach [.Call (.Name "range" p2) [a, b] [] pos2] X.env = (false, eval (.Call (.Name "range" p2) [a, b] [] pos2) X.env) :: starEach [] X.env := by rfl) :
    PD X Z (.Call (.Name "list" p) [.Call (.Name "range" p2) [a, b] [] pos2] [] pos) (dLRg2 ta' tb') := fun W tk => by
  refine PE.imp (pe_listRg hc hg (hM.bl i _ hN) (prg_2 hg2 (hM.bl j _ hN2) (ha W tk) (hb W tk) na nb hp) nc) fun σ H Q h => ?_
  obtain ⟨r, S, Q0, E0, R, q, k, kE⟩ := h
  refine ⟨r, S, _, E0, R, q, fun x S1 v H1 e1 st1 dv1 q1 => ?_, kE⟩
  refine ⟨r, S1, _, E0, R.go e1 st1, q1, fun y S2 w H2 e2 st2 dv2 q2 => ?_, fun c S2 dd H2 e2 => kE c S2 dd H2 (e1.trans e2)⟩
  cases x with
  | int i =>
    cases y with
    | int j =>
      obtain ⟨r1, r2, r3, q3⟩ : RgOk i ∧ RgOk j ∧ j - i ≤ 1000000 ∧ ∀ l, S2 l = none → Q0 (.ref l) (put S2 l (.lst (rngD i (j - i).toNat))) := q2
      refine ⟨i, j, dv_int.mp dv1, dv_int.mp dv2, ⟨r1.1, r1.2, r2.1, r2.2, by omega⟩, fun l hl => ?_⟩
      exact k _ _ _ _ ((e1.trans e2).trans (Go.made hl)) (st2.made (o := .lst (rngD i (j - i).toNat)) hl ⟨_, upd_same, dvs_rng i _⟩) (dv_ref.mpr rfl) (q3 l (st2.free hl))
    | _ => exact q2.elim
  | _ => cases y <;> exact q2.elim

/-! ### two clauses -/
/-- [elt for tg in iter if .. for tg1 in iter1 if ..]: Pv ahead of the outer turns, Pw ahead of the inner ones of the i-th -/
def dLc2 (wi : TDI) (g : TDG) (tt : TDT) (wi1 : TDI) (g1 : TDG) (tt1 : TDT) (te : TD) (vs vs1 : List Nat) : TD := fun r S Q E => wi r S (fun ds ok S1 => ds.length ≤ sizeLine ∧ ∃ Pv : Nat → List D → DS → Prop, Pv 0 [] S1 ∧ (∀ i acc S, Pv i acc S → ok S) ∧
  (∀ i d acc S, ds[i]? = some d → Pv i acc S → g d (wipeD r vs) S (fun r2 S2 => tt r2 S2 (fun b S3 =>
    if b = true then wi1 r2 S3 (fun ds1 ok1 S4 => ∃ Pw : Nat → List D → DS → Prop, Pw 0 acc S4 ∧ (∀ j acc S, Pw j acc S → ok1 S ∧ acc.length < sizeLine) ∧
      (∀ j d1 acc S, ds1[j]? = some d1 → Pw j acc S → g1 d1 (wipeD r2 vs1) S (fun r5 S5 => tt1 r5 S5 (fun b S6 =>
        if b = true then te r5 S6 (fun y S7 => ∃ S0, Sub S0 S7 ∧ Pw (j + 1) (acc ++ [y]) S0) nofl else ∃ S0, Sub S0 S6 ∧ Pw (j + 1) acc S0) nofl) nofl) ∧
      ∀ acc S, Pw ds1.length acc S → ∃ S0, Sub S0 S ∧ Pv (i + 1) acc S0) nofl
    else ∃ S0, Sub S0 S3 ∧ Pv (i + 1) acc S0) nofl) nofl) ∧
  ∀ acc S l, Pv ds.length acc S → S l = none → Q (.ref l) (put S l (.lst acc))) E
variable {elt tg iter tg1 iter1 : Expr} {ifs ifs1 : List Expr} {scope : Scope} {own : List (Str × Nat)} {wi wi1 : TDI} {g g1 : TDG} {ts ts1 vs vs1 : List Nat} {tt tt1 : TDT}
theorem lift_lc2 {K : PySem.W.Frag} {W : WX} {te : TD} {σ : L2.St} {H : Hp} {Q : VK} (hts : ∀ i ∈ ts, i ∈ vs) (hts1 : ∀ i ∈ ts1, i ∈ vs1) (h : lift K Z W (dLc2 wi g tt wi1 g1 tt1 te vs vs1) σ H Q) :
    tLc2 (liftI K Z W wi) (liftG K Z (fun _ _ _ _ => False) ts g) (liftT K Z (fun _ _ _ _ => False) tt) (liftI K Z (fun _ _ _ _ => False) wi1) (liftG K Z (fun _ _ _ _ => False) ts1 g1) (liftT K Z (fun _ _ _ _ => False) tt1) (lift K Z (fun _ _ _ _ => False) te) vs vs1 σ H Q := by
  obtain ⟨r, S, Q0, E0, R, q, k, kE⟩ := h
  refine ⟨r, S, _, E0, R, q, fun ds ok S1 J H1 e1 st1 yy q1 => ?_, kE⟩
  obtain ⟨hsz, Pv, p0, pok, pt, pe⟩ := q1
  intro Dl hDl
  have nS : S1 Dl = none := st1.free hDl
  have n0 : H Dl = none := by
    cases z : H Dl with
    | none => rfl
    | some o => exact absurd hDl (e1.evo.dom Dl (by rw [z]; exact fun z => nomatch z))
  refine ⟨fun i m H' => m = ds.length - i ∧ i ≤ ds.length ∧ ∃ acc S', Turn0 K Z (wipeD r vs) (wipe σ vs) H S H1 Dl acc S' H' ∧ Pv i acc S',
    ⟨ds.length, by simp, Nat.zero_le _, [], S1, ⟨e1.trans (Go.new hDl), Evo.new hDl, st1.new hDl, ((R.sl.mono e1.evo).wipe vs).mono (Evo.new hDl), nS, [], upd_same, dvs_nil.mpr rfl⟩, p0⟩, ?_⟩
  rintro i m H' ⟨rfl, hi, acc, S', T', p'⟩
  obtain ⟨y1, y2⟩ := yy i S' H' T'.ev T'.st (pok i acc S' p')
  by_cases hlt : i < ds.length
  · have hd : ds[i]? = some ds[i] := List.getElem?_eq_getElem hlt
    obtain ⟨go, y1⟩ := y1 _ hd
    refine .inr ⟨go, fun H2 => ∃ acc2 S2, Turn0 K Z (wipeD r vs) (wipe σ vs) H S H1 Dl acc2 S2 H2 ∧ Pv (i + 1) acc2 S2, fun H2 ⟨acc2, S2, h2, h3⟩ => ⟨ds.length - (i + 1), by omega, rfl, hlt, acc2, S2, h2, h3⟩, fun x H2 y => ?_⟩
    obtain ⟨dx, g2, st2⟩ := y1 x H2 y
    have T2 := T'.step g2 st2 (Sub.refl _)
    refine ⟨ds[i], wipeD r vs, S', _, _, ⟨T2.sl, st2⟩, dx, pt i _ acc S' hd p', fun r3 S3 σ3 H3 e3 R3 kp q3 => ⟨kp.wipe hts, ?_⟩, fun _ _ _ _ _ _ z => z.elim⟩
    have T3 := T2.step e3 R3.st (Sub.refl _)
    refine ⟨r3, S3, _, _, R3, q3, fun b S4 H4 e4 st4 q4 => ?_, fun _ _ _ _ _ _ z => z.elim⟩
    have T4 := T3.step e4 st4 (Sub.refl _)
    cases b with
    | false =>
      obtain ⟨S6, hs, p6⟩ := (if_neg Bool.false_ne_true).mp q4
      exact iteF ⟨acc, S6, T3.step e4 st4 hs, p6⟩
    | true =>
      have R4 : Rel K Z r3 S4 σ3 H4 := R3.go e4 st4
      refine iteT ⟨r3, S4, _, _, R4, (if_pos rfl).mp q4, fun ds1 ok1 S5 J1 H5 e5 st5 yy1 q5 => ?_, fun _ _ _ _ _ _ z => z.elim⟩
      obtain ⟨Pw, w0, wok, wt, we⟩ := q5
      have T5 := T4.step e5 st5 (Sub.refl _)
      refine ⟨fun j k H' => k = ds1.length - j ∧ j ≤ ds1.length ∧ ∃ acc' S', Evo H5 H' ∧ Turn0 K Z (wipeD r vs) (wipe σ vs) H S H1 Dl acc' S' H' ∧ Pw j acc' S', ⟨ds1.length, by simp, Nat.zero_le _, acc, S5, Evo.refl _, T5, w0⟩, ?_⟩
      rintro j k' H6 ⟨rfl, hj, acc', S6, ev6, T6, w6⟩
      obtain ⟨z1, z2⟩ := yy1 j S6 H6 ev6 T6.st (wok j acc' S6 w6).1
      by_cases hlt1 : j < ds1.length
      · have hd1 : ds1[j]? = some ds1[j] := List.getElem?_eq_getElem hlt1
        obtain ⟨go1, z1⟩ := z1 _ hd1
        refine .inr ⟨go1, fun H7 => ∃ acc2 S2, Evo H5 H7 ∧ Turn0 K Z (wipeD r vs) (wipe σ vs) H S H1 Dl acc2 S2 H7 ∧ Pw (j + 1) acc2 S2, fun H7 ⟨acc2, S2, h1, h2, h3⟩ => ⟨ds1.length - (j + 1), by omega, rfl, hlt1, acc2, S2, h1, h2, h3⟩, fun x1 H7 y7 => ?_⟩
        obtain ⟨dx1, g7, st7⟩ := z1 x1 H7 y7
        have T7 := T6.step g7 st7 (Sub.refl _)
        have sl7 : SL K H7 (wipeD r3 vs1) (wipe σ3 vs1) := (R4.sl.mono (e5.evo.trans (ev6.trans g7.evo))).wipe vs1
        refine ⟨ds1[j], wipeD r3 vs1, S6, _, _, ⟨sl7, st7⟩, dx1, wt j _ acc' S6 hd1 w6, fun r8 S8 σ8 H8 e8 R8 kp8 q8 => ⟨kp8.wipe hts1, ?_⟩, fun _ _ _ _ _ _ z => z.elim⟩
        have T8 := T7.step e8 R8.st (Sub.refl _)
        refine ⟨r8, S8, _, _, R8, q8, fun b S9 H9 e9 st9 q9 => ?_, fun _ _ _ _ _ _ z => z.elim⟩
        have T9 := T8.step e9 st9 (Sub.refl _)
        have ev9 : Evo H5 H9 := ((ev6.trans g7.evo).trans e8.evo).trans e9.evo
        cases b with
        | true =>
          refine iteT ⟨r8, S9, _, _, R8.go e9 st9, (if_pos rfl).mp q9, fun y' Sa v Ha ea sta dva ⟨S0, hs, p6⟩ => ?_, fun _ _ _ _ _ _ z => z.elim⟩
          have Ta := T9.step ea sta hs
          obtain ⟨ws, h1, h2, Tb⟩ := Ta.app n0 dva
          exact ⟨ws, h1, by rw [h2]; exact (wok j acc' S6 w6).2, acc' ++ [y'], S0, (ev9.trans ea.evo).trans (mut_evo h1 trivial), Tb, p6⟩
        | false =>
          obtain ⟨S0, hs, p6⟩ := (if_neg Bool.false_ne_true).mp q9
          exact iteF ⟨acc', S0, ev9, T8.step e9 st9 hs, p6⟩
      · have e : j = ds1.length := by omega
        subst e
        obtain ⟨S0, hs, p6⟩ := we acc' S6 w6
        exact .inl ⟨z2 (Nat.le_refl _), acc', S0, T6.step Go.r T6.st hs, p6⟩
  · have e : i = ds.length := by omega
    subst e
    obtain ⟨ws, h1, h2⟩ := T'.at_
    refine .inl ⟨y2 (Nat.le_refl _), k (.ref Dl) (put S' Dl (.lst acc)) _ _ ⟨T'.go.evo, fun b h3 h4 => ?_, T'.go.un⟩ ⟨fun b o eb => ?_, T'.st.tb⟩ (dv_ref.mpr rfl) (pe acc S' Dl p' T'.no)⟩
    · rw [put_ne (fun z => h3 (by rw [z]; exact n0))]
      exact T'.go.fr b h3 h4
    · by_cases hb : b = Dl
      · subst hb
        rw [put_same] at eb
        cases eb
        exact ⟨ws, h1, h2⟩
      · rw [put_ne hb] at eb
        exact T'.st.sr b o eb
theorem pd_lc2 {te : TD} (hc : X.calm = true) (hN : X.N.Nodup) (hi : PDI X Z tg iter wi) (own : List (Str × Nat)) (ok : BlkOk X.N X.env.scope scope own) (hts : ∀ i ∈ ts, i ∈ own.map (·.2)) (hts1 : ∀ i ∈ ts1, i ∈ vs1) (hv : ∀ i ∈ vs1, i ∈ own.map (·.2))
    (hg : ∀ (s : Shared) (H : Hp) (C : Addr) (cl : List (Str × Addr)) (fp : List Addr), PDG (X.blk s H scope (compEnvC scope cl C X.env) fp) Z tg ts g) (ht : ∀ (s : Shared) (H : Hp) (C : Addr) (cl : List (Str × Addr)) (fp : List Addr), PDTs (X.blk s H scope (compEnvC scope cl C X.env) fp) Z ifs tt)
    (hi1 : ∀ (s : Shared) (H : Hp) (C : Addr) (cl : List (Str × Addr)) (fp : List Addr), PDI (X.blk s H scope (compEnvC scope cl C X.env) fp) Z tg1 iter1 wi1)
    (hg1 : ∀ (s : Shared) (H : Hp) (C : Addr) (cl : List (Str × Addr)) (fp : List Addr), PDG (X.blk s H scope (compEnvC scope cl C X.env) fp) Z tg1 ts1 g1) (ht1 : ∀ (s : Shared) (H : Hp) (C : Addr) (cl : List (Str × Addr)) (fp : List Addr), PDTs (X.blk s H scope (compEnvC scope cl C X.env) fp) Z ifs1 tt1)
    (he : ∀ (s : Shared) (H : Hp) (C : Addr) (cl : List (Str × Addr)) (fp : List Addr), PD (X.blk s H scope (compEnvC scope cl C X.env) fp) Z elt te) (hs : ∀ x, foldedSetIterable iter X.env x = pure x := by intro _; rfl) (hs1 : ∀ env x, foldedSetIterable iter1 env x = pure x := by intro _ _; rfl) :
    PD X Z (.ListComp elt [⟨tg, iter, ifs, 0⟩, ⟨tg1, iter1, ifs1, 0⟩] scope pos) (dLc2 wi g tt wi1 g1 tt1 te (own.map (·.2)) vs1) := fun W tk =>
  PE.imp (pe_lc2 (g := liftG X.K Z (fun _ _ _ _ => False) ts g) (tt := liftT X.K Z (fun _ _ _ _ => False) tt) (g1 := liftG X.K Z (fun _ _ _ _ => False) ts1 g1) (tt1 := liftT X.K Z (fun _ _ _ _ => False) tt1) (wi1 := liftI X.K Z (fun _ _ _ _ => False) wi1) (te := lift X.K Z (fun _ _ _ _ => False) te) hc hN (hi W tk) ok hv (fun s H C cl fp => hg s H C cl fp _ takesF) (fun s H C cl fp => ht s H C cl fp _ takesF)
    (fun s H C cl fp => hi1 s H C cl fp _ takesF) (fun s H C cl fp => hg1 s H C cl fp _ takesF) (fun s H C cl fp => ht1 s H C cl fp _ takesF) (fun s H C cl fp => he s H C cl fp _ takesF) hs hs1) fun _ _ _ h => lift_lc2 hts hts1 h
end
end G

set_option Elab.async false
set_option linter.all false
set_option maxRecDepth 100000
set_option maxHeartbeats 4000000
/-! GK: any over a text's signs, the test may read globals; lambdas that capture nothing. -/
namespace G
open PySem PySem.Spec PyProof.Rows L2 GxR
section
variable {X : Cx} {pins : List (Addr × Obj)} {σ : L2.St} {H : Hp} {s : Shared}
/-- the element: a test of the sign c; globals may be read -/
def EltG (prog : Program) (w : World) (mg : Str → Option Value) (scope : Scope) (x : Str) (elt : Expr) (pb : Nat → Bool) : Prop :=
  ∀ (cenv : Env) (A' : Around) (E' : Value → Shared → Prop) (c : Nat) (t : Tok) (s₂ : Shared) (m₂ : Str → Option Value), cenv.scope = scope → cenv.globals = mainGlobals → s₂.heap.Ns mainGlobals mg → s₂.heap.Ns cenv.locals m₂ → m₂ x = some (.str ⟨#[c]⟩ t) →
    wpAny (model prog w) A' (eval elt cenv) (fun y s₃ => y = .bool (pb c) ∧ Keeps s₂ s₃) E' s₂
/-- x not in NAME, a module's text -/
theorem elt_notIn_glob {prog : Program} {w : World} {mg : Str → Option Value} {scope : Scope} {x y : Str} {z : Str} {tz : Tok} {p1 p2 p3 : Pos} (hm : mg y = some (.str z tz)) (hk : scope.kind = .function) (hl : scope.names.lookup x = some .local) (hy : scope.names.lookup y = some .globalImplicit)
    (hd : (x == ("__debug__" : Str)) = false := by decide) (hd2 : (y == ("__debug__" : Str)) = false := by decide) :
    EltG prog w mg scope x (.Compare (.Name x p1) [.NotIn] [.Name y p2] p3) (fun c => !decide (c ∈ z.cps.toList)) := by
  intro cenv A' E' c t s₂ m₂ hs hg hN hn hv
  refine wpAny_Compare1 ?_
  refine wpAny_Name (wpAny_loadName_local (by rw [hs]; exact hk) (show cenv.scope.names.lookup x = some .local by rw [hs]; exact hl) hn hv ?_) hd
  refine Calls.Name_function_global (by rw [hs]; exact hk) (show cenv.scope.names.lookup y = some .globalImplicit by rw [hs]; exact hy) (Calls.loadGlobal_global (by rw [hg]; exact hN) hm ?_) hd2
  refine PyProof.Rows.notIn_str ⟨?_, keeps_tok _ _⟩
  rw [PySem.StrLaws.found_one z c]
theorem Ns.at_ {h h' : Heap} {d : Addr} {m : Str → Option Value} (hn : h.Ns d m) (k : ∀ o, h.get? d = some o → h'.get? d = some o) : h'.Ns d m := by
  obtain ⟨ob, es, ep, ho, r⟩ := hn
  exact ⟨ob, es, ep, k _ ho, r⟩
theorem gen_strG {c P : Addr} {elt iter : Expr} {x : Str} {px gpos : Pos} {scope : Scope} {pb : Nat → Bool} {te : TE} {k : Nat} {Q' : Value → Shared → Prop} {R : Str → Hp → Prop}
    (hr : Room k X.A) (TB : GxR.TabB X.base X.mg c P) (hcode : X.env.code = .ref c) (S : GenS X.env scope x) (hi : PE X iter te) (hel : EltG X.prog X.w X.mg scope x elt pb)
    (hs : ∀ v, genFold iter X.env v = pure v) (I : Inv X pins σ H s) (h : te σ H fun v H1 => ∃ a : Str, v = .str a ∧ TabG H1 P ∧ R a H1)
    (hQ : ∀ a H1 g s5, R a H1 → Ready X pins σ H1 P a pb g s5 → Q' (.ref g) s5) :
    wpAny (model X.prog X.w) X.A (eval (.GeneratorExp elt [⟨.Name x px, iter, [], 0⟩] scope gpos) X.env) Q' X.xe s := by
  refine wpAny_GeneratorExp_walksQ hr.hd S.co (closure_ok S.free) S.cell S.dot S.loc S.kind (by have := hr.dp; omega) ?_ hs
  refine thn (hi.run pins s σ H _ I h) fun xv s1 ⟨v, H1, I1, r1, q1⟩ => ?_
  obtain ⟨a, rfl, ⟨ps, hP, ht⟩, q1⟩ := q1
  obtain ⟨t, rfl⟩ := _root_.id r1
  refine wpAny_pyIter_str fun o St W hst => ?_
  have hPs : s1.heap.get? P = some { cls := .none, data := .fields ps } := I1.hok P _ hP
  have hPlt : P < s1.heap.objs.size := Heap.lt_size hPs
  have hP2 : (s1.heap.push o).get? P = some { cls := .none, data := .fields ps } := Heap.get?_push_of_some _ hPs
  have cd : PySem.W.CodeHd (s1.heap.push o) c P := TB.code.keeps fun b u e => Heap.get?_push_of_some _ (I1.bk b u e)
  have lim2 : (s1.heap.push o).NoLimit := I1.nolimit.push o
  have ng0 : (s1.heap.push o).Ns mainGlobals X.mg := (I1.mod.glob.keeps I1.bk).push o
  have cont : ∀ (code : Value) (h3 : Heap) (tk : Nat) (ps' : Array Value), Heap.ExtBut P (s1.heap.push o) h3 → (s1.heap.push o).objs.size ≤ h3.objs.size → h3.get? P = some { cls := .none, data := .fields ps' } → (∃ more, ps' = ps ++ more) → TriplesOk ps'.toList →
      wpAny (model X.prog X.w) X.A (builtinsFor X.env.globals X.env.builtins) (fun bi s₄ =>
        ∃ Ia fp wr n₀ Pf St₀ pz F, Value.ref s1.heap.objs.size = .ref Ia ∧ (∀ A' : Around, A'.handled = none → Walks X.prog X.w A' Ia fp wr n₀ Pf St₀) ∧ St₀ 0 s₄.heap ∧ (∀ b ∈ fp, b < s₄.heap.objs.size) ∧ s₄.heap.NoLimit ∧ cStatics ∉ wr ∧
          (∀ href : Heap, (∀ b o, s₄.heap.get? b = some o → href.get? b = some o) →
            QuietGen X.prog X.w (genEnv scope (cloFrom X.env.cells scope.names []) s₄.heap.objs.size code bi X.env) x [] elt (List.range s₄.heap.objs.size) wr Pf pz F href) ∧
          (∀ a h₅ tk gs, gs.bare = true → s₄.heap.objs.size < a → h₅.objs.size = a + 1 → (∀ b o, s₄.heap.get? b = some o → h₅.get? b = some o) →
            WalksS X.prog X.w X.A.in4 a (a :: s₄.heap.objs.size :: List.range s₄.heap.objs.size) (s₄.heap.objs.size :: wr) (GenOnlyQ s₄.gens.size) (passing pz n₀ 0).length
              (fun j y => ∃ i, (passing pz n₀ 0)[j]? = some i ∧ F i y) (GenAt X.prog X.w X.A.in4 a s₄.gens.size s₄.heap.objs.size (List.range s₄.heap.objs.size) wr pz n₀ F) →
            GenAt X.prog X.w X.A.in4 a s₄.gens.size s₄.heap.objs.size (List.range s₄.heap.objs.size) wr pz n₀ F 0 { s₄ with gens := s₄.gens.push gs, toks := tk, heap := h₅ } →
            Q' (.ref a) { s₄ with gens := s₄.gens.push gs, toks := tk, heap := h₅ })) X.xe { s1 with heap := h3, toks := tk } := by
    intro code h3 tk ps' hx hsz hP3 hmore ht3
    have ng3 : h3.Ns mainGlobals X.mg := ng0.extBut hx TB.gP
    have ngl : mainGlobals < s1.heap.objs.size := (I1.mod.glob.keeps I1.bk).lt
    obtain ⟨bm, ob, e1, e2, e3, e4, e5, e6, e7, e8⟩ := TB.bm
    have hcP : cStatics ≠ P := fun e => by
      obtain ⟨_, hns, _⟩ := I1.nolimit
      obtain ⟨o', es, ep, ho, hd, _⟩ := hns
      rw [e, hPs] at ho
      cases ho
      cases hd
    have hcl : cStatics < s1.heap.objs.size := let ⟨_, hns, _⟩ := I1.nolimit; hns.lt
    have sz2 : (s1.heap.push o).objs.size = s1.heap.objs.size + 1 := Heap.size_push ..
    have keep3 : ∀ b u, b ≠ P → s1.heap.get? b = some u → h3.get? b = some u := fun b u hb e => hx b u hb (Heap.get?_push_of_some _ e)
    refine wpAny_builtinsFor (m := X.mg) (by rw [I1.ok.glob]; exact ng3) e1 e2 (keep3 _ _ e4 (I1.bk _ _ e5)) e6 e7 e8 ?_
    refine ⟨s1.heap.objs.size, [s1.heap.objs.size], [s1.heap.objs.size], a.cps.size, SignAt a, St, (fun _ => true), (fun i y => ∃ cc, a.cps[i]? = some cc ∧ y = .bool (pb cc)), rfl, W, ?_, ?_, lim2.extBut hx hcP, ?_, ?_, ?_⟩
    · refine (W X.A hr.hd).frame _ _ _ hst fun b hb u e => hx b u (fun z => ?_) e
      rcases List.mem_cons.mp hb with z2 | z2
      · exact Nat.ne_of_lt hPlt (z.symm.trans z2)
      · cases z2
    · intro b hb
      rcases List.mem_cons.mp hb with z | z
      · rw [z]
        show s1.heap.objs.size < h3.objs.size
        omega
      · cases z
    · intro z
      rcases List.mem_cons.mp z with z | z
      · exact Nat.ne_of_lt hcl z
      · cases z
    · intro href hhref
      refine ⟨fun A' E' i v s₂ m₂ hA hPv hn hm hk => ?_, fun A' E' i v s₂ m₂ hA hPv hp hn hm hk => ?_⟩
      · simp only [List.forIn_nil]
        exact wpAny_pure ⟨rfl, keeps_refl _⟩
      · obtain ⟨cc, u, hcc, rfl⟩ := hPv
        have ng2 : s₂.heap.Ns mainGlobals X.mg := Ns.at_ (Ns.at_ ng3 (fun o e => hhref _ o e)) fun o e => hk mainGlobals (List.mem_range.mpr (Nat.lt_of_lt_of_le ngl (by show s1.heap.objs.size ≤ h3.objs.size; omega))) (fun z => by
          rcases List.mem_cons.mp z with z | z
          · exact Nat.ne_of_lt ngl z
          · cases z) o e
        exact wpAny_mono (hel _ A' E' cc u s₂ m₂ rfl I1.ok.glob ng2 hn hm) (fun y s3 r => ⟨⟨cc, hcc, r.1⟩, r.2⟩) fun _ _ e => e
    · intro g h5 tk5 gs hgb hag hsz5 hk5 W5 hat
      simp only [GxR.passing_true, List.length_range] at W5
      refine hQ a H1 g _ q1 ⟨_, _, _, _, _, W5.in4_1, hat, ?_, fun s' hm => ?_⟩
      · intro j y sj Qj Ej hy hQj
        obtain ⟨i, hij, cc, hcc, rfl⟩ := hy
        obtain ⟨hj, ej⟩ := List.getElem?_eq_some_iff.mp hij
        rw [List.getElem_range] at ej
        subst ej
        have e9 : a.cps.toList[j]? = some cc := by rw [Array.getElem?_toList]; exact hcc
        have hQ2 : Qj (trF pb a.cps.toList j) sj := hQj
        rw [trF_some e9] at hQ2
        exact wpAny_truthy_bool hQ2
      · obtain ⟨more, em⟩ := hmore
        have nwr : ∀ b u, s1.heap.get? b = some u → b ∉ h3.objs.size :: [s1.heap.objs.size] := fun b u e hb => by
          have hl := Heap.lt_size e
          rcases List.mem_cons.mp hb with z | z
          · rw [z] at hl
            have h9 : (h3.objs.size : Nat) < s1.heap.objs.size := hl
            omega
          · rcases List.mem_cons.mp z with z | z
            · rw [z] at hl
              exact Nat.lt_irrefl _ hl
            · cases z
        have J := inv_tab (more := more) (h' := s'.heap) (g' := s'.gens) (d' := s'.drawn) (t' := s'.toks) I1 hP (fun b u hb e => hm.heap b u (nwr b u e) (hk5 b u (keep3 b u hb e)))
          (by rw [← em]; exact hm.heap P _ (nwr P _ hPs) (hk5 P _ hP3)) (AllBare.movedS (I1.bare.push hgb) hm)
        rw [sh_eta s1 s' hm.os] at J
        refine ⟨upd H1 P (.tbl (ps ++ more)), ⟨⟨ps ++ more, upd_same, by rw [← em]; exact ht3⟩, fun b hb => upd_ne hb⟩, J⟩
  refine ⟨lim2, ?_⟩
  cases hf : codeAmong gpos ps.toList with
  | none =>
    refine wpAny_genexprCodeX hcode (cd.code hP2 ht) (cd.tab hP2) hf fun c' h' tk hx hge hlt hco' _ htab' _ => ?_
    obtain ⟨o1, vs, f1, tf, fl, tg, inF, tx, tt, op, _, _, _, _, _, _, _, _, _, htr, _⟩ := hco'
    exact cont _ h' tk _ hx (Nat.le_trans hge (Nat.le_of_lt hlt)) htab'.2 ⟨_, rfl⟩ htr
  | some cv =>
    refine wpAny_genexprCode_hit hcode (cd.code hP2 ht) hf ?_
    exact cont cv (s1.heap.push o) s1.toks ps (Heap.ExtBut.refl _ _) (Nat.le_refl _) hP2 ⟨#[], by simp⟩ ht
theorem pe_anyG {c P : Addr} {elt iter : Expr} {x : Str} {px p pos gpos : Pos} {scope : Scope} {pb : Nat → Bool} {te : TE} {k : Nat}
    (hr : Room k X.A) (hg : Gl X "any") (hm : X.mg "any" = none) (TB : GxR.TabB X.base X.mg c P) (hcode : X.env.code = .ref c) (S : GenS X.env scope x) (hi : PE X iter te) (hel : EltG X.prog X.w X.mg scope x elt pb)
    (hs : ∀ v, genFold iter X.env v = pure v)
    (he : starEach [.GeneratorExp elt [⟨.Name x px, iter, [], 0⟩] scope gpos] X.env = (false, eval (.GeneratorExp elt [⟨.Name x px, iter, [], 0⟩] scope gpos) X.env) :: starEach [] X.env := by rfl) :
    PE X (.Call (.Name "any" p) [.GeneratorExp elt [⟨.Name x px, iter, [], 0⟩] scope gpos] [] pos) (tAnyS P pb te) := by
  refine ⟨fun pins s σ H Q I h => ?_⟩
  refine wpAny_Call_Name_kw (ld_blt I hg hm boot_any ?_)
  refine PyProof.Rows.callWith_builtin1 ?_ he (by rfl)
  rw [he]
  show wpAny _ _ (spliced ((false, eval (.GeneratorExp elt [⟨.Name x px, iter, [], 0⟩] scope gpos) X.env) :: backTo pos (starEach [] X.env))) _ _ s
  refine Calls.spliced_cons (gen_strG (R := fun a H1 => ∀ H2, Tabbed P H1 H2 → Q (.bl (a.cps.toList.any pb)) H2) hr TB hcode S hi hel hs I h fun a H1 g s5 hR hG => ?_)
  obtain ⟨fp, wr, G, F, St, W, hst, htr, hI⟩ := hG
  refine Calls.spliced_nil ?_
  refine call_any_walkS (W.self 0 _ _ _ hst ⟨g, fp, wr, G, _, F, St, _, rfl, W, hst, htr, fun s' hmv => ?_⟩)
  obtain ⟨H2, hT, J⟩ := hI s' hmv
  refine ⟨.bl _, H2, J, rfl, ?_⟩
  rw [any_signs a pb]
  exact hR H2 hT
end
section
variable {X : Cx} {Z : Zt} {tx : Tx} {M : List Ent}
/-- a table has grown -/
theorem tabbed_st {K : PySem.W.Frag} {P : Addr} {H H' : Hp} {S : DS} (st : ST K Z S H) (ht : TabG H P) (hn : ∀ p ∈ Z.TL, p.1 ≠ P) (t : Tabbed P H H') : Go H S H' S ∧ ST K Z S H' := by
  obtain ⟨ps0, hP, _⟩ := ht
  have ne : ∀ b o, H b = some o → (∀ ps, o ≠ .tbl ps) → b ≠ P := fun b o e n z => by rw [z, hP] at e; exact n ps0 (Option.some.inj e).symm
  have ev : Evo H H' := ⟨fun a xs e => by rw [t.2 a (ne _ _ e fun ps z => by cases z)]; exact e, fun a o u e => by rw [t.2 a (ne _ _ e fun ps z => by cases z)]; exact e, fun a e => by
    by_cases h : a = P
    · obtain ⟨ps, h1, _⟩ := t.1
      rw [h, h1]
      exact fun z => nomatch z
    · rw [t.2 a h]; exact e, fun a φ e => by rw [t.2 a (ne _ _ e fun ps z => by cases z)]; exact e⟩
  refine ⟨⟨ev, fun _ _ h => h, fun b o e _ n => by rw [t.2 b (ne b o e n)]; exact e⟩, fun a o e => ?_, fun Q hQ => ?_, fun p hp => ?_⟩
  · have q := st.sr a o e
    obtain ⟨u, hu, mu⟩ := q.mut
    exact q.mono ev (t.2 a (ne a u hu fun ps z => by rw [z] at mu; exact mu))
  · by_cases h : Q = P
    · rw [h]; exact t.1
    · obtain ⟨ps, h1, h2⟩ := st.tb.1 Q hQ
      exact ⟨ps, by rw [t.2 Q h]; exact h1, h2⟩
  · obtain ⟨ps, h1, h2, h3⟩ := st.tb.2 p hp
    refine ⟨ps, by rw [t.2 _ (hn p hp)]; exact h1, h2, fun pos cv hc => ?_⟩
    obtain ⟨c, e1, e2⟩ := h3 pos cv hc
    exact ⟨c, e1, ev.ext _ _ e2⟩
/-- any(test for x in e), e a text -/
def dAnyS (pb : Nat → Bool) (te : TD) : TD := fun r S Q E => te r S (fun d S1 => match d with | .str a => Q (.bl (a.cps.toList.any pb)) S1 | _ => False) E
/-- a def's code object and its table, told by Z -/
structure TabD (X : Cx) (Z : Zt) (c P : Addr) : Prop where
  tab : GxR.TabB X.base X.mg c P
  code : X.env.code = .ref c
  mem : P ∈ Z.T
  no : ∀ p ∈ Z.TL, p.1 ≠ P
theorem pd_anyG {c P : Addr} {elt iter : Expr} {x : Str} {px p pos gpos : Pos} {scope : Scope} {pb : Nat → Bool} {te : TD} {k : Nat} (hM : TxOk X.prog X.w X.K X.mg X.base Z tx M) (i : Nat) (hN : tx.bl i = some ("any" : Str))
    (hr : Room k X.A) (hg : Gl X "any") (T : TabD X Z c P) (S : GenS X.env scope x) (hi : PD X Z iter te) (hel : EltG X.prog X.w X.mg scope x elt pb)
    (hs : ∀ v, genFold iter X.env v = pure v := by intro _; rfl)
    (he : starEach [.GeneratorExp elt [⟨.Name x px, iter, [], 0⟩] scope gpos] X.env = (false, eval (.GeneratorExp elt [⟨.Name x px, iter, [], 0⟩] scope gpos) X.env) :: starEach [] X.env := by rfl) :
    PD X Z (.Call (.Name "any" p) [.GeneratorExp elt [⟨.Name x px, iter, [], 0⟩] scope gpos] [] pos) (dAnyS pb te) := fun W tk => by
  refine PE.imp (pe_anyG hr hg (hM.bl i _ hN) T.tab T.code S (hi W tk) hel hs he) fun σ H Q h => ?_
  obtain ⟨r, S0, Q0, E0, R, q, k, kE⟩ := h
  refine ⟨r, S0, _, E0, R, q, fun d S1 v H1 e1 st1 dv1 q1 => ?_, kE⟩
  cases d with
  | str a =>
    have ht : TabG H1 P := st1.tb.1 P T.mem
    refine ⟨a, dv_str.mp dv1, ht, fun H2 t => ?_⟩
    obtain ⟨g, st2⟩ := tabbed_st st1 ht T.no t
    exact k _ S1 _ H2 (e1.trans g) st2 (dv_bl.mpr rfl) q1
  | _ => exact q1.elim
end
end G

set_option Elab.async false
set_option linter.all false
set_option maxRecDepth 100000
set_option maxHeartbeats 4000000
/-! GL: lambdas that capture nothing: made, handed on, called. -/
namespace G
open PySem PySem.Spec PyProof.Rows L2 LamX
/-- the function object of a lambda that captures nothing -/
def LamO (f : Addr) (l : LamR) (pm : Value) (c' : Addr) (ctv : Value) : HO := .ext fun h => h.get? f = some (PySem.W.kla_obj "<lambda>" l.q l.params l.body l.scope [] pm c' ctv)
/-- at f stands the j-th lambda -/
def isLam (Z : Zt) (j : Nat) : Hp → Addr → Prop := fun H f => ∃ l pm c' ctv, Z.lm j = some l ∧ H f = some (LamO f l pm c' ctv) ∧ H c' = some (CodeO c' l.q)
theorem lam_obj {P : Program} {w : World} {H : Hp} {h : Heap} {f c' : Addr} {l : LamR} {pm ctv : Value} (e : h.get? f = some (PySem.W.kla_obj "<lambda>" l.q l.params l.body l.scope [] pm c' ctv)) : ObjOk P w H h f (LamO f l pm c' ctv) :=
  ⟨e, ⟨_, e⟩, fun h1 h2 e1 k => k _ e1⟩
section
variable {X : Cx} {pins : List (Addr × Obj)} {σ : L2.St} {H : Hp} {s : Shared}
/-- the lambda is made and known: its code object is new, or found in the table -/
theorem lam_make3 {T : List (Addr × Str)} {c P : Addr} {l : LamR} {pos : Pos} {E : Value → Shared → Prop} {Q : Value → Shared → Prop} (I : Inv X pins σ H s) (TB : LamX.TabB X.base X.mg c P) (hcode : X.env.code = .ref c) (hq : X.env.qual ++ "<lambda>" = l.q)
    (hm : (P, l.q) ∈ T) (hu : ∀ p ∈ T, p.1 = P → p.2 = l.q) (hT : Tabs T H) (hdef : defaultsOf l.params X.env = ([], [])) (L0 : Lam0 l.scope) (hcl : cloFrom X.env.cells l.scope.names [] = [])
    (h : ∀ (f c' : Addr) (pm ctv : Value) (H1 : Hp) (s' : Shared), Inv X pins σ (upd H1 f (LamO f l pm c' ctv)) s' → ExtN H H1 → (∀ b, H b ≠ none → H1 b ≠ none) → (∀ b, b ≠ P → H b ≠ none → H1 b = H b) → H1 f = none → (∃ ps, H1 P = some (.tbl ps) ∧ TriplesOk ps.toList) → Tabs T H1 → H1 c' = some (CodeO c' l.q) → Q (.ref f) s') :
    wpAny (model X.prog X.w) X.A (eval (.Lambda l.params l.body l.scope pos) X.env) Q E s := by
  obtain ⟨ps, hP, ht, ha⟩ := hT _ hm
  refine PySem.W.kla_eval hdef ?_
  have hfree : ∀ y ∈ l.scope.names, y.2 = .free → ∃ c, X.env.cells.lookup y.1 = some c := fun y hy e => absurd e (L0.own y hy).2.2
  have bP : s.heap.BuiltinsAt X.mg P := TB.bm.keeps I.bk
  have hP' : s.heap.get? P = some { cls := .none, data := .fields ps } := I.hok P _ hP
  cases hc : codeAmong pos ps.toList with
  | none =>
    refine PySem.W.kla_makeFunction (mg := X.mg) (c := c) (P := P) (ps := ps) (closure_ok hfree) I.ok.glob (I.mod.glob.keeps I.bk) hcode (TB.code.keeps I.bk) hP' ht hc TB.gP bP fun c' ctv h' tk hx hge hlt hrec htb => ?_
    obtain ⟨c2, oc, vs, t, e2, hoc, hd, hv⟩ := hrec
    cases e2
    rw [hq] at hv ⊢
    rw [hcl]
    have hsz : s.heap.objs.size ≤ h'.objs.size := Nat.le_trans hge (Nat.le_of_lt hlt)
    have nC : H c' = none := I.hok.fresh hge
    have I1 := inv_table (q := l.q) (t' := tk) (more := #[rawInt pos.line, rawInt pos.col, .ref c']) (h' := h') I hP hx htb hge ⟨oc, vs, t, hoc, hd, hv⟩
    have I2 : Inv X pins σ (upd _ h'.objs.size (LamO h'.objs.size l ((X.mg "__name__").getD .none) c' ctv)) { s with heap := h'.push (PySem.W.kla_obj "<lambda>" l.q l.params l.body l.scope [] ((X.mg "__name__").getD .none) c' ctv), toks := tk } :=
      I1.laid (t' := tk) (fun b o e => Heap.get?_push_of_some _ e) (Nat.le_refl _) (lam_obj (Heap.get?_push_size _ rfl))
    have hE : ExtN H (upd (upd H P (.tbl (ps ++ #[rawInt pos.line, rawInt pos.col, .ref c']))) c' (CodeO c' l.q)) := fun b o e n => by
      rw [upd_ne (ne_of_none e nC), upd_ne (fun z => n ps (Option.some.inj (e.symm.trans (by rw [z]; exact hP))))]
      exact e
    have eL : (ps ++ #[rawInt pos.line, rawInt pos.col, .ref c']).toList = ps.toList ++ [rawInt pos.line, rawInt pos.col, .ref c'] := by simp
    have hPc : P ≠ c' := ne_of_none hP nC
    have n1 : h'.objs.size ≠ c' := Nat.ne_of_gt hlt
    have n2 : h'.objs.size ≠ P := Nat.ne_of_gt (Nat.lt_of_lt_of_le (Heap.lt_size hP') hsz)
    refine h h'.objs.size c' ((X.mg "__name__").getD .none) ctv _ _ I2 hE (fun b hb => ?_) (fun b hb hn => ?_) ?_ ⟨_, by rw [upd_ne hPc, upd_same], by rw [eL]; exact PySem.TriplesOk_snoc _ _ _ _ ht⟩ (fun p hp => ?_) upd_same
    · by_cases e1 : b = c'
      · rw [e1, upd_same]; exact fun z => nomatch z
      · rw [upd_ne e1]; exact upd_dom hb
    · cases hb2 : H b with
      | none => exact absurd hb2 hn
      | some o => rw [upd_ne (ne_of_none hb2 nC), upd_ne hb]; exact hb2
    · rw [upd_ne n1, upd_ne n2]
      exact I.hok.fresh hsz
    · by_cases hb : p.1 = P
      · rw [hu p hp hb, hb]
        refine ⟨_, by rw [upd_ne hPc, upd_same], by rw [eL]; exact PySem.TriplesOk_snoc _ _ _ _ ht, fun p' cv hcv => ?_⟩
        rw [eL] at hcv
        rcases among_app _ ht hcv with z | z
        · obtain ⟨c0, e1, e2⟩ := ha p' cv z
          exact ⟨c0, e1, hE _ _ e2 codeO_ne⟩
        · exact ⟨c', z, upd_same⟩
      · obtain ⟨ps', a1, a2, a3⟩ := hT p hp
        refine ⟨ps', by rw [upd_ne (ne_of_none a1 nC), upd_ne hb]; exact a1, a2, fun p' cv hcv => ?_⟩
        obtain ⟨c0, e1, e2⟩ := a3 p' cv hcv
        exact ⟨c0, e1, hE _ _ e2 codeO_ne⟩
  | some cv =>
    obtain ⟨c', e, hco⟩ := ha pos cv hc
    subst e
    refine PySem.W.kla_makeFunctionHit (mg := X.mg) (c := c) (P := P) (ps := ps) (closure_ok hfree) I.ok.glob (I.mod.glob.keeps I.bk) hcode (TB.code.keeps I.bk) hP' ht hc bP fun ctv h' tk hx hsz => ?_
    rw [hq, hcl]
    have I1 : Inv X pins σ H { s with heap := h', toks := tk } := I.kept fun b o e => hx b o e
    have I2 : Inv X pins σ (upd H h'.objs.size (LamO h'.objs.size l ((X.mg "__name__").getD .none) c' ctv)) { s with heap := h'.push (PySem.W.kla_obj "<lambda>" l.q l.params l.body l.scope [] ((X.mg "__name__").getD .none) c' ctv), toks := tk } :=
      I1.laid (t' := tk) (fun b o e => Heap.get?_push_of_some _ e) (Nat.le_refl _) (lam_obj (Heap.get?_push_size _ rfl))
    exact h h'.objs.size c' ((X.mg "__name__").getD .none) ctv H _ I2 (ExtN.refl H) (fun _ z => z) (fun _ _ _ => rfl) (I.hok.fresh hsz) ⟨ps, hP, ht⟩ hT hco
end
section
variable {X : Cx} {Z : Zt} {tx : Tx} {M : List Ent} {L : Nat}
def dLam (Z : Zt) (j : Nat) : TD := fun _ S Q _ => ∀ f, S f = none → Q (.ref f) (put S f (.oth (isLam Z j)))
/-- the making def's code object and its table, told by Z -/
structure TabL (X : Cx) (Z : Zt) (c P : Addr) (q : Str) : Prop where
  tab : LamX.TabB X.base X.mg c P
  code : X.env.code = .ref c
  mem : (P, q) ∈ Z.TL
  uniq : ∀ p ∈ Z.TL, p.1 = P → p.2 = q
theorem pd_lam {c P : Addr} {l : LamR} {params : Arguments} {body : Expr} {scope : Scope} {pos : Pos} (j : Nat) (hl : Z.lm j = some l) (T : TabL X Z c P l.q) (h1 : l.params = params) (h2 : l.body = body) (h3 : l.scope = scope) (hq : X.env.qual ++ "<lambda>" = l.q) (L0 : Lam0 l.scope) (hdef : defaultsOf l.params X.env = ([], []) := by rfl) (hcl : cloFrom X.env.cells l.scope.names [] = [] := by rfl) :
    PD X Z (.Lambda params body scope pos) (dLam Z j) := fun W tk => by
  subst h1 h2 h3
  refine ⟨fun pins s σ H Q I h => ?_⟩
  obtain ⟨r, S, Q0, E0, R, q, k, kE⟩ := h
  refine lam_make3 I T.tab T.code hq T.mem T.uniq R.st.tb.2 hdef L0 hcl fun f c' pm ctv H1 s' I2 eN dm sm nf hP1 T1 hco => ?_
  have nf0 : H f = none := by
    cases z : H f with
    | none => rfl
    | some o => exact absurd nf (dm f (by rw [z]; exact fun z => nomatch z))
  have ev1 : Evo H H1 := ⟨fun a xs e => eN a _ e (fun ps z => nomatch z), fun a o u e => eN a _ e (fun ps z => nomatch z), dm, fun a φ e => eN a _ e (fun ps z => nomatch z)⟩
  have st1 : ST X.K Z S H1 := by
    refine ⟨fun a o e => ?_, fun P' hP' => ?_, T1⟩
    · have q := R.st.sr a o e
      obtain ⟨u, hu, mu⟩ := q.mut
      exact q.mono ev1 ((eN a u hu fun ps z => by rw [z] at mu; exact mu).trans hu.symm)
    · by_cases e : P' = P
      · rw [e]; exact hP1
      · obtain ⟨ps, a1, a2⟩ := R.st.tb.1 P' hP'
        exact ⟨ps, by rw [sm P' e (by rw [a1]; exact fun z => nomatch z)]; exact a1, a2⟩
  have g1 : Go H S H1 S := ⟨ev1, fun _ _ h => h, fun b o e _ n => eN b o e n⟩
  have hc2 : upd H1 f (LamO f l pm c' ctv) c' = some (CodeO c' l.q) := by rw [upd_ne (ne_of_none hco nf)]; exact hco
  have st2 := st1.made (u := LamO f l pm c' ctv) (o := .oth (isLam Z j)) nf ⟨⟨_, upd_same, trivial⟩, ⟨l, pm, c', ctv, hl, upd_same, hc2⟩, fun A B ⟨l', pm', c2, ct2, a1, a2, a3⟩ e ev => ⟨l', pm', c2, ct2, a1, e.trans a2, ev.ext _ _ a3⟩⟩
  exact ⟨.ref f, _, I2, rfl, k _ _ _ _ (g1.trans (Go.made nf)) st2 (dv_ref.mpr rfl) (q f (R.st.free nf0))⟩

/-- such a lambda's body is entered -/
theorem lam_start0 {P : Program} {w : World} {K : PySem.W.Frag} {mg : Str → Option Value} {base : Heap} {A : Around} {outer : List Env} {s : Shared} {H : Hp} {E : XK} {q : Str} {scope : Scope} {f c' : Addr} {h₁ : Heap} {tk : Nat} (L0 : Lam0 scope) (e0 : Env0 P w K mg base A outer s H) (hd : A.handled = none)
    (hns : h₁.Ns s.heap.objs.size fun y => ([] : List (Str × Value)).reverse.lookup y) (kp : ∀ b o, s.heap.get? b = some o → h₁.get? b = some o) :
    Inv (lamCx0 P w K mg base A outer s H E q scope f c') [] [] H { s with heap := h₁, toks := tk } := by
  have noA : ∀ b : Addr, b ∉ (lamCx0 P w K mg base A outer s H E q scope f c').ex := fun b z => absurd (show b ∈ ([] : List Addr) from z) (by simp)
  have noC : ∀ {y c}, (lamCx0 P w K mg base A outer s H E q scope f c').env.cells.lookup y = some c → False := fun {y c} z => nomatch (show ([] : List (Str × Addr)).lookup y = some c from z)
  refine ⟨⟨e0.mod, L0.kind, rfl, rfl, Nat.le_refl _, fun y z c e1 e2 => (noC e1).elim, fun y hy => ?_, fun y c z e => (noC e).elim, fun _ => hd, Around.frames_deeper e0.frames, .inr ⟨rfl, rfl⟩, fun b z => absurd z (noA b), e0.bs, e0.bsz, fun b _ _ => noA b,
      fun b z => absurd z (noA b), e0.funs, e0.frf⟩,
    rfl, e0.bare, Un.kept kp, ⟨_, hns, fun i y v e1 e2 e3 => ?_⟩, fun y c e => (noC e).elim, e0.hok.fresh (Nat.le_refl _), fun y c e => (noC e).elim, fun q hq => absurd (show q ∈ ([] : List (Addr × Obj)) ++ [] from hq) (by simp), e0.hok.kept kp, rfl⟩
  · have hy : scope.names.lookup y = some .cell ∨ scope.names.lookup y = some .free := hy
    rcases hy with hy | hy
    · exact absurd rfl (L0.own _ (PySem.mem_of_lookup hy)).2.1
    · exact absurd rfl (L0.own _ (PySem.mem_of_lookup hy)).2.2
  · exact nomatch (show ([] : List Str)[i]? = some y from e1)
/-- x(), x a name that holds a lambda -/
def dAct (M : List Ent) (Z : Zt) (L i : Nat) : TD := fun r S Q E => ∃ (f : Addr) (j n : Nat) (e : Ent), r[i]? = some (some (.ref f)) ∧ S f = some (.oth (isLam Z j)) ∧ M[n]? = some e ∧ e.la = some j ∧ e.lv ≤ L ∧ e.sp [] S Q E
theorem pd_act {x : Str} {p1 p2 : Pos} (hM : TxOk X.prog X.w X.K X.mg X.base Z tx M) (hr : Room (L + 1) X.A) (i : Nat) (hN : X.N[i]? = some x := by rfl) (hv : Vis X.env.scope x := by first | exact Or.inl rfl | exact Or.inr (Or.inl rfl) | exact Or.inr (Or.inr rfl)) (hd : (x == ("__debug__" : Str)) = false := by decide)
    (hcd : (x == ("__classdict__" : Str)) = false := by decide) : PD X Z (.Call (.Name x p1) [] [] p2) (dAct M Z L i) := fun W tk => by
  refine ⟨fun pins s σ H Q I h => ?_⟩
  obtain ⟨r, S, Q0, E0, R, ⟨f, j, n, en, hri, sf, hj, hn, hlv, q⟩, k, kE⟩ := h
  obtain ⟨v, hσ, dv⟩ := R.sl.get i _ hri
  rw [dv_ref.mp dv] at hσ
  refine wpAny_Call_Name_kw (thn ((pe_var (pos := p1) (i := i) hN hv hd hcd).run pins s σ H (fun v H1 => v = .ref f ∧ H1 = H) I ⟨.ref f, hσ, rfl, rfl⟩) fun u s1 ⟨v, H1, I1, r1, q1⟩ => ?_)
  obtain ⟨ev, eH⟩ := q1
  subst ev
  rw [eH] at I1
  obtain rfl : u = Value.ref f := r1
  obtain ⟨_, ⟨l, pm, c', ctv, hl, hf, hc⟩, _⟩ := R.st.sr f _ sf
  obtain ⟨l', hl', LO⟩ := hM.lm j n en hj hn
  rw [hl] at hl'
  cases hl'
  have of1 : s1.heap.get? f = some (PySem.W.kla_obj "<lambda>" l.q l.params l.body l.scope [] pm c' ctv) := (I1.hok f _ hf).1
  refine PySem.W.callWith_F0 ⟨_, _, _, _, of1⟩ ?_
  obtain ⟨⟨oc, vs, t, hoc, hdc, hvc⟩, _, _⟩ := I1.hok c' _ hc
  obtain ⟨tb, htb, hsp⟩ := LO.body
  have rc : codeAny (model X.prog X.w) X.A (.call (.ref f) ⟨[], []⟩) (CR (L2.CX X.prog X.w) X.stack X.prog X.w H s1 Q (WE W σ)) s1 := by
    refine PySem.W.kla_callFunE hr.depth of1 rfl LO.sc.co LO.sc.gen rfl ⟨c', oc, vs, t, rfl, hoc, hdc, hvc⟩ ?_
    rw [LO.bind]
    refine wpAny_pure (wpAny_newFunctionEnv (fun y hy => (LO.sc.own y hy).2.1) (fun y hy => absurd hy (by simp)) (fun h₁ hns hsb => ⟨I1.nolimit.fresh _ hsb, ?_⟩) LO.sc.kind)
    show codeAny _ _ (.expr l.body (lamEnv0 l.q l.scope s1.heap.objs.size f c')) _ _
    have kp : ∀ b o, s1.heap.get? b = some o → h₁.get? b = some o := fun b o e => hsb.extBut b o (Nat.ne_of_lt (Heap.lt_size e)) (Heap.get?_push_of_some _ e)
    have J : Inv (lamCx0 X.prog X.w X.K X.mg X.base X.A X.stack s1 H (WE W σ) l.q l.scope f c') [] [] H { s1 with heap := h₁, toks := s1.toks + ([] : List (Str × Value)).length } :=
      lam_start0 LO.sc I1.env0 hr.hd hns kp
    have hb := htb X.A X.stack s1 H (WE W σ) f c' ((hr.mono (Nat.succ_le_succ hlv)).deeper _) _ (takes_of rfl rfl rfl rfl)
    refine PySem.W.kla_codeExpr (wpAny_mono (hb.run [] _ [] H Q J ⟨[], S, _, _, ⟨⟨rfl, fun i d z => by simp at z⟩, R.st⟩, hsp S Q0 E0 q, fun d S' v H' g st dv ⟨S0, s0, q⟩ => k d S0 v H' (g.sub s0) (st.sub s0) dv q, fun c S' dd H' g st ⟨S0, s0, q⟩ => kE c S0 dd H' (g.sub s0) (st.sub s0) q⟩) (fun v s' hq => ?_) fun e s' hq => hq)
    obtain ⟨w', H', J', rv, q⟩ := hq
    exact ⟨w', H', J'.os, J'.bare, J'.base, J'.hok, rv, q⟩
  refine wpAny_call (codeAny_mono rc fun r s' hq => ?_)
  cases r with
  | error e => exact passAt tk σ pins H s1 e s' I1 hq
  | ok fl =>
    cases fl with
    | ret u => exact I1.after hq
    | next => exact False.elim hq
    | brk => exact False.elim hq
    | cont => exact False.elim hq
end
end G

set_option Elab.async false
set_option linter.all false
set_option maxRecDepth 100000
set_option maxHeartbeats 4000000
/-! GM: from the top to the promises; the end with tables of any def. -/
namespace G
open PySem PySem.Spec PyProof.Rows L2
section
variable {P : Program} {w : World} {K : PySem.W.Frag} {mg : Str → Option Value} {base : Heap} {Z : Zt} {tx : Tx}
/-- the top's facts, whatever is promised: the i-th def stands at fa i -/
structure TxS (K : PySem.W.Frag) (mg : Str → Option Value) (Z : Zt) (tx : Tx) (fa : Nat → Addr) : Prop where
  fn : ∀ i x, tx.gn i = some x → mg x = some (.ref (fa i)) ∧ PySem.W.keepIn K (.ref (fa i)) = true
  mt : ∀ c m i, tx.mt c m = some i → Cls K (Z.cm c) ∧ Meth K (Z.cm c) (Z.fn m) (fa i)
  it : ∀ c x i, tx.cn c = some x → tx.it c = some i → mg x = some (.ref (Z.cm c)) ∧ Mk K (Z.cm c) (fa i)
  fl : ∀ c i, tx.fl c i = true → Cls K (Z.cm c) ∧ NoAttr K (Z.cm c) (Z.fn i)
  va : ∀ i x d, tx.va i = some (x, d) → ∃ u v, mg x = some u ∧ RelV v u ∧ ∀ H, DV K H d v
  bl : ∀ i x, tx.bl i = some x → mg x = none
  xn : ∀ i x, tx.xn i = some x → ExcOk K mg x (Z.ex i)
  sb : ∀ i j b, tx.sb i j = some b → PySem.W.exmOne K (Z.ex i) (Z.ex j) = some b
/-- what is shown of the i-th entry: a def's promise, or a lambda's -/
structure Good (P : Program) (w : World) (K : PySem.W.Frag) (mg : Str → Option Value) (base : Heap) (Z : Zt) (fa : Nat → Addr) (i : Nat) (e : Ent) : Prop where
  fn : e.la = none → FnD P w K mg base Z e.lv (fa i) e
  lm : ∀ j, e.la = some j → ∃ l, Z.lm j = some l ∧ LamOk P w K mg base Z e.lv l e.sp
def Done (P : Program) (w : World) (K : PySem.W.Frag) (mg : Str → Option Value) (base : Heap) (Z : Zt) (fa : Nat → Addr) (M : List Ent) : Prop := ∀ i e, M[i]? = some e → Good P w K mg base Z fa i e
theorem TxS.ok {fa : Nat → Addr} {M : List Ent} (S : TxS K mg Z tx fa) (G : Done P w K mg base Z fa M) : TxOk P w K mg base Z tx M where
  fn := fun i x e h he hl => ⟨fa i, (S.fn i x h).1, (S.fn i x h).2, (G i e he).fn hl⟩
  mt := fun c m i e h he hl => ⟨fa i, (S.mt c m i h).1, (S.mt c m i h).2, (G i e he).fn hl⟩
  it := fun c x i e hx h he hl => ⟨fa i, (S.it c x i hx h).1, (S.it c x i hx h).2, (G i e he).fn hl⟩
  fl := S.fl
  va := S.va
  bl := S.bl
  xn := S.xn
  sb := S.sb
  lm := fun j i e he hl => (G i e he).lm j hl
theorem Done.nil {fa : Nat → Addr} : Done P w K mg base Z fa [] := fun i e h => by simp at h
theorem Done.snoc {fa : Nat → Addr} {M : List Ent} {e : Ent} (G : Done P w K mg base Z fa M) (g : Good P w K mg base Z fa M.length e) : Done P w K mg base Z fa (M ++ [e]) := fun i e' h => by
  by_cases hi : i < M.length
  · rw [List.getElem?_append_left hi] at h
    exact G i e' h
  · rw [List.getElem?_append_right (by omega)] at h
    have hz : i = M.length := by
      have := (List.getElem?_eq_some_iff.mp h).1
      simp at this
      omega
    subst hz
    simp at h
    subst h
    exact g
theorem Good.ofFn {fa : Nat → Addr} {i : Nat} {e : Ent} (hl : e.la = none) (F : FnD P w K mg base Z e.lv (fa i) e) : Good P w K mg base Z fa i e := ⟨fun _ => F, fun j h => (nomatch h.symm.trans hl)⟩
theorem Good.ofLam {fa : Nat → Addr} {i j : Nat} {e : Ent} {l : LamR} (hl : e.la = some j) (hz : Z.lm j = some l) (F : LamOk P w K mg base Z e.lv l e.sp) : Good P w K mg base Z fa i e := ⟨fun h => (nomatch h.symm.trans hl), fun j' h => by
  rw [hl] at h
  cases h
  exact ⟨l, hz, F⟩⟩

/-- a def of the text, its code object told -/
structure FunC (K : PySem.W.Frag) (x qual : Str) (st : Stmt) (f : Addr) (fd : FuncData) (cdv dV : Value) : Prop where
  ex : ∃ (oc : Value) (od : Option Addr) (kV doc pm : Value) (an : Option Addr) (ct : Value) (osl : Array (Option Value)),
    fd = PySem.W.fnOf x qual (defArgs st) (defBody st) (defScope st) dV kV doc pm an cdv ct ∧ K.lookup f = some ⟨oc, od, .func fd, osl⟩ ∧ PySem.W.codeIn K cdv qual = true
theorem fun_mkC {x qual : Str} {st : Stmt} {f : Addr} {oc : Value} {od an : Option Addr} {osl : Array (Option Value)} {dV kV doc pm cdv ct : Value} (l : K.lookup f = some ⟨oc, od, .func (PySem.W.fnOf x qual (defArgs st) (defBody st) (defScope st) dV kV doc pm an cdv ct), osl⟩)
    (c : PySem.W.codeIn K cdv qual = true) : FunC K x qual st f (PySem.W.fnOf x qual (defArgs st) (defBody st) (defScope st) dV kV doc pm an cdv ct) cdv dV := ⟨⟨oc, od, kV, doc, pm, an, ct, osl, rfl, l, c⟩⟩
theorem fn_bodyC {x qual : Str} {st : Stmt} {f : Addr} {fd : FuncData} {cdv dV : Value} {N ps : List Str} {L : Nat} {sp : SpD} (F : FunC K x qual st f fd cdv dV) (Sc : FnScope N ps (defScope st)) (len : ∀ ds S Q E, sp ds S Q E → ds.length = ps.length) (t : TDS)
    (hd : ∀ (A : Around) (outer : List Env) (s : Shared) (H : Hp) (E : XK), Room L (A.deeper (envOfC qual (defScope st) s.heap.objs.size f cdv)) → PDSs (cxOf (L2.CX P w) P w K mg base N qual (defScope st) f cdv A outer s H E) Z (defBody st) t)
    (hb : ∀ ds S Q0 E0, sp ds S Q0 E0 → t (fin Q0 E0) (startD N ds) S) : FnOk P w K mg base (L2.CX P w) (L + 1) f fd ps (liftSp K Z sp) := by
  obtain ⟨oc, od, kV, doc, pm, an, ct, osl, rfl, lk, hcd⟩ := F.ex
  refine fn_of lk hcd Sc (fun vs H Q E h => ?_) (fun A outer s H vs Q E hr h => ?_)
  · obtain ⟨ds, S, Q0, E0, st', dv, h, _⟩ := h
    rw [← dv.len]
    exact len _ _ _ _ h
  · obtain ⟨ds, S, Q0, E0, st', dv, h, k, kE⟩ := h
    refine ⟨_, hd A outer s H E hr _ (takes_of rfl rfl rfl rfl), startD N ds, S, fin Q0 E0, ⟨sl_start dv, st'⟩, hb ds S Q0 E0 h, ?_⟩
    exact ⟨fun r' S' σ' H' g R' ⟨S0, s0, q⟩ => k .non S0 .non H' (g.sub s0) (R'.st.sub s0) (dv_non.mpr rfl) q, fun d S' v H' g st dv ⟨S0, s0, q⟩ => k d S0 v H' (g.sub s0) (st.sub s0) dv q, fun _ _ _ _ _ _ z => z.elim, fun _ _ _ _ _ _ z => z.elim,
      fun c r' S' dd σ' H' g R' ⟨S0, s0, q⟩ => kE c S0 dd H' (g.sub s0) (R'.st.sub s0) q⟩
theorem FunC.binds {x qual : Str} {st : Stmt} {f : Addr} {fd : FuncData} {cdv : Value} {ps : List Str} (F : FunC K x qual st f fd cdv .none)
    (h : ∀ (kV doc pm : Value) (an : Option Addr) (cdv ct : Value) (us : List Value), us.length = ps.length → bindArgs (PySem.W.fnOf x qual (defArgs st) (defBody st) (defScope st) .none kV doc pm an cdv ct) ⟨us, []⟩ = pure (ps.zip us)) : Binds K fd ps [] := by
  obtain ⟨oc, od, kV, doc, pm, an, ct, osl, rfl, lk, hcd⟩ := F.ex
  exact .all (h kV doc pm an cdv ct)
end
/-! ### the text by places -/
def asgVal : Stmt → Expr
  | .Assign _ v _ => v
  | _ => .Constant .none 0 ⟨0, 0, 0, 0⟩
def lstAt : Expr → Nat → Expr
  | .List es _, j => es.getD j (.Constant .none 0 ⟨0, 0, 0, 0⟩)
  | _, _ => .Constant .none 0 ⟨0, 0, 0, 0⟩
def noArgs : Arguments := { posonlyargs := [], args := [], vararg := none, kwonlyargs := [], kw_defaults := [], kwarg := none, defaults := [] }
def lamOf (q : Str) : Expr → LamR
  | .Lambda p b s _ => ⟨q, p, b, s⟩
  | e => ⟨q, noArgs, e, { kind := .function, names := [], isGenerator := false, isCoroutine := false }⟩
/-- attribute names by number, all different -/
def fnOf' (l : List Str) (i : Nat) : Str := match l[i]? with
  | some x => x
  | none => ⟨Array.replicate (i + 100) 126⟩
theorem fnOf'_inj {l : List Str} (h : l.Nodup) (h2 : ∀ x ∈ l, x.cps.size < 100) (i j : Nat) (e : fnOf' l i = fnOf' l j) : i = j := by
  unfold fnOf' at e
  cases hi : l[i]? with
  | some x =>
    rw [hi] at e
    cases hj : l[j]? with
    | some y =>
      rw [hj] at e
      have e : x = y := e
      subst e
      obtain ⟨h3, h4⟩ := List.getElem?_eq_some_iff.mp hi
      obtain ⟨h5, h6⟩ := List.getElem?_eq_some_iff.mp hj
      exact (List.getElem_inj h).mp (h4.trans h6.symm)
    | none =>
      rw [hj] at e
      have e : x = (⟨Array.replicate (j + 100) 126⟩ : Str) := e
      have := h2 x (List.mem_of_getElem? hi)
      rw [e] at this
      simp at this
      omega
  | none =>
    rw [hi] at e
    cases hj : l[j]? with
    | some y =>
      rw [hj] at e
      have e : (⟨Array.replicate (i + 100) 126⟩ : Str) = y := e
      have := h2 y (List.mem_of_getElem? hj)
      rw [← e] at this
      simp at this
      omega
    | none =>
      rw [hj] at e
      have e : (⟨Array.replicate (i + 100) 126⟩ : Str) = ⟨Array.replicate (j + 100) 126⟩ := e
      have := congrArg (fun z : Str => z.cps.size) e
      simp at this
      exact this
theorem hu64 {A : Around} {k : Nat} (hr : Room k A) : A.units + 64 < cLine := by
  have := hr.un
  omega
/-- the end: what is known of the top, all of it -/
theorem walk_all {l : PySem.W.OpenLaw} {n k : Nat} {q : Program} {loose : List Str} {XP : (Str → Option Value) → Heap → Prop} {YP : World → Heap → Prop} {d : DefRec} {K : Params → PySem.W.Frag} {CX : World → CXT} {x : Str}
    (hn : l.most = some n) (hn2 : n ≤ sizeLine) (hdf : d.params.defaults = []) (hr : Room k callerA) (hY : ∀ (w : World) (h : Heap), YP w h → (K w.params).In h)
    (F : ∀ (w : World) (mg mb : Str → Option Value) (mean : ExcName → Option Value) (fa : Addr) (h : Heap), YP w h → (K w.params).In h → Top q (PySem.W.looseW q loose) mean mg mb h → mg d.name = some (.ref fa) → LamX.LawAtS l w (K w.params) (CX w) k n x mg fa h)
    (hCX : ∀ (w : World) (H : Hp) (s : Shared) (e : Value) (s' : Shared), CX w [] H s (fun _ _ _ => False) e s' → False) :
    PySem.W.WalkO q loose XP YP l.row.toRowW d [] (fun f vs => PySem.call f vs) := by
  refine Att.attach_callB hn hdf fun w s₀ s₁ mg mb fa o pm cd doc a vs ns G Y ho hd hcd hmg hobj hints hlen hbits hg => ?_
  have KX := hY w _ Y
  obtain ⟨fd, cs, sp, hT, nT, C, hb, hsp, hF⟩ := F w mg mb _ fa _ Y KX G.T hmg
  exact LamX.law_callTs KX G.T.g G.T.b G.T.builtins G.T.nolimit hg hT nT C G.T.bmain hobj hints (Nat.le_trans hlen hn2) hr hF hb (fun H hH hS => hsp H a ns hlen hbits hH hS) fun H e s' => hCX w H s₁ e s'
/-- the table of a def of the top -/
theorem tab_ofTop {q : Program} {loose : List Str} {mean : ExcName → Option Value} {mg mb : Str → Option Value} {h : Heap} {K : PySem.W.Frag} {x : Str} {f c P : Addr} {fd : FuncData} {oc e : Value} {od dd : Option Addr} {osl sl : Array (Option Value)} {vs : Array Value} (T : Top q loose mean mg mb h) (X : K.In h) (hrec : ((recsOf q).any fun e => e.name == x) = true)
    (hm : mg x = some (.ref f)) (l : K.lookup f = some ⟨oc, od, .func fd, osl⟩) (hc : fd.code = .ref c) (lc : K.lookup c = some ⟨e, dd, .fields vs, sl⟩) (lp : vs[11]? = some (.ref P)) : PySem.W.CodeHd h c P ∧ h.get? P = some { cls := .none, data := .fields #[] } := by
  obtain ⟨dL, hmem, hn1⟩ := List.any_eq_true.mp hrec
  have hn2 : dL.name = x := beq_iff_eq.mp hn1
  obtain ⟨a', o', fd', c', P', h1, h2, h3, h4, h5, h6⟩ := T.tab dL hmem
  rw [hn2, hm] at h1
  cases h1
  have g1 := X _ _ l
  rw [g1] at h2
  cases h2
  cases h3
  rw [hc] at h4
  cases h4
  have h6' := h6
  obtain ⟨⟨oc, vc, e1, _, e3, e4⟩, hP⟩ := h6
  have g2 := X _ _ lc
  rw [g2] at e1
  cases e1
  cases e3
  rw [lp] at e4
  cases e4
  exact ⟨PySem.W.CodeHd.of h5 h6', hP⟩
/-- the script: a list of whole numbers -/
def IsScript (S : DS) (x : D) (ns : List Int) : Prop := x = .rol (ns.map D.int) ∨ ∃ a, x = .ref a ∧ S a = some (.lst (ns.map D.int))
theorem slScript {S : DS} {x : D} {ns : List Int} {lo hi : Option Int} {Q : QD} (h : IsScript S x ns) (k : ∀ l, S l = none → Q (.ref l) (put S l (.lst (G.cutD (ns.map D.int) lo hi)))) : slD x lo hi S Q := by
  rcases h with rfl | ⟨a, rfl, h⟩
  · exact k
  · exact ⟨_, h, k⟩
/-- from the law's start -/
theorem start_sp {K : PySem.W.Frag} {Z : Zt} {H : Hp} {a : Addr} {ns : List Int} {sp : SpD} (hT : ∀ P ∈ Z.T, H P = some (.tbl #[])) (hL : ∀ p ∈ Z.TL, H p.1 = some (.tbl #[])) (hS : SqL K H a (ns.map V.int)) (h : ∀ S x (Q : QD) E, IsScript S x ns → (∀ S, Q (.bl true) S) → sp [x] S Q E) :
    liftSp K Z sp [.ref a] H (fun v _ => v = .bl true) fun _ _ _ => False := by
  have tb : TB Z H := ⟨fun P hP => ⟨#[], hT P hP, True.intro⟩, fun p hp => LamX.TabS.nil (hL p hp)⟩
  have fin : ∀ (x : D) (S : DS), ST K Z S H → DV K H x (.ref a) → IsScript S x ns → liftSp K Z sp [.ref a] H (fun v _ => v = .bl true) fun _ _ _ => False := fun x S st dv hx =>
    ⟨[x], S, fun d _ => d = .bl true, fun _ _ => False, st, DVs.cons dv (dvs_nil.mpr rfl), h S x _ _ hx fun _ => rfl, fun d S' v H' _ _ dv hd => by rw [hd] at dv; exact dv_bl.mp dv, fun _ _ _ _ _ _ z => z⟩
  rcases hS with (h1 | ⟨o, h1⟩) | h1
  · refine fin (.ref a) (put (fun _ => none) a (.lst (ns.map D.int))) ⟨fun b o e => ?_, tb⟩ (dv_ref.mpr rfl) (.inr ⟨a, rfl, put_same⟩)
    by_cases hb : b = a
    · subst hb
      rw [put_same] at e
      cases e
      exact ⟨_, h1, dvs_ints ns⟩
    · rw [put_ne hb] at e
      cases e
  · exact fin (.rol (ns.map D.int)) (fun _ => none) ⟨fun b o e => (nomatch e), tb⟩ (dv_rol.mpr ⟨a, _, rfl, .inl ⟨o, h1⟩, dvs_ints ns⟩) (.inl rfl)
  · exact fin (.rol (ns.map D.int)) (fun _ => none) ⟨fun b o e => (nomatch e), tb⟩ (dv_rol.mpr ⟨a, _, rfl, .inr h1, dvs_ints ns⟩) (.inl rfl)
/-- an error of the class at S is what «except S» names -/
theorem exm_of {K : PySem.W.Frag} {C S : Addr} {b : Bool} (h1 : PySem.W.subIn K (.ref S) (.type "BaseException") = some true) (h2 : PySem.W.isClsIn K S = true) (h3 : PySem.W.typeIn K (.ref S) = some (.type "type")) (h4 : PySem.W.subIn K (.ref C) (.ref S) = some b) :
    PySem.W.exmOne K (.ref C) (.ref S) = some b := by
  have e1 : (PySem.W.subIn K (.ref S) (.type "BaseException") == some true) = true := by rw [h1] <;> rfl
  have e2 : ((PySem.W.clsIn K S).isSome && PySem.W.typeIn K (.ref S) == some (.type "type")) = true := by
    have h2' : (PySem.W.clsIn K S).isSome = true := h2
    rw [h2', h3] <;> rfl
  unfold PySem.W.exmOne
  rw [if_pos e1]
  unfold PySem.W.kitCls
  first
    | (rw [if_pos e2]; exact h4)
    | (simp only [e2, if_true]; exact h4)
end G

set_option Elab.async false
set_option linter.all false
set_option maxRecDepth 100000
set_option maxHeartbeats 4000000
/-! GT: plain facts about the texts of whole numbers. -/
namespace G
open PySem PySem.NumText
/-- the signs of a number's text -/
def natD (n : Nat) : List Nat := (Nat.toDigits 10 n).map (fun c : Char => c.toNat)
theorem natD_small {n : Nat} (h : n < 10) : natD n = [48 + n] := by
  unfold natD
  rw [Nat.toDigits_of_lt_base h]
  have : ∀ d : Nat, d < 10 → [Nat.digitChar d].map (fun c : Char => c.toNat) = [48 + d] := by decide
  exact this n h
theorem natD_step {n d : Nat} (h : 0 < n) (hd : d < 10) : natD (10 * n + d) = natD n ++ [48 + d] := by
  unfold natD
  rw [← Nat.toDigits_append_toDigits (by decide) h hd, List.map_append]
  have := natD_small hd
  unfold natD at this
  rw [this]
theorem natD_ind {P : Nat → Prop} (h0 : ∀ n, n < 10 → P n) (h1 : ∀ n d, 0 < n → d < 10 → P n → P (10 * n + d)) : ∀ n, P n := by
  intro n
  induction n using Nat.strongRecOn with
  | _ n ih =>
    by_cases h : n < 10
    · exact h0 n h
    · have e : 10 * (n / 10) + n % 10 = n := Nat.div_add_mod n 10
      rw [← e]
      exact h1 _ _ (by omega) (by omega) (ih _ (by omega))
theorem natD_digits (n : Nat) : AllDigits (natD n) := by
  refine natD_ind (P := fun n => AllDigits (natD n)) (fun n h => ?_) (fun n d h hd ih => ?_) n
  · rw [natD_small h]
    intro c hc
    have := List.mem_singleton.mp hc
    omega
  · rw [natD_step h hd]
    intro c hc
    rcases List.mem_append.mp hc with q | q
    · exact ih c q
    · have := List.mem_singleton.mp q
      omega
theorem natD_val (n : Nat) : digitsVal (natD n) = n := by
  refine natD_ind (P := fun n => digitsVal (natD n) = n) (fun n h => ?_) (fun n d h hd ih => ?_) n
  · rw [natD_small h]
    show 0 * 10 + (48 + n - 48) = n
    omega
  · rw [natD_step h hd, digitsVal_snoc, ih]
    omega
theorem natD_ne (n : Nat) : natD n ≠ [] := by
  by_cases h : n < 10
  · rw [natD_small h]; simp
  · have e : 10 * (n / 10) + n % 10 = n := Nat.div_add_mod n 10
    rw [← e, natD_step (by omega) (by omega)]
    simp
theorem natD_head (n : Nat) : 0 < n → ∃ c r, natD n = c :: r ∧ 49 ≤ c ∧ c ≤ 57 := by
  refine natD_ind (P := fun n => 0 < n → ∃ c r, natD n = c :: r ∧ 49 ≤ c ∧ c ≤ 57) (fun n h hp => ?_) (fun n d h hd ih _ => ?_) n
  · exact ⟨48 + n, [], natD_small h, by omega, by omega⟩
  · obtain ⟨c, r, e, h1, h2⟩ := ih h
    exact ⟨c, r ++ [48 + d], by rw [natD_step h hd, e]; rfl, h1, h2⟩
theorem natD_len (k : Nat) : ∀ n, n < 10 ^ (k + 1) → (natD n).length ≤ k + 1 := by
  induction k with
  | zero =>
    intro n h
    rw [natD_small (by simpa using h)]
    simp
  | succ k ih =>
    intro n h
    by_cases hn : n < 10
    · rw [natD_small hn]; simp
    · have e : 10 * (n / 10) + n % 10 = n := Nat.div_add_mod n 10
      rw [← e, natD_step (by omega) (by omega), List.length_append]
      have h2 : n / 10 < 10 ^ (k + 1) := by
        rw [Nat.pow_succ] at h
        omega
      have := ih _ h2
      simp
      omega
/-- n has k + 1 digits at least -/
theorem natD_long (k : Nat) : ∀ n, 10 ^ k ≤ n → k < (natD n).length := by
  induction k with
  | zero =>
    intro n h
    have := natD_ne n
    exact List.length_pos_iff.mpr this
  | succ k ih =>
    intro n h
    have h1 : 10 ^ k * 10 = 10 ^ (k + 1) := (Nat.pow_succ ..).symm
    have hp : 0 < 10 ^ k := Nat.pow_pos (by decide)
    have e : 10 * (n / 10) + n % 10 = n := Nat.div_add_mod n 10
    rw [← e, natD_step (by omega) (by omega), List.length_append]
    have := ih (n / 10) (by omega)
    simp
    omega
theorem toString_nat (n : Nat) : (Str.ofString (toString (n : Int))).cps.toList = natD n := PySem.W.KIN.signs_num n
theorem str_ext {a b : Str} (h : a.cps.toList = b.cps.toList) : a = b := by
  cases a; cases b
  congr 1
  exact Array.ext' h
theorem toString_nat' (n : Nat) : (Str.ofString (toString (n : Int))) = ⟨(natD n).toArray⟩ := str_ext (by rw [toString_nat])
theorem toString_int {i : Int} (h : 0 ≤ i) : (Str.ofString (toString i)) = ⟨(natD i.toNat).toArray⟩ := by
  have e : i = ((i.toNat : Nat) : Int) := by omega
  rw [e]
  exact toString_nat' _
theorem log2_of_lt {i : Int} {k : Nat} (h : i.natAbs < 2 ^ k) (h0 : 0 < k) : i.natAbs.log2 < k := by
  by_cases hz : i.natAbs = 0
  · rw [hz]; simpa using h0
  · exact (Nat.log2_lt hz).mpr h
theorem len_mk (l : List Nat) : (⟨l.toArray⟩ : Str).length = l.length := by simp [Str.length]
theorem cat_mk (a b : List Nat) : (⟨a.toArray⟩ : Str) ++ ⟨b.toArray⟩ = ⟨(a ++ b).toArray⟩ := SX.S_cat a b
theorem mk_inj {a b : List Nat} : ((⟨a.toArray⟩ : Str) = ⟨b.toArray⟩) ↔ a = b := ⟨fun h => SX.S_inj h, fun h => by rw [h]⟩
def genB (scope : Scope) (x : Str) : Bool := decide (scope.kind = .function) && !scope.isCoroutine && scope.names.all (fun y => !decide (y.2 = .cell) && !decide (y.2 = .free)) && decide (scope.names.lookup (".0" : Str) = some NameKind.local) && decide (scope.names.lookup x = some NameKind.local)
theorem genS_by {env : Env} {scope : Scope} {x : Str} (h : genB scope x = true) : GxR.GenS env scope x := by
  unfold genB at h
  simp only [Bool.and_eq_true, Bool.not_eq_true', decide_eq_true_eq, decide_eq_false_iff_not, List.all_eq_true] at h
  obtain ⟨⟨⟨⟨h1, h2⟩, h3⟩, h4⟩, h5⟩ := h
  exact ⟨h1, h2, fun y hy => (h3 y hy).1, h4, h5, fun y hy e => absurd e (h3 y hy).2⟩
theorem bt_isinstance : bootBuiltins "isinstance" = some (.builtin "isinstance") := by decide +kernel
theorem bt_bool : bootBuiltins "bool" = some (.type "bool") := by decide +kernel
theorem bt_abs : bootBuiltins "abs" = some (.builtin "abs") := by decide +kernel
theorem bt_len : bootBuiltins "len" = some (.builtin "len") := by decide +kernel
theorem bt_max : bootBuiltins "max" = some (.builtin "max") := by decide +kernel
theorem bt_min : bootBuiltins "min" = some (.builtin "min") := by decide +kernel
theorem bt_sum : bootBuiltins "sum" = some (.builtin "sum") := by decide +kernel
theorem bt_int : bootBuiltins "int" = some (.type "int") := by decide +kernel
theorem bt_str : bootBuiltins "str" = some (.type "str") := by decide +kernel
theorem bt_list : bootBuiltins "list" = some (.type "list") := by decide +kernel
theorem bt_tuple : bootBuiltins "tuple" = some (.type "tuple") := by decide +kernel
theorem _root_.PySem.NumText.intText_digits' {c : Nat} {r : List Nat} (h : AllDigits (c :: r)) (h2 : (c :: r).length ≤ 4300 := by decide) : intText? ⟨(c :: r).toArray⟩ = some ((digitsVal (c :: r) : Nat) : Int) := intText_digits (x := ⟨(c :: r).toArray⟩) h (by simp) (by rw [len_mk]; exact h2)
/-! ### parts of texts -/
theorem slen (z : Str) : z.cps.toList.length = z.length := Array.length_toList
theorem cutS_from {z : Str} {k : Nat} (h : k ≤ z.length) : L2.cutS z (some (k : Int)) none = ⟨(z.cps.toList.drop k).toArray⟩ := by
  unfold L2.cutS
  rw [HT.sIx_nat, HT.sIx_none, Nat.min_eq_left h]
  congr 2
  rw [List.take_of_length_le]
  rw [List.length_drop, slen]
  omega
theorem cutS_to {z : Str} {k : Nat} (h : k ≤ z.length) : L2.cutS z none (some (k : Int)) = ⟨(z.cps.toList.take k).toArray⟩ := by
  unfold L2.cutS
  rw [HT.sIx_nat, HT.sIx_none, Nat.min_eq_left h]
  rfl
theorem par_one {c : Nat} : ∀ (l acc : List Nat), TL.par [c] acc l = if c ∈ l then some (acc ++ l.takeWhile (· != c), (l.dropWhile (· != c)).tail) else none
  | [], acc => rfl
  | d :: r, acc => by
    by_cases h : d = c
    · subst h
      rw [TL.par_hit (by unfold TL.pre; simp)]
      simp
    · rw [TL.par_miss (by unfold TL.pre; simp [h]), par_one r]
      have h1 : (d != c) = true := by simp [h]
      have h2 : (c ∈ d :: r) ↔ c ∈ r := by simp [Ne.symm h]
      by_cases hm : c ∈ r
      · rw [if_pos hm, if_pos (h2.mpr hm), List.takeWhile_cons, if_pos h1, List.dropWhile_cons, if_pos h1]
        simp
      · rw [if_neg hm, if_neg (fun z => hm (h2.mp z))]
theorem partition_one (z : Str) (c : Nat) : Txt.partition z ⟨#[c]⟩ = if c ∈ z.cps.toList then (⟨(z.cps.toList.takeWhile (· != c)).toArray⟩, ⟨#[c]⟩, ⟨((z.cps.toList.dropWhile (· != c)).tail).toArray⟩) else (z, Str.empty, Str.empty) := by
  rw [TL.partition_par z ⟨#[c]⟩ (by show [c] ≠ []; simp)]
  show (match TL.par [c] [] z.cps.toList with | some (a, b) => ((⟨a.toArray⟩ : Str), (⟨#[c]⟩ : Str), (⟨b.toArray⟩ : Str)) | none => (z, Str.empty, Str.empty)) = _
  rw [par_one]
  by_cases h : c ∈ z.cps.toList
  · rw [if_pos h, if_pos h]
    rfl
  · rw [if_neg h, if_neg h]
theorem sign_at {z : Str} {i : Nat} {d : D} (h : (G.signs z)[i]? = some d) : ∃ c, z.cps.toList[i]? = some c ∧ d = .str ⟨#[c]⟩ := by
  unfold G.signs at h
  rw [List.getElem?_map] at h
  cases e : z.cps.toList[i]? with
  | none => rw [e] at h; cases h
  | some c => rw [e] at h; cases h; exact ⟨c, rfl, rfl⟩
theorem signs_len (z : Str) : (G.signs z).length = z.cps.toList.length := by unfold G.signs; rw [List.length_map]
theorem atI_nat {α : Type} {l : List α} {i : Nat} {c : α} (h : l[i]? = some c) : L2.atI l (i : Int) = some c := by
  have hl := (List.getElem?_eq_some_iff.mp h).1
  unfold L2.atI L2.ixN
  rw [if_pos (by omega), if_pos (by omega)]
  simpa using h
theorem put_none {S : DS} {a b : Addr} {o : O} (h : put S a o b = none) : S b = none := by
  unfold put at h
  split at h
  · cases h
  · exact h
theorem put_none_ne {S : DS} {a b : Addr} {o : O} (h : put S a o b = none) : b ≠ a := by
  intro e
  rw [e, put_same] at h
  cases h
/-! ### steps of readings -/
theorem itd {p : Prop} [Decidable p] {A B : Prop} (h1 : p → A) (h2 : ¬ p → B) : if decide p = true then A else B := by
  by_cases h : p
  · rw [if_pos (decide_eq_true h)]; exact h1 h
  · rw [decide_eq_false h, if_neg Bool.false_ne_true]; exact h2 h
theorem itn {p : Prop} [Decidable p] {A B : Prop} (h1 : ¬ p → A) (h2 : p → B) : if (!decide p) = true then A else B := by
  by_cases h : p
  · rw [decide_eq_true h]; exact (if_neg (by decide)).mpr (h2 h)
  · rw [decide_eq_false h]; exact (if_pos (by decide)).mpr (h1 h)
theorem itb {c : Bool} {A B : Prop} (h1 : c = true → A) (h2 : c = false → B) : if c = true then A else B := by
  cases c with
  | true => rw [if_pos rfl]; exact h1 rfl
  | false => rw [if_neg Bool.false_ne_true]; exact h2 rfl
theorem itnb {c : Bool} {A B : Prop} (h1 : c = false → A) (h2 : c = true → B) : if (!c) = true then A else B := by
  cases c with
  | true => exact (if_neg (by decide)).mpr (h2 rfl)
  | false => exact (if_pos (by decide)).mpr (h1 rfl)
theorem fin_rt {Q : QD} {E : XD} {S : DS} {d : D} (h : Q d S) : (fin Q E).rt d S := ⟨S, Sub.refl S, h⟩
theorem fin_ex {Q : QD} {E : XD} {S : DS} {c : Nat} {r : Env_} (h : E c S) : (fin Q E).ex c r S := ⟨S, Sub.refl S, h⟩
theorem fin_nx {Q : QD} {E : XD} {S : DS} {r : Env_} (h : Q .non S) : (fin Q E).nx r S := ⟨S, Sub.refl S, h⟩
theorem mulR {i j : Int} (h : -(2 ^ 64) < j ∧ j < 2 ^ 64) : MulOk i j := .inl (.inr h)
theorem mulL {i j : Int} (h : -(2 ^ 64) < i ∧ i < 2 ^ 64) : MulOk i j := .inl (.inl h)
theorem divS {j : Int} (h0 : j ≠ 0) (h : j.natAbs < 1073741824) : DivOk j := ⟨h0, .inl h⟩
theorem keep_put {S : DS} {a l : Addr} {o u : O} (h : S a = some o) (h' : S l = none) : put S l u a = some o := by rw [put_ne (ne_of_free h h')]; exact h
end G

set_option Elab.async false
set_option linter.all false
set_option maxRecDepth 100000
set_option maxHeartbeats 4000000
/-! GN: isinstance, texts with holes, a dict that is read at once, arguments that may be left out. -/
namespace G
open PySem PySem.Spec PyProof.Rows L2
section
variable {X : Cx} {Z : Zt} {tx : Tx} {M : List Ent} {L : Nat} {a b c e o : Expr} {es : List Expr} {te to ti : TD} {pos p p2 : Pos} {x m : Str}
/-! ### isinstance(x, T), T a built-in type -/
def tyN : D → String
  | .non => "NoneType"
  | .bl _ => "bool"
  | .int _ => "int"
  | .str _ => "str"
  | .tup _ => "tuple"
  | .rol _ => "list"
  | .ref _ => ""
def isT (T : String) (d : D) : Bool := tyN d == T || (tyN d == "bool" && T == "int")
theorem kitB_is : ∀ t ∈ ["NoneType", "bool", "int", "str", "tuple", "list"], ∀ T ∈ ["bool", "int", "str", "tuple", "list"], kitB t T = some (t == T || (t == "bool" && T == "int")) := by decide +kernel
def valD : D → Bool
  | .ref _ => false
  | _ => true
def dIsi (T : String) (te : TD) : TD := fun r S Q E => te r S (fun d S1 => valD d = true ∧ Q (.bl (isT T d)) S1) E
theorem tyx_dv {K : PySem.W.Frag} {H : Hp} {d : D} {v : V} (h : DV K H d v) (hv : valD d = true) : TyX K H v (.type (tyN d)) := by
  cases d with
  | non => rw [dv_non.mp h]; exact .base .non
  | bl b => rw [dv_bl.mp h]; exact .base (.bl b)
  | int i => rw [dv_int.mp h]; exact .base (.int i)
  | str x => rw [dv_str.mp h]; exact .base (.str x)
  | tup ds =>
    obtain ⟨p, vs, e, h1, _⟩ := dv_tup.mp h
    rw [e]
    rcases h1 with (h1 | ⟨o, h1⟩) | ⟨ob, its, n, h1, h2, _⟩
    · exact .base (.tup h1)
    · exact .fTuple h1
    · exact .kTuple h1 h2
  | rol ds =>
    obtain ⟨p, vs, e, h1, _⟩ := dv_rol.mp h
    rw [e]
    rcases h1 with ⟨o, h1⟩ | ⟨ob, its, n, h1, h2, _⟩
    · exact .base (.frz h1)
    · exact .kList h1 h2
  | ref a => cases hv
theorem tyN_mem {d : D} (h : valD d = true) : tyN d ∈ ["NoneType", "bool", "int", "str", "tuple", "list"] := by cases d <;> first | (cases h; done) | simp [tyN]
theorem pd_isi (T : String) (hT : T ∈ ["bool", "int", "str", "tuple", "list"]) (hM : TxOk X.prog X.w X.K X.mg X.base Z tx M) (i j : Nat) {y : Str} (hN : tx.bl i = some ("isinstance" : Str)) (hN2 : tx.bl j = some y) (hg : Gl X "isinstance") (hg2 : Gl X y) (hb : bootBuiltins "isinstance" = some (.builtin "isinstance")) (hb2 : bootBuiltins y = some (.type T)) (he : PD X Z e te)
    (hn2 : y ≠ "__name__" := by decide) (hd2 : (y == ("__debug__" : Str)) = false := by decide) (hs1 : starEach [e, .Name y p2] X.env = (false, eval e X.env) :: starEach [.Name y p2] X.env := by rfl) (hs2 : starEach [.Name y p2] X.env = (false, eval (.Name y p2) X.env) :: starEach [] X.env := by rfl)
    (hpl : (backTo pos (starEach [.Name y p2] X.env)).any (·.1) = false := by rfl) :
    PD X Z (.Call (.Name "isinstance" p) [e, .Name y p2] [] pos) (dIsi T te) := fun W tk => by
  have ht : PE X (.Name y p2) (tC (V.ty T)) := pe_bltn hg2 (hM.bl j _ hN2) hb2 rfl hn2 hd2
  refine PE.imp (pe_callB call_isi hg (hM.bl i _ hN) hb (pa_cons (he W tk) (pa_cons ht pa_nil hs2) hs1) (by decide) (by decide) hs1 hpl) fun σ H Q h => ?_
  obtain ⟨r, S, Q0, E0, R, q, k, kE⟩ := h
  refine ⟨r, S, _, E0, R, q, fun d S1 v H1 e1 st1 dv1 q1 => ?_, kE⟩
  exact ⟨v, .ty T, .type (tyN d), .type T, isT T d, rfl, .ty T, tyx_dv dv1 q1.1, kit_ty (kitB_is _ (tyN_mem q1.1) T hT), k _ S1 _ H1 e1 st1 (dv_bl.mpr rfl) q1.2⟩

/-! ### texts with holes -/
def dFmt (te : TD) : TD := fun r S Q E => te r S (fun d S1 => match d with
  | .str y => y.length ≤ sizeLine ∧ Q (.str y) S1
  | .int i => i.natAbs.log2 < 1920 ∧ Q (.str (toString i)) S1
  | _ => False) E
theorem pd_fmt (he : PD X Z e te) : PD X Z (.FormattedValue e (-1) none pos) (dFmt te) := fun W tk => by
  refine PE.imp (pe_fmt (he W tk)) fun σ H Q h => ?_
  obtain ⟨r, S, Q0, E0, R, q, k, kE⟩ := h
  refine ⟨r, S, _, E0, R, q, fun d S1 v H1 e1 st1 dv1 q1 => ?_, kE⟩
  cases d with
  | str y => exact .inl ⟨y, dv_str.mp dv1, q1.1, k _ S1 _ H1 e1 st1 (dv_str.mpr rfl) q1.2⟩
  | int i => exact .inr ⟨i, dv_int.mp dv1, q1.1, k _ S1 _ H1 e1 st1 (dv_str.mpr rfl) q1.2⟩
  | _ => exact q1.elim
def dJs : List TD → Str → TD
  | [], acc => fun _ S Q _ => Q (.str acc) S
  | t :: ts, acc => fun r S Q E => t r S (fun d S1 => match d with
    | .str y => (acc ++ y).length ≤ sizeLine ∧ dJs ts (acc ++ y) r S1 Q E
    | _ => False) E
def PDJ (X : Cx) (Z : Zt) (es : List Expr) (ts : List TD) : Prop := ∀ W, Takes X W → PJ X es (ts.map (lift X.K Z W))
theorem pdj_nil : PDJ X Z [] [] := fun _ _ => .nil
theorem pdj_cons {t : TD} {ts : List TD} (h : PD X Z e t) (r : PDJ X Z es ts) : PDJ X Z (e :: es) (t :: ts) := fun W tk => .cons (h W tk) (r W tk)
theorem lift_js {K : PySem.W.Frag} {W : WX} {σ : L2.St} : ∀ (ts : List TD) (acc : Str) (H : Hp) (Q : VK), lift K Z W (dJs ts acc) σ H Q → tJs (ts.map (lift K Z W)) acc σ H fun out H1 => Q (.str out) H1
  | [], acc, H, Q, h => by
    obtain ⟨r, S, Q0, E0, R, q, k, _⟩ := h
    exact k _ S _ H Go.r R.st (dv_str.mpr rfl) q
  | t :: ts, acc, H, Q, h => by
    obtain ⟨r, S, Q0, E0, R, q, k, kE⟩ := h
    refine ⟨r, S, _, E0, R, q, fun d S1 v H1 e1 st1 dv1 q1 => ?_, kE⟩
    cases d with
    | str y => exact ⟨y, dv_str.mp dv1, q1.1, lift_js ts (acc ++ y) H1 Q ⟨r, S1, Q0, E0, R.go e1 st1, q1.2, fun d2 S2 v2 H2 e2 => k d2 S2 v2 H2 (e1.trans e2), fun c S2 dd H2 e2 => kE c S2 dd H2 (e1.trans e2)⟩⟩
    | _ => exact q1.elim
theorem pd_joined {v1 v2 : Expr} {rest : List Expr} {ts : List TD} (h : PDJ X Z (v1 :: v2 :: rest) ts) : PD X Z (.JoinedStr (v1 :: v2 :: rest) pos) (dJs ts Str.empty) := fun W tk =>
  PE.imp (pe_joined (h W tk)) fun _ H Q h => lift_js ts Str.empty H Q h

/-! ### a dict that is read at once -/
def dPairs : List (TD × TD) → Env_ → DS → (List (D × D) → DS → Prop) → XD → Prop
  | [], _, S, Q, _ => Q [] S
  | (tk, tv) :: rest, r, S, Q, E => tk r S (fun x S1 => tv r S1 (fun y S2 => dPairs rest r S2 (fun ps S3 => Q ((x, y) :: ps) S3) E) E) E
/-- keys are texts, all different -/
def getS : List (D × D) → Str → Option D
  | [], _ => none
  | (.str z, d) :: r, k => if z = k then some d else getS r k
  | _ :: _, _ => none
def keysS : List (D × D) → Option (List Str)
  | [] => some []
  | (.str z, _) :: r => (keysS r).map (z :: ·)
  | _ :: _ => none
def dDispIx (trs : List (TD × TD)) (ti : TD) : TD := fun r S Q E => dPairs trs r S (fun ps S1 => ∃ ks, keysS ps = some ks ∧ ks.Nodup ∧ ps.length ≤ 15 ∧ ti r S1 (fun y S2 => ∃ z d, y = .str z ∧ getS ps z = some d ∧ Q d S2) E) E
def PDP (X : Cx) (Z : Zt) (pos : Pos) (ks : List (Option Expr)) (vs : List Expr) (trs : List (TD × TD)) : Prop := ∀ W, Takes X W → PPs X pos ks vs (trs.map fun t => (lift X.K Z W t.1, lift X.K Z W t.2))
theorem pdp_nil : PDP X Z pos [] [] [] := fun _ _ => pps_nil
theorem pdp_cons {k v : Expr} {ks : List (Option Expr)} {vs : List Expr} {tk tv : TD} {trs : List (TD × TD)} (hk : PD X Z k tk) (hv : PD X Z v tv) (hr : PDP X Z pos ks vs trs) : PDP X Z pos (some k :: ks) (v :: vs) ((tk, tv) :: trs) := fun W t => pps_cons (hk W t) (hv W t) (hr W t)
def DPs (K : PySem.W.Frag) (H : Hp) : List (D × D) → List (V × V) → Prop
  | [], ws => ws = []
  | (k, d) :: r, ws => ∃ u v q, ws = (u, v) :: q ∧ DV K H k u ∧ DV K H d v ∧ DPs K H r q
theorem DPs.mono {K : PySem.W.Frag} {H H' : Hp} (e : Evo H H') : ∀ {ps : List (D × D)} {ws : List (V × V)}, DPs K H ps ws → DPs K H' ps ws
  | [], _, h => h
  | (k, d) :: r, _, h => by
    obtain ⟨u, v, q, h1, h2, h3, h4⟩ := h
    exact ⟨u, v, q, h1, h2.mono e, h3.mono e, DPs.mono e h4⟩
theorem lift_pairs {K : PySem.W.Frag} {W : WX} {σ : L2.St} {r : Env_} : ∀ (trs : List (TD × TD)) (S : DS) (H : Hp) (Q0 : List (D × D) → DS → Prop) (E0 : XD) (Q : List (V × V) → Hp → Prop), Rel K Z r S σ H → dPairs trs r S Q0 E0 →
    (∀ ps S' ws H', Go H S H' S' → ST K Z S' H' → DPs K H' ps ws → Q0 ps S' → Q ws H') → (∀ c S' dd H', Go H S H' S' → ST K Z S' H' → E0 c S' → W (Z.ex c) dd σ H') → tPairs (trs.map fun t => (lift K Z W t.1, lift K Z W t.2)) σ H Q
  | [], S, H, Q0, E0, Q, R, q, k, _ => k [] S [] H Go.r R.st rfl q
  | (tk, tv) :: rest, S, H, Q0, E0, Q, R, q, k, kE => by
    refine ⟨r, S, _, E0, R, q, fun x S1 v H1 e1 st1 dv1 q1 => ?_, kE⟩
    refine ⟨r, S1, _, E0, R.go e1 st1, q1, fun y S2 w H2 e2 st2 dv2 q2 => ?_, fun c S2 dd H2 e2 => kE c S2 dd H2 (e1.trans e2)⟩
    refine lift_pairs rest S2 H2 _ E0 _ (R.go (e1.trans e2) st2) q2 (fun ps S3 ws H3 e3 st3 d3 q3 => ?_) fun c S3 dd H3 e3 => kE c S3 dd H3 ((e1.trans e2).trans e3)
    exact k ((x, y) :: ps) S3 _ H3 ((e1.trans e2).trans e3) st3 ⟨v, w, ws, rfl, dv1.mono (e2.trans e3).evo, dv2.mono e3.evo, d3⟩ q3
/-- the pairs as they are stored -/
theorem pairs_kv {K : PySem.W.Frag} {H : Hp} : ∀ {ps : List (D × D)} {ws : List (V × V)} {ks : List Str}, DPs K H ps ws → keysS ps = some ks → ∃ kvs : List (Key × V), ws = kvs.map (fun kv => (kV kv.1, kv.2)) ∧ kvs.length = ps.length ∧ kvs.map (·.1) = ks.map Sum.inr ∧ ∀ z d, getS ps z = some d → ∃ v, valV kvs (.inr z) = some v ∧ DV K H d v
  | [], _, ks, h, e => by
    cases e
    rw [show _ = ([] : List (V × V)) from h]
    exact ⟨[], rfl, rfl, rfl, fun z d q => by cases q⟩
  | (k, d) :: r, _, ks, h, e => by
    obtain ⟨u, v, q, rfl, h2, h3, h4⟩ := h
    cases k with
    | str z =>
      have e : (keysS r).map (z :: ·) = some ks := e
      cases er : keysS r with
      | none => rw [er] at e; cases e
      | some kr =>
        rw [er] at e
        cases e
        obtain ⟨kvs, i1, i2, i3, i4⟩ := pairs_kv h4 er
        refine ⟨(.inr z, v) :: kvs, ?_, ?_, ?_, fun y d' hq => ?_⟩
        · rw [i1, dv_str.mp h2]; rfl
        · rw [List.length_cons, List.length_cons, i2]
        · rw [List.map_cons, List.map_cons, i3]
        · have hq : (if z = y then some d else getS r y) = some d' := hq
          by_cases hz : z = y
          · rw [if_pos hz] at hq
            cases hq
            exact ⟨v, valV_pos (by rw [hz]), h3⟩
          · rw [if_neg hz] at hq
            obtain ⟨w, j1, j2⟩ := i4 y d' hq
            exact ⟨w, by rw [valV_neg (fun q => hz (Sum.inr.inj q))]; exact j1, j2⟩
    | _ => cases e
theorem mergeK_of : ∀ (kvs acc : List (Key × V)), (acc ++ kvs).map (·.1) |>.Nodup → mergeK acc kvs = acc ++ kvs
  | [], acc, _ => by simp [mergeK]
  | (k, v) :: r, acc, h => by
    have hk : valV acc k = none := by
      cases e : valV acc k with
      | none => rfl
      | some w =>
        have := valV_any k acc
        rw [e] at this
        obtain ⟨p, hp, hp2⟩ := List.any_eq_true.mp this
        rw [List.map_append, List.nodup_append] at h
        exact absurd (of_decide_eq_true hp2) (h.2.2 _ (List.mem_map.mpr ⟨p, hp, rfl⟩) _ (by simp))
    have e : putK acc k v = acc ++ [(k, v)] := by
      unfold putK
      rw [if_neg (by rw [valV_any, hk]; simp)]
    show mergeK (putK acc k v) r = _
    rw [e, mergeK_of r (acc ++ [(k, v)]) (by simpa using h)]
    simp
theorem pd_dispIx {keys : List (Option Expr)} {values : List Expr} {trs : List (TD × TD)} {i : Expr} (hu : X.A.units + 64 < cLine) (h : PDP X Z p keys values trs) (hi : PD X Z i ti) (hall : keys.all (·.isSome) = true := by rfl) (hl : keys.length = values.length := by rfl) (h0 : keys ≠ [] := by exact fun z => nomatch z)
    (h15 : keys.length ≤ 15 := by decide) (hs : NoSl i := by exact fun _ _ => rfl) : PD X Z (.Subscript (.Dict keys values p) i pos) (dDispIx trs ti) := fun W tk => by
  refine PE.imp (pe_dget (by omega) (pe_disp (h W tk) hall hl h0 h15) (hi W tk) hs) fun σ H Q h => ?_
  obtain ⟨r, S, Q0, E0, R, q, k, kE⟩ := h
  intro g hg
  have hgS : S g = none := R.st.free hg
  have R1 : Rel X.K Z r S σ (upd H g (.dK [])) := R.go (Go.new hg) (R.st.new hg)
  refine lift_pairs trs S _ _ E0 _ R1 q (fun ps S2 ws H2 e2 st2 dp q2 => ?_) fun c S' dd H' e' => kE c S' dd H' ((Go.new hg).trans e')
  have hg2 : H2 g = some (.dK []) := e2.un g _ upd_same hgS (fun ps z => nomatch z)
  have hgS2 : S2 g = none := e2.fr g (by rw [upd_same]; exact fun z => nomatch z) hgS
  obtain ⟨ks, hks, hnd, hlen, q2⟩ := q2
  obtain ⟨kvs, i1, i2, i3, i4⟩ := pairs_kv dp hks
  have hm : mergeK [] kvs = kvs := mergeK_of kvs [] (by
    rw [List.nil_append, i3]
    exact List.Pairwise.map _ (fun a b h z => h (Sum.inr.inj z)) hnd)
  have ev3 : Evo H2 (upd H2 g (.dK (mergeK [] kvs))) := mut_evo hg2 trivial
  have g2 := (Go.new hg).trans e2
  have g3 : Go H S (upd H2 g (.dK (mergeK [] kvs))) S2 := ⟨g2.evo.trans ev3, g2.fr, fun b o e1 e2' e3 => by rw [upd_ne (ne_of_none e1 hg)]; exact g2.un b o e1 e2' e3⟩
  have st3 : ST X.K Z S2 (upd H2 g (.dK (mergeK [] kvs))) := ⟨fun b o eb => (st2.sr b o eb).mono ev3 (upd_ne fun z => by rw [z, hgS2] at eb; cases eb), st2.tb.wrote hg2 trivial (fun _ z => nomatch z)⟩
  refine ⟨hg2, kvs, i1, by omega, r, S2, _, E0, ⟨R.sl.mono g3.evo, st3⟩, q2, fun y S3 w H3 e3 st3' dw ⟨z, d, ey, hz, q3⟩ => ?_, fun c S' dd H' e' => kE c S' dd H' (g3.trans e')⟩
  subst ey
  rw [dv_str.mp dw]
  obtain ⟨v, j1, j2⟩ := i4 z d hz
  have h3 : H3 g = some (.dK kvs) := by
    have := e3.un g _ upd_same hgS2 (fun ps z => nomatch z)
    rw [hm] at this
    exact this
  refine ⟨g, v, rfl, ?_, k d S3 v H3 (g3.trans e3) st3' (j2.mono (ev3.trans e3.evo)) q3⟩
  have := DGet.k (k := .inr z) h3
  rw [j1] at this
  exact this
end
/-! ### arguments that may be left out -/
section
variable {P : Program} {w : World} {K : PySem.W.Frag} {mg : Str → Option Value} {base : Heap} {Z : Zt}
theorem FunC.toD {x qual : Str} {st : Stmt} {f : Addr} {fd : FuncData} {cdv dV : Value} {dvs : List V} (F : FunC K x qual st f fd cdv dV) (k : PySem.W.keepIn K (.ref f) = true) (h : DflV K dV dvs) : FunD K x qual (defArgs st) (defBody st) (defScope st) dvs [] f fd := by
  obtain ⟨oc, od, kV, doc, pm, an, ct, osl, e, lk, hcd⟩ := F.ex
  exact ⟨⟨oc, od, dV, kV, doc, pm, an, cdv, ct, osl, e, lk, hcd, h, .inl rfl⟩, k⟩
theorem FnD.mkD {f : Addr} {fd : FuncData} {ps : List Str} {L : Nat} {e : Ent} {dvs : List V} (F : FnOk P w K mg base (L2.CX P w) L f fd ps (liftSp K Z e.sp)) (h : ps.length = e.ar) (dv : ∀ H, DVs K H e.dfl dvs) (hl : e.dfl.length = dvs.length) (b : ∀ m, m ≤ dvs.length → ∃ ds, Vals (dvs.drop m) ds ∧ Binds K fd ps ds) : FnD P w K mg base Z L f e :=
  ⟨fd, ps, F, h, fun m hm => by
    obtain ⟨ds, h1, h2⟩ := b m (by omega)
    exact ⟨dvs.drop m, ds, h2, h1, fun H => (dv H).drop m⟩⟩
end
end G

set_option Elab.async false
set_option linter.all false
set_option maxRecDepth 100000
set_option maxHeartbeats 4000000
/-! GO: a generator's test against a closed text; equality of a datum with itself; lists written in the middle; parts counted from the end. -/
namespace G
open PySem PySem.Spec PyProof.Rows L2 GxR
theorem elt_notIn_lit {prog : Program} {w : World} {mg : Str → Option Value} {scope : Scope} {x : Str} {z : Str} {j : Nat} {p1 p2 p3 : Pos} (hk : scope.kind = .function) (hl : scope.names.lookup x = some .local)
    (hd : (x == ("__debug__" : Str)) = false := by decide) :
    EltG prog w mg scope x (.Compare (.Name x p1) [.NotIn] [.Constant (.str z) j p2] p3) (fun c => !decide (c ∈ z.cps.toList)) := by
  intro cenv A' E' c t s₂ m₂ hs hg hN hn hv
  refine wpAny_Compare1 ?_
  refine wpAny_Name (wpAny_loadName_local (by rw [hs]; exact hk) (show cenv.scope.names.lookup x = some .local by rw [hs]; exact hl) hn hv ?_) hd
  refine wpAny_Constant_str ?_
  refine PyProof.Rows.notIn_str ⟨?_, keeps_tok _ _⟩
  rw [PySem.StrLaws.found_one z c]
mutual
theorem deq_refl : ∀ (n : Nat) (x : D), okD n x = true → deq x x = true
  | n, .non, _ => by cases n <;> rfl
  | n, .bl b, _ => by cases n <;> simp [deq]
  | n, .int i, _ => by cases n <;> simp [deq]
  | n, .str i, _ => by cases n <;> simp [deq]
  | n, .rol xs, h => by cases n <;> simp [okD] at h
  | n, .ref a, h => by cases n <;> simp [okD] at h
  | n, .tup xs, h => by
    cases n with
    | zero => simp [okD] at h
    | succ n =>
      simp only [okD] at h
      simp only [deq]
      exact deqs_refl n xs h
theorem deqs_refl : ∀ (n : Nat) (xs : List D), okDs n xs = true → deqs xs xs = true
  | n, [], _ => rfl
  | n, x :: xs, h => by
    simp only [okDs, Bool.and_eq_true] at h
    simp only [deqs, deq_refl n x h.1, deqs_refl n xs h.2, Bool.and_self]
end
theorem okDs_of {n : Nat} : ∀ {xs : List D}, (∀ x ∈ xs, okD n x = true) → okDs n xs = true
  | [], _ => rfl
  | x :: xs, h => by
    simp only [okDs, Bool.and_eq_true]
    exact ⟨h x (by simp), okDs_of fun y hy => h y (by simp [hy])⟩
theorem get_mid {α : Type} (A B : List α) (h : α) : (A ++ h :: B)[A.length]? = some h := by simp
theorem set_mid {α : Type} (A B : List α) (h x : α) : (A ++ h :: B).set A.length x = A ++ x :: B := by
  rw [List.set_append_right _ _ (Nat.le_refl _), Nat.sub_self]
  rfl
theorem ixN_nat {n i : Nat} (h : i < n) : ixN n (i : Int) = some i := by
  unfold ixN
  rw [if_pos (by omega), if_pos (by omega)]
  simp
theorem cutS_negTo {z : Str} {k : Nat} (h0 : 0 < k) (h : k ≤ z.length) : L2.cutS z none (some (-(k : Int))) = ⟨(z.cps.toList.take (z.length - k)).toArray⟩ := by
  rw [← cutS_to (by omega)]
  unfold L2.cutS
  have : HT.sIx z.length z.length (some (-(k : Int))) = HT.sIx z.length z.length (some ((z.length - k : Nat) : Int)) := by
    rw [HT.sIx_nat]
    show (if (-(k : Int)) < 0 then ((-(k : Int)) + (z.length : Int)).toNat else min (-(k : Int)).toNat z.length) = _
    rw [if_pos (by omega)]
    omega
  rw [this]
theorem cutS_negFrom {z : Str} {k : Nat} (h0 : 0 < k) (h : k ≤ z.length) : L2.cutS z (some (-(k : Int))) none = ⟨(z.cps.toList.drop (z.length - k)).toArray⟩ := by
  rw [← cutS_from (by omega)]
  unfold L2.cutS
  have : HT.sIx z.length 0 (some (-(k : Int))) = HT.sIx z.length 0 (some ((z.length - k : Nat) : Int)) := by
    rw [HT.sIx_nat]
    show (if (-(k : Int)) < 0 then ((-(k : Int)) + (z.length : Int)).toNat else min (-(k : Int)).toNat z.length) = _
    rw [if_pos (by omega)]
    omega
  rw [this]
theorem starts_one (t : List Nat) (c : Nat) : Txt.startswith ⟨t.toArray⟩ ⟨#[c]⟩ = decide (t.head? = some c) := by
  unfold Txt.startswith
  rw [StrLaws.subAt_eq]
  show (decide (0 + 1 ≤ t.toArray.size) && ((t.drop 0).take 1 == [c])) = _
  cases t with
  | nil => simp
  | cons d r =>
    simp
    rw [Bool.eq_iff_iff]; simp
theorem int_digits {l : List Nat} (h : NumText.AllDigits l) (hne : l ≠ []) (hl : l.length ≤ 4300) : intText? ⟨l.toArray⟩ = some ((NumText.digitsVal l : Nat) : Int) := by
  cases l with
  | nil => exact absurd rfl hne
  | cons c r => exact NumText.intText_digits' h hl
theorem dval_lt' : ∀ (l : List Nat), NumText.AllDigits l → NumText.digitsVal l < 10 ^ l.length := by
  intro l
  rw [← List.reverse_reverse l]
  generalize l.reverse = m
  induction m with
  | nil => intro _; decide
  | cons c m ih =>
    intro h
    rw [List.reverse_cons] at h ⊢
    rw [NumText.digitsVal_snoc, List.length_append, List.length_singleton, Nat.pow_succ]
    have h1 := ih fun d hd => h d (List.mem_append_left _ hd)
    have h2 := h c (List.mem_append_right _ (List.mem_singleton.mpr rfl))
    omega
theorem sub_pq {S : DS} {q l : Addr} {y z o : O} (h : put S q y l = none) : Sub (put S q o) (put (put (put S q y) l z) q o) := fun a u e => by
  by_cases h1 : a = q
  · subst h1; rw [put_same] at e ⊢; exact e
  · rw [put_ne h1] at e ⊢
    have : a ≠ l := by
      intro z; subst z; rw [put_ne h1] at h; rw [h] at e; cases e
    rw [put_ne this, put_ne h1]; exact e
section
variable {X : Cx} {Z : Zt}
/-- a test that is an if itself -/
def dTIf (c t u : TDT) : TDT := fun p S Q E => c p S (fun b S1 => if b = true then t p S1 Q E else u p S1 Q E) E
theorem pdt_if {c a b : Expr} {tC tA tB : TDT} {pos : Pos} (hc : PDT X Z c tC) (ha : PDT X Z a tA) (hb : PDT X Z b tB) : PDT X Z (.IfExp c a b pos) (dTIf tC tA tB) := fun W tk => by
  refine ⟨fun pins s σ H Q I h => ?_⟩
  obtain ⟨p, S, Q0, E0, R, q, k, kE⟩ := h
  refine isTrue_IfExp (thn ((hc W tk).run pins s σ H (fun c H1 => if c = true then liftT X.K Z W tA σ H1 Q else liftT X.K Z W tB σ H1 Q) I ⟨p, S, _, E0, R, q, fun c S' H' e st q' => ?_, kE⟩) fun c s1 ⟨H1, I1, q1⟩ => ?_)
  · cases c with
    | true => exact iteT ⟨p, S', Q0, E0, R.go e st, (if_pos rfl).mp q', fun d2 S2 H2 e2 => k d2 S2 H2 (e.trans e2), fun c S2 dd H2 e2 => kE c S2 dd H2 (e.trans e2)⟩
    | false => exact iteF ⟨p, S', Q0, E0, R.go e st, (if_neg Bool.false_ne_true).mp q', fun d2 S2 H2 e2 => k d2 S2 H2 (e.trans e2), fun c S2 dd H2 e2 => kE c S2 dd H2 (e.trans e2)⟩
  · cases c with
    | true => exact (ha W tk).run pins s1 σ H1 Q I1 ((if_pos rfl).mp q1)
    | false => exact (hb W tk).run pins s1 σ H1 Q I1 ((if_neg Bool.false_ne_true).mp q1)
end
end G

set_option Elab.async false
set_option linter.all false
set_option maxRecDepth 100000
set_option maxHeartbeats 4000000
/-! GP: more methods of texts; enumerate and zip; a generator's test in a closed text. -/
namespace G
open PySem PySem.Spec PyProof.Rows L2 GxR
theorem elt_in_lit {prog : Program} {w : World} {mg : Str → Option Value} {scope : Scope} {x : Str} {z : Str} {j : Nat} {p1 p2 p3 : Pos} (hk : scope.kind = .function) (hl : scope.names.lookup x = some .local)
    (hd : (x == ("__debug__" : Str)) = false := by decide) :
    EltG prog w mg scope x (.Compare (.Name x p1) [.In] [.Constant (.str z) j p2] p3) (fun c => decide (c ∈ z.cps.toList)) := by
  intro cenv A' E' c t s₂ m₂ hs hg hN hn hv
  refine wpAny_Compare1 ?_
  refine wpAny_Name (wpAny_loadName_local (by rw [hs]; exact hk) (show cenv.scope.names.lookup x = some .local by rw [hs]; exact hl) hn hv ?_) hd
  refine wpAny_Constant_str ?_
  refine PyProof.Rows.in_str ⟨?_, keeps_tok _ _⟩
  rw [PySem.StrLaws.found_one z c]
section
variable {X : Cx} {Z : Zt} {K : PySem.W.Frag} {H0 : Hp}
def rEnds : RDM := fun x ds S Q => match x, ds with
  | .str a, [.str b] => Q (.bl (Txt.endswith a b)) S
  | _, _ => False
theorem md_endswith : MtD X Z "str.endswith" rEnds := by
  intro pins s σ H v vs u us Q I rx rv h
  obtain ⟨x, ds, S, Q0, st, dx, dv, h, k⟩ := h
  match x, ds, h, dx, dv with
  | .str a, [.str b], h, dx, dv =>
    obtain ⟨w, rfl, dw⟩ := one_of dv
    rw [dv_str.mp dx] at rx
    rw [dv_str.mp dw] at rv
    exact mt_endswith pins s σ H _ _ u us Q I rx rv ⟨a, b, rfl, rfl, k _ S _ H Go.r st (dv_bl.mpr rfl) h⟩
def rSplit : RDM := fun x ds S Q => match x, ds with
  | .str a, [.str b] => (b.length == 0) = false ∧ a.length + 2 ≤ sizeLine ∧ ∀ l, S l = none → Q (.ref l) (put S l (.lst ((Txt.split a b).map D.str)))
  | _, _ => False
theorem md_split : MtD X Z "str.split" rSplit := by
  intro pins s σ H v vs u us Q I rx rv h
  obtain ⟨x, ds, S, Q0, st, dx, dv, h, k⟩ := h
  match x, ds, h, dx, dv with
  | .str a, [.str b], h, dx, dv =>
    obtain ⟨w, rfl, dw⟩ := one_of dv
    rw [dv_str.mp dx] at rx
    rw [dv_str.mp dw] at rv
    exact mt_split pins s σ H _ _ u us Q I rx rv ⟨a, b, rfl, rfl, h.1, h.2.1, fun p hp => k _ _ _ _ (Go.made hp) (st.made (o := .lst ((Txt.split a b).map D.str)) hp ⟨_, upd_same, dvs_strs _⟩) (dv_ref.mpr rfl) (h.2.2 p (st.free hp))⟩
def rJoin : RDM := fun x ds S Q => match x, ds with
  | .str a, [.ref l] => ∃ ys : List Str, S l = some (.lst (ys.map D.str)) ∧ (ys.map (·.length)).sum + ys.length * a.length ≤ 16777216 ∧ Q (.str (Txt.join a ys)) S
  | .str a, [.tup ds] => ∃ ys : List Str, ds = ys.map D.str ∧ (ys.map (·.length)).sum + ys.length * a.length ≤ 16777216 ∧ Q (.str (Txt.join a ys)) S
  | _, _ => False
theorem md_join : MtD X Z "str.join" rJoin := by
  intro pins s σ H v vs u us Q I rx rv h
  obtain ⟨x, ds, S, Q0, st, dx, dv, h, k⟩ := h
  match x, ds, h, dx, dv with
  | .str a, [.ref l], h, dx, dv =>
    obtain ⟨w, rfl, dw⟩ := one_of dv
    obtain ⟨ys, sa, hz, h⟩ := h
    rw [dv_str.mp dx] at rx
    rw [dv_ref.mp dw] at rv
    obtain ⟨vs, h1, d1⟩ := sr_lst st sa
    rw [dvs_strsE d1] at h1
    exact mt_join pins s σ H _ _ u us Q I rx rv ⟨a, l, ys, rfl, rfl, .inl (SqL.of h1), hz, k _ S _ H Go.r st (dv_str.mpr rfl) h⟩
  | .str a, [.tup ds], h, dx, dv =>
    obtain ⟨w, rfl, dw⟩ := one_of dv
    obtain ⟨ys, e, hz, h⟩ := h
    subst e
    rw [dv_str.mp dx] at rx
    obtain ⟨p, vs, e2, h1, d1⟩ := dv_tup.mp dw
    rw [e2] at rv
    rw [dvs_strsE d1] at h1
    exact mt_join pins s σ H _ _ u us Q I rx rv ⟨a, p, ys, rfl, rfl, .inr h1, hz, k _ S _ H Go.r st (dv_str.mpr rfl) h⟩
/-! ### enumerate, zip -/
def numD (ds : List D) : List D := ds.mapIdx fun i d => D.tup [.int (i : Nat), d]
theorem numD_len (ds : List D) : (numD ds).length = ds.length := by unfold numD; rw [List.length_mapIdx]
theorem numD_at {ds : List D} {i : Nat} {d : D} (h : (numD ds)[i]? = some d) : ∃ e, ds[i]? = some e ∧ d = .tup [.int (i : Nat), e] := by
  unfold numD at h
  rw [List.getElem?_mapIdx] at h
  cases e : ds[i]? with
  | none => rw [e] at h; cases h
  | some x => rw [e] at h; cases h; exact ⟨x, rfl, rfl⟩
theorem y_enum {l : Addr} {ds : List D} : Yields K Z H0 (Ite K l) (numD ds) (fun S => S l = some (.lst ds)) := fun i S H _ st ok => by
  obtain ⟨vs, h1, d1⟩ := sr_lst st ok
  refine ⟨fun d hd => ?_, fun hi => ⟨vs, SqL.of h1, by rw [← d1.len, ← numD_len]; exact hi⟩⟩
  obtain ⟨e, he, rfl⟩ := numD_at hd
  obtain ⟨v, hv, dv⟩ := d1.get he
  refine ⟨⟨vs, v, SqL.of h1, hv⟩, fun x H' y => ?_⟩
  obtain ⟨T, x', e1, hT, e2, y⟩ := y
  have := y vs (SqL.of h1)
  rw [hv] at this
  cases this
  subst e1 e2
  exact ⟨dv_tup.mpr ⟨T, _, rfl, .inl (.inl upd_same), DVs.cons (dv_int.mpr rfl) (DVs.cons (dv.mono (Evo.new hT)) (dvs_nil.mpr rfl))⟩, Evo.put_go hT st⟩
def iEnumD (ta : TDA) : TDI := fun r S Q E => ta r S (fun ds S1 => match ds with
  | [.ref l] => ∃ xs, S1 l = some (.lst xs) ∧ Q (numD xs) (fun S => S l = some (.lst xs)) S1
  | _ => False) E
theorem pdi_enum {M : List Ent} {tx : Tx} {a : Expr} {ta : TDA} {p pos tpos : Pos} {elts : List Expr} {kk : Nat} (hM : TxOk X.prog X.w X.K X.mg X.base Z tx M) (i : Nat) (hN : tx.bl i = some ("enumerate" : Str)) (ha : PDA X Z [a] ta) (hg : Gl X "enumerate" := by rfl) (hs : starEach [a] X.env = [(false, eval a X.env)] := by rfl) : PDI X Z (.Tuple elts kk tpos) (.Call (.Name "enumerate" p) [a] [] pos) (iEnumD ta) := fun W tk => by
  refine PI.imp (pi_enum hg (hM.bl i _ hN) (ha W tk) hs) fun σ H R h => ?_
  obtain ⟨r, S, Q0, E0, RR, q, k, kE⟩ := h
  refine ⟨r, S, _, E0, RR, q, fun ds S1 vs H1 e1 st1 dv1 q1 => ?_, kE⟩
  match ds, q1, dv1 with
  | [.ref l], q1, dv1 =>
    obtain ⟨xs, sa, q2⟩ := q1
    obtain ⟨w, rfl, dw⟩ := one_of dv1
    obtain ⟨vs, h1, d1⟩ := sr_lst st1 sa
    exact ⟨l, vs, by rw [dv_ref.mp dw], SqL.of h1, k _ _ S1 _ H1 e1 st1 y_enum q2⟩
def zipD (xs ys : List D) : List D := List.zipWith (fun x y => D.tup [x, y]) xs ys
theorem zipD_at {xs ys : List D} {i : Nat} {d : D} (h : (zipD xs ys)[i]? = some d) : ∃ x y, xs[i]? = some x ∧ ys[i]? = some y ∧ d = .tup [x, y] := by
  unfold zipD at h
  rw [List.getElem?_zipWith] at h
  cases e : xs[i]? with
  | none => rw [e] at h; cases h
  | some x =>
    cases e2 : ys[i]? with
    | none => rw [e, e2] at h; cases h
    | some y => rw [e, e2] at h; cases h; exact ⟨x, y, rfl, rfl, rfl⟩
theorem y_zip {l m : Addr} {xs ys : List D} : Yields K Z H0 (Itz K l m) (zipD xs ys) (fun S => S l = some (.lst xs) ∧ S m = some (.lst ys)) := fun i S H _ st ok => by
  obtain ⟨vs, h1, d1⟩ := sr_lst st ok.1
  obtain ⟨ws, h2, d2⟩ := sr_lst st ok.2
  refine ⟨fun d hd => ?_, fun hi => ⟨vs, ws, SqL.of h1, SqL.of h2, ?_⟩⟩
  · obtain ⟨x, y, e1, e2, rfl⟩ := zipD_at hd
    obtain ⟨v, hv, dv⟩ := d1.get e1
    obtain ⟨w, hw, dw⟩ := d2.get e2
    refine ⟨⟨vs, ws, v, w, SqL.of h1, SqL.of h2, hv, hw⟩, fun x H' y => ?_⟩
    obtain ⟨T, x', y', e1, hT, e2, y1, y2⟩ := y
    have z1 := y1 vs (SqL.of h1)
    have z2 := y2 ws (SqL.of h2)
    rw [hv] at z1
    rw [hw] at z2
    cases z1
    cases z2
    subst e1 e2
    exact ⟨dv_tup.mpr ⟨T, _, rfl, .inl (.inl upd_same), DVs.cons (dv.mono (Evo.new hT)) (DVs.cons (dw.mono (Evo.new hT)) (dvs_nil.mpr rfl))⟩, Evo.put_go hT st⟩
  · unfold zipD at hi
    rw [List.length_zipWith] at hi
    rw [← d1.len, ← d2.len]
    omega
def iZipD (ta : TDA) : TDI := fun r S Q E => ta r S (fun ds S1 => match ds with
  | [.ref l, .ref m] => ∃ xs ys, S1 l = some (.lst xs) ∧ S1 m = some (.lst ys) ∧ Q (zipD xs ys) (fun S => S l = some (.lst xs) ∧ S m = some (.lst ys)) S1
  | _ => False) E
theorem pdi_zip {M : List Ent} {tx : Tx} {a b : Expr} {ta : TDA} {p pos tpos : Pos} {elts : List Expr} {kk : Nat} (hM : TxOk X.prog X.w X.K X.mg X.base Z tx M) (i : Nat) (hN : tx.bl i = some ("zip" : Str)) (ha : PDA X Z [a, b] ta) (hg : Gl X "zip" := by rfl) (hs : starEach [a, b] X.env = (false, eval a X.env) :: starEach [b] X.env := by rfl) (hpl : (backTo pos (starEach [b] X.env)).any (·.1) = false := by rfl) : PDI X Z (.Tuple elts kk tpos) (.Call (.Name "zip" p) [a, b] [] pos) (iZipD ta) := fun W tk => by
  refine PI.imp (pi_zip hg (hM.bl i _ hN) (ha W tk) hs hpl) fun σ H R h => ?_
  obtain ⟨r, S, Q0, E0, RR, q, k, kE⟩ := h
  refine ⟨r, S, _, E0, RR, q, fun ds S1 vs H1 e1 st1 dv1 q1 => ?_, kE⟩
  match ds, q1, dv1 with
  | [.ref l, .ref m], q1, dv1 =>
    obtain ⟨xs, ys, sa, sb, q2⟩ := q1
    obtain ⟨w, w2, rfl, dw, dw2⟩ := two_of dv1
    obtain ⟨vs, h1, d1⟩ := sr_lst st1 sa
    obtain ⟨ws, h2, d2⟩ := sr_lst st1 sb
    exact ⟨l, m, vs, ws, by rw [dv_ref.mp dw, dv_ref.mp dw2], SqL.of h1, SqL.of h2, k _ _ S1 _ H1 e1 st1 y_zip q2⟩
end
end G

set_option Elab.async false
set_option linter.all false
set_option maxRecDepth 100000
set_option maxHeartbeats 4000000
/-! GQ: where a token is out: replace of written texts behind a statement that laid one. -/
namespace G
open PySem PySem.Spec PyProof.Rows L2 CwR
section
variable {X : Cx} {Z : Zt} {tx : Tx} {M : List Ent} {L : Nat} {a b e o : Expr} {es : List Expr} {pos p apos : Pos} {x m : Str}
theorem up {α : Type} {t : Sem α} {Q : α → Shared → Prop} {M : Model} {A : Around} {E : Value → Shared → Prop} {s : Shared} (h1 : 1 ≤ s.toks) (h : wpAny M A t Q E s) : wpAny M A t (fun v s' => 1 ≤ s'.toks ∧ Q v s') E s :=
  wpAny_mono (wpAny_toks_of h1 h) (fun _ _ z => z) fun _ _ z => z.2
def PE1 (X : Cx) (e : Expr) (t : TE) : Prop := ∀ (pins : List (Addr × Obj)) (s : Shared) (σ : L2.St) (H : Hp) (Q : VK), Inv X pins σ H s → t σ H Q → wpAny (model X.prog X.w) X.A (eval e X.env) (fun v s' => 1 ≤ s'.toks ∧ EP X pins σ Q v s') X.xe s
def PA1 (X : Cx) (es : List Expr) (t : TA) : Prop := ∀ (pos : Pos) (pins : List (Addr × Obj)) (s : Shared) (σ : L2.St) (H : Hp) (Q : List V → Hp → Prop), Inv X pins σ H s → t σ H Q → wpAny (model X.prog X.w) X.A (spliced (backTo pos (starEach es X.env))) (fun us s' => 1 ≤ s'.toks ∧ AP X pins σ Q us s') X.xe s
def PS1 (X : Cx) (st : Stmt) (t : TS) : Prop := ∀ (pins : List (Addr × Obj)) (s : Shared) (σ : L2.St) (H : Hp) (D : Ends), Inv X pins σ H s → t D σ H → wpAny (model X.prog X.w) X.A (exec st X.env) (fun f s' => 1 ≤ s'.toks ∧ SP X pins D f s') X.xe s
def PTT (X : Cx) (e : Expr) (t : TT) : Prop := ∀ (pins : List (Addr × Obj)) (s : Shared) (σ : L2.St) (H : Hp) (Q : Bool → Hp → Prop), 1 ≤ s.toks → Inv X pins σ H s → t σ H Q → wpAny (model X.prog X.w) X.A (isTrue e X.env (eval e X.env)) (TP X pins σ Q) X.xe s
def PD1 (X : Cx) (Z : Zt) (e : Expr) (t : TD) : Prop := ∀ W, Takes X W → PE1 X e (lift X.K Z W t)
def PDA1 (X : Cx) (Z : Zt) (es : List Expr) (t : TDA) : Prop := ∀ W, Takes X W → PA1 X es (liftA X.K Z W t)
def PDS1 (X : Cx) (Z : Zt) (st : Stmt) (t : TDS) : Prop := ∀ W, Takes X W → PS1 X st (liftS X.K Z W t)
def PDET (X : Cx) (Z : Zt) (e : Expr) (t : TD) : Prop := ∀ W, Takes X W → PET X e (lift X.K Z W t)
def PDTT (X : Cx) (Z : Zt) (e : Expr) (t : TDT) : Prop := ∀ W, Takes X W → PTT X e (liftT X.K Z W t)
def PDSsT (X : Cx) (Z : Zt) (st : List Stmt) (t : TDS) : Prop := ∀ W, Takes X W → PSsT X st (liftS X.K Z W t)
theorem pd1_int {i : Int} {j : Nat} : PD1 X Z (.Constant (.int i) j pos) (dC (.int i)) := fun W tk pins s σ H Q I h => fun Γ p hΓ => ⟨Nat.le_add_left 1 s.toks, ((pd_int (X := X) (Z := Z) (i := i) (j := j) (pos := pos)) W tk).run pins s σ H Q I h Γ p hΓ⟩
theorem pe1_op {op : Operator} {r : R2} {te tf : TE} {f : Expr} (ho : OpR X (binaryOp op) r) (ha : PE1 X e te) (hb : PE X f tf) : PE1 X (.BinOp e op f pos) (tOp r te tf) := by
  intro pins s σ H Q I h
  refine wpAny_BinOp (thn (ha pins s σ H _ I h) fun v s1 ⟨hk, x, H1, I1, r1, q1⟩ => ?_)
  exact thn (up hk (hb.run pins s1 σ H1 _ I1 q1)) fun u s2 ⟨hk2, y, H2, I2, r2, q2⟩ => up hk2 (ho pins s2 σ H2 x y v u Q I2 r1 r2 q2)
theorem pd1_op {op : Operator} {r : RD2} {ta tb : TD} (ho : OpD X Z (binaryOp op) r) (ha : PD1 X Z a ta) (hb : PD X Z b tb) : PD1 X Z (.BinOp a op b pos) (dOp r ta tb) := fun W tk pins s σ H Q I h =>
  pe1_op ho (ha W tk) (hb W tk) pins s σ H Q I (lift_op h)
theorem pa1_cons {te : TE} {ta : TA} (ha : PE X e te) (hr : PA1 X es ta) (hs : starEach (e :: es) X.env = (false, eval e X.env) :: starEach es X.env := by rfl) : PA1 X (e :: es) (tCons te ta) := by
  intro pos pins s σ H Q I h
  rw [hs]
  show wpAny _ _ (spliced ((false, eval e X.env) :: backTo pos (starEach es X.env))) _ _ s
  refine Calls.spliced_cons (thn (ha.run pins s σ H _ I h) fun v s1 ⟨x, H1, I1, r1, q1⟩ => ?_)
  exact thn (hr pos pins s1 σ H1 _ I1 q1) fun us s2 ⟨hk, xs, H2, I2, r2, q2⟩ => ⟨hk, x :: xs, H2, I2, .cons r1 r2, q2⟩
theorem pa1_head {te : TE} {ta : TA} (ha : PE1 X e te) (hr : PA X es ta) (hs : starEach (e :: es) X.env = (false, eval e X.env) :: starEach es X.env := by rfl) : PA1 X (e :: es) (tCons te ta) := by
  intro pos pins s σ H Q I h
  rw [hs]
  show wpAny _ _ (spliced ((false, eval e X.env) :: backTo pos (starEach es X.env))) _ _ s
  refine Calls.spliced_cons (thn (ha pins s σ H _ I h) fun v s1 ⟨hk, x, H1, I1, r1, q1⟩ => ?_)
  exact thn (up hk (hr.run pos pins s1 σ H1 _ I1 q1)) fun us s2 ⟨hk, xs, H2, I2, r2, q2⟩ => ⟨hk, x :: xs, H2, I2, .cons r1 r2, q2⟩
theorem lift_cons {K : PySem.W.Frag} {W : WX} {t : TD} {u : TDA} {σ : L2.St} {H : Hp} {Q : List V → Hp → Prop} (h : liftA K Z W (dCons t u) σ H Q) : tCons (lift K Z W t) (liftA K Z W u) σ H Q := by
  obtain ⟨p, S, Q0, E0, R, q, k, kE⟩ := h
  refine ⟨p, S, _, E0, R, q, fun x S1 v H1 e1 st1 dv1 q1 => ?_, kE⟩
  exact ⟨p, S1, _, E0, R.go e1 st1, q1, fun xs S2 vs H2 e2 st2 dv2 q2 => k _ S2 _ H2 (e1.trans e2) st2 (DVs.cons (dv1.mono e2.evo) dv2) q2, fun c S2 dd H2 e2 => kE c S2 dd H2 (e1.trans e2)⟩
theorem pda1_cons {t : TD} {u : TDA} (he : PD X Z e t) (hr : PDA1 X Z es u) (hs : starEach (e :: es) X.env = (false, eval e X.env) :: starEach es X.env := by rfl) : PDA1 X Z (e :: es) (dCons t u) := fun W tk pos pins s σ H Q I h =>
  pa1_cons (he W tk) (hr W tk) hs pos pins s σ H Q I (lift_cons h)
theorem pda1_head {t : TD} {u : TDA} (he : PD1 X Z e t) (hr : PDA X Z es u) (hs : starEach (e :: es) X.env = (false, eval e X.env) :: starEach es X.env := by rfl) : PDA1 X Z (e :: es) (dCons t u) := fun W tk pos pins s σ H Q I h =>
  pa1_head (he W tk) (hr W tk) hs pos pins s σ H Q I (lift_cons h)
theorem pd1_call {t : TDA} (hM : TxOk X.prog X.w X.K X.mg X.base Z tx M) (hr : Room L X.A) (i : Nat) (n : Nat) (hN : tx.gn i = some x) (hg : Gl X x) (ha : PDA1 X Z (e :: es) t)
    (hdb : (x == ("__debug__" : Str)) = false := by decide) (he : starEach (e :: es) X.env = (false, eval e X.env) :: starEach es X.env := by rfl) (hpl : (backTo pos (starEach es X.env)).any (·.1) = false := by rfl) :
    PD1 X Z (.Call (.Name x p) (e :: es) [] pos) (dCall M L i n t) := fun W tk => by
  intro pins s σ H Q I h
  obtain ⟨r, S, Q0, E0, R, ⟨en, hi, hf, q⟩, k, kE⟩ := h
  obtain ⟨f, hm, hk, F⟩ := hM.fn i x en hN hi hf.2.2.2
  obtain ⟨fd, ps, F, hl, hb⟩ := F.ok
  obtain ⟨dvs, ds, hb, hd, hv⟩ := hb _ (fill_ok hf)
  refine wpAny_Call_Name_kw (ld_glob I hg hm ?_ hdb)
  refine PySem.W.callWith_K (h₀ := X.base) I.ok.mod.kin hk (thn (ha W tk pos pins s σ H _ I ⟨r, S, _, E0, R, q, fun ds S1 vs H1 e1 st1 dv1 q1 => liftSp_of (r := r) e1 st1 dv1 (hv H1) q1 k kE, kE⟩) fun us s1 ⟨h1, vs, H1, I1, rr, qq⟩ => ⟨I1.kIn, ?_⟩) he hpl
  exact up h1 (run_fnSD (E := WE W) F (hr.mono hf.1) hb hd (passAt tk σ) I1 rr qq)
theorem pd1_ty {t : TDA} {r : RDC} {T : String} (hM : TxOk X.prog X.w X.K X.mg X.base Z tx M) (hc : CallD X Z (.type T) r) (i : Nat) (hN : tx.bl i = some x) (hg : Gl X x) (hv : bootBuiltins x = some (.type T)) (ha : PDA1 X Z (e :: es) t)
    (hn : x ≠ "__name__" := by decide) (hdb : (x == ("__debug__" : Str)) = false := by decide) (he : starEach (e :: es) X.env = (false, eval e X.env) :: starEach es X.env := by rfl) (hpl : (backTo pos (starEach es X.env)).any (·.1) = false := by rfl) :
    PD1 X Z (.Call (.Name x p) (e :: es) [] pos) (dBi r t) := fun W tk => by
  intro pins s σ H Q I h
  have h := lift_bi h
  refine wpAny_Call_Name_kw (ld_blt I hg (hM.bl i x hN) hv ?_ hn hdb)
  exact PyProof.Rows.callWith_type1 (thn (ha W tk pos pins s σ H _ I h) fun us s1 ⟨h1, vs, H1, I1, r1, q1⟩ => up h1 (hc pins s1 σ H1 vs us Q I1 r1 q1)) he hpl
theorem pds1_set {te : TD} {pos' : Pos} {i : Nat} (hN : X.N.Nodup) (he : PD1 X Z e te) (hi : X.N[i]? = some x := by rfl) (hx : Loc X.env.scope x := by first | exact .inl rfl | exact .inr rfl) (hs : swapsWith e (some (.Name x pos')) pos.line X.env = pure false := by rfl) (hf : X.fn x = true ∨ X.env.scope.names.lookup x = some .local := by first | exact .inl rfl | exact .inr rfl) :
    PDS1 X Z (.Assign [.Name x pos'] e pos) (dAsg te (gN i)) := fun W tk => by
  intro pins s σ H D I h
  obtain ⟨r, S, D0, R, q, k⟩ := h
  refine wpAny_Assign_Name (thn (he W tk pins s σ H (fun v H1 => D.nx (σ.set i (some v)) H1) I ⟨r, S, _, _, R, q, fun d S1 v H1 e1 st1 dv1 q1 => k.nx _ S1 _ H1 e1 ⟨(R.sl.mono e1.evo).set i dv1, st1⟩ q1, k.exx R⟩) fun v s1 ⟨h1, y, H1, I1, r1, q1⟩ => ?_) hs
  exact up h1 (store_ok I1 hN hi hx r1 (fun s2 I2 => ⟨_, H1, I2, q1⟩) hf)
theorem pdss_tick {st : Stmt} {rest : List Stmt} {t u : TDS} (h1 : PDS1 X Z st t) (h2 : PDSsT X Z rest u) : PDSs X Z (st :: rest) (dSeq t u) := fun W tk => by
  refine ⟨fun pins s σ H D I h => ?_⟩
  obtain ⟨r, S, D0, R, q, k⟩ := h
  refine wpAny_execs_cons (thn (h1 W tk pins s σ H { D with nx := liftS X.K Z W u D } I ⟨r, S, _, R, q, ⟨fun r' S' σ' H' e R' q' => ⟨r', S', D0, R', q', k.go e⟩, k.rt, k.bk, k.ct, k.ex⟩⟩) fun f s1 q => ?_)
  obtain ⟨hk, q⟩ := q
  cases f with
  | next =>
    obtain ⟨σ', H', I', q⟩ := q
    exact h2 W tk pins s1 σ' H' D hk I' q
  | ret v => exact q
  | brk => exact q
  | cont => exact q
theorem pdsst_if {c : Expr} {sa sb : List Stmt} {tc : TDT} {t u : TDS} (hc : PDTT X Z c tc) (ha : PDSs X Z sa t) (hb : PDSs X Z sb u) : PDSsT X Z [.If c sa sb pos] (dIfS tc t u) := fun W tk => by
  have key : PST X (.If c sa sb pos) (liftS X.K Z W (dIfS tc t u)) := by
    intro pins s σ H D h0 I h
    obtain ⟨r, S, D0, R, q, k⟩ := h
    refine wpAny_If (thn (hc W tk pins s σ H (fun b H' => if b = true then liftS X.K Z W t D σ H' else liftS X.K Z W u D σ H') h0 I ⟨r, S, _, _, R, q, fun b S' H' e st q' => ?_, k.exx R⟩) fun b s1 ⟨H1, I1, q1⟩ => ?_)
    · cases b with
      | true => exact iteT ⟨r, S', D0, R.go e st, (if_pos rfl).mp q', k.go e⟩
      | false => exact iteF ⟨r, S', D0, R.go e st, (if_neg Bool.false_ne_true).mp q', k.go e⟩
    · cases b with
      | true => exact (ha W tk).run pins s1 σ H1 D I1 ((if_pos rfl).mp q1)
      | false => exact (hb W tk).run pins s1 σ H1 D I1 ((if_neg Bool.false_ne_true).mp q1)
  intro pins s σ H D h0 I h
  have := psst_one key pins s σ H D h0 I
  exact this h
theorem pdtt_or {rest : List Expr} {tA tB : TDT} (ha : PDTT X Z a tA) (hb : PDW X Z (.BoolOp .Or (b :: rest) pos) tB) : PDTT X Z (.BoolOp .Or (a :: b :: rest) pos) (dOr tA tB) := fun W tk => by
  intro pins s σ H Q h0 I h
  obtain ⟨p, S, Q0, E0, R, q, k, kE⟩ := h
  refine isTrue_or (thn (ha W tk pins s σ H (fun c H1 => if c = true then Q true H1 else liftT X.K Z W tB σ H1 Q) h0 I ⟨p, S, _, E0, R, q, fun c S' H' e st q' => ?_, kE⟩) fun c s1 ⟨H1, I1, q1⟩ => ?_)
  · cases c with
    | false => exact iteF ⟨p, S', Q0, E0, R.go e st, (if_neg Bool.false_ne_true).mp q', fun b' S2 H2 e2 => k b' S2 H2 (e.trans e2), fun c S2 dd H2 e2 => kE c S2 dd H2 (e.trans e2)⟩
    | true => exact iteT (k true S' H' e st ((if_pos rfl).mp q'))
  · cases c with
    | true => exact ⟨H1, I1, (if_pos rfl).mp q1⟩
    | false => exact (hb W tk).run _ pins s1 σ H1 Q I1 ((if_neg Bool.false_ne_true).mp q1)
theorem pdtt_cmp {op : CmpOp} {r : RD2} {ta tb : TD} (ho : OpD X Z (compareOp op) r) (ha : PDET X Z a ta) (hb : PD X Z b tb) (hm : behindInMarks op b = false := by first | exact nobehind _ (by decide) (by decide) | rfl) : PDTT X Z (.Compare a [op] [b] pos) (dTest (dOp r ta tb)) := fun W tk => by
  intro pins s σ H Q h0 I h
  have h := lift_op (lift_test h)
  refine wpAny_isTrue_Compare1 (thn (ha W tk pins s σ H _ h0 I h) fun v s1 ⟨x, H1, I1, r1, q1⟩ => thn ((hb W tk).run pins s1 σ H1 _ I1 q1) fun u s2 ⟨y, H2, I2, r2, q2⟩ =>
    thn (ho pins s2 σ H2 x y v u _ I2 r1 r2 q2) fun c s3 ⟨z, H3, I3, r3, k, e, q3⟩ => ?_) hm
  subst e
  cases r3
  exact wpAny_truthy_bool ⟨H3, I3, q3⟩
def dReplC (to : TD) (y z : Str) : TD := fun r S Q E => to r S (fun d S1 => match d with | .str x => x.length + (x.length + 1) * z.length ≤ 16777216 ∧ Q (.str (Txt.replace x y z)) S1 | _ => False) E
theorem pdet_repl {to : TD} {y z : Str} {j k : Nat} {c0 c1 : Pos} (ho : PD X Z o to) (hyz : (y == z) = false := by decide)
    (hst : starEach [.Constant (.str y) j c0, .Constant (.str z) k c1] X.env = [(false, eval (.Constant (.str y) j c0) X.env), (false, eval (.Constant (.str z) k c1) X.env)] := by rfl)
    (hbase : attributeBase o "replace" X.env (eval o X.env) = eval o X.env := by rfl) (hline : (apos.endLine == pos.line) = true := by rfl) :
    PDET X Z (.Call (.Attribute o "replace" apos) [.Constant (.str y) j c0, .Constant (.str z) k c1] [] pos) (dReplC to y z) := fun W tk => by
  intro pins s σ H Q h0 I h
  refine pet_replC (ho W tk) hyz hst hbase hline pins s σ H Q h0 I ?_
  obtain ⟨p, S, Q0, E0, R, q, k, kE⟩ := h
  refine ⟨p, S, _, E0, R, q, fun d S' v H' e st dv q' => ?_, kE⟩
  cases d with
  | str x => exact ⟨x, dv_str.mp dv, q'.1, k _ S' _ H' e st (dv_str.mpr rfl) q'.2⟩
  | _ => exact q'.elim
end
end G

set_option Elab.async false
set_option linter.all false
set_option maxRecDepth 100000
set_option maxHeartbeats 4000000
/-! GR: generators over lists of data: any, all, max, min of a quiet expression of the item. -/
namespace G
open PySem PySem.Spec PyProof.Rows L2 GxR
mutual
/-- a value that is the data d where the heap h stands -/
def VD (h : Heap) : D → Value → Prop
  | .non, u => u = .none
  | .bl b, u => u = .bool b
  | .int i, u => ∃ t, u = .int i t
  | .str x, u => ∃ t, u = .str x t
  | .ref a, u => u = .ref a
  | .tup ds, u => ∃ (p : Addr) (its : List Value), u = .ref p ∧ IsTup h p its.toArray ∧ VDs h ds its ∧ its.length ≤ sizeLine
  | .rol _, u => ∃ (p : Addr), u = .ref p
def VDs (h : Heap) : List D → List Value → Prop
  | [], us => us = []
  | d :: ds, us => ∃ u r, us = u :: r ∧ VD h d u ∧ VDs h ds r
end
section
variable {h h' : Heap}
theorem vd_non {u : Value} : VD h .non u ↔ u = .none := by simp only [VD]
theorem vd_bl {b : Bool} {u : Value} : VD h (.bl b) u ↔ u = .bool b := by simp only [VD]
theorem vd_int {i : Int} {u : Value} : VD h (.int i) u ↔ ∃ t, u = .int i t := by simp only [VD]
theorem vd_str {x : Str} {u : Value} : VD h (.str x) u ↔ ∃ t, u = .str x t := by simp only [VD]
theorem vd_ref {a : Addr} {u : Value} : VD h (.ref a) u ↔ u = .ref a := by simp only [VD]
theorem vd_tup {ds : List D} {u : Value} : VD h (.tup ds) u ↔ ∃ (p : Addr) (its : List Value), u = .ref p ∧ IsTup h p its.toArray ∧ VDs h ds its ∧ its.length ≤ sizeLine := by simp only [VD]
theorem vd_rol {ds : List D} {u : Value} : VD h (.rol ds) u ↔ ∃ (p : Addr), u = .ref p := by simp only [VD]
theorem vds_nil {us : List Value} : VDs h [] us ↔ us = [] := by simp only [VDs]
theorem vds_cons {d : D} {ds : List D} {us : List Value} : VDs h (d :: ds) us ↔ ∃ u r, us = u :: r ∧ VD h d u ∧ VDs h ds r := by simp only [VDs]
mutual
theorem VD.keep (k : ∀ b o, o.cls ≠ .none → h.get? b = some o → h'.get? b = some o) : ∀ {d : D} {u : Value}, VD h d u → VD h' d u
  | .non, _, q => vd_non.mpr (vd_non.mp q)
  | .bl _, _, q => vd_bl.mpr (vd_bl.mp q)
  | .int _, _, q => vd_int.mpr (vd_int.mp q)
  | .str _, _, q => vd_str.mpr (vd_str.mp q)
  | .ref _, _, q => vd_ref.mpr (vd_ref.mp q)
  | .rol _, _, q => vd_rol.mpr (vd_rol.mp q)
  | .tup ds, _, q => by
    obtain ⟨p, its, e, ⟨o, ho, hc, hr⟩, hv, hz⟩ := vd_tup.mp q
    exact vd_tup.mpr ⟨p, its, e, ⟨o, k p o (by rw [hc]; exact fun z => nomatch z) ho, hc, hr⟩, VDs.keep k hv, hz⟩
theorem VDs.keep (k : ∀ b o, o.cls ≠ .none → h.get? b = some o → h'.get? b = some o) : ∀ {ds : List D} {us : List Value}, VDs h ds us → VDs h' ds us
  | [], _, q => vds_nil.mpr (vds_nil.mp q)
  | d :: ds, _, q => by
    obtain ⟨u, r, e, h1, h2⟩ := vds_cons.mp q
    exact vds_cons.mpr ⟨u, r, e, VD.keep k h1, VDs.keep k h2⟩
end
theorem VDs.len : ∀ {ds : List D} {us : List Value}, VDs h ds us → ds.length = us.length
  | [], _, q => by rw [vds_nil.mp q]; rfl
  | d :: ds, _, q => by
    obtain ⟨u, r, rfl, h1, h2⟩ := vds_cons.mp q
    rw [List.length_cons, List.length_cons, VDs.len h2]
theorem VDs.get : ∀ {ds : List D} {us : List Value} {i : Nat} {d : D}, VDs h ds us → ds[i]? = some d → ∃ u, us[i]? = some u ∧ VD h d u
  | [], _, i, d, q, e => by simp at e
  | d0 :: ds, _, 0, d, q, e => by
    obtain ⟨u, r, rfl, h1, h2⟩ := vds_cons.mp q
    simp at e
    subst e
    exact ⟨u, rfl, h1⟩
  | d0 :: ds, _, i + 1, d, q, e => by
    obtain ⟨u, r, rfl, h1, h2⟩ := vds_cons.mp q
    obtain ⟨w, q1, q2⟩ := VDs.get h2 (by simpa using e)
    exact ⟨w, by simpa using q1, q2⟩
variable {X : Cx} {pins : List (Addr × Obj)} {σ : L2.St} {H : Hp} {s : Shared}
mutual
theorem vd_of (I : Inv X pins σ H s) : ∀ {d : D} {v : V} {u : Value}, DV X.K H d v → RelV v u → VD s.heap d u
  | .non, v, u, q, r => by rw [dv_non.mp q] at r; exact vd_non.mpr r
  | .bl _, v, u, q, r => by rw [dv_bl.mp q] at r; exact vd_bl.mpr r
  | .int _, v, u, q, r => by rw [dv_int.mp q] at r; exact vd_int.mpr r
  | .str _, v, u, q, r => by rw [dv_str.mp q] at r; exact vd_str.mpr r
  | .ref _, v, u, q, r => by rw [dv_ref.mp q] at r; exact vd_ref.mpr r
  | .rol _, v, u, q, r => by
    obtain ⟨p, vs, e, _⟩ := dv_rol.mp q
    rw [e] at r
    exact vd_rol.mpr ⟨p, r⟩
  | .tup ds, v, u, q, r => by
    obtain ⟨p, vs, e, h1, h2⟩ := dv_tup.mp q
    rw [e] at r
    obtain ⟨its, rv, pl, hz⟩ := I.tuple h1
    exact vd_tup.mpr ⟨p, its, r, pl, vds_of I h2 rv, by rw [← rv.length]; exact hz⟩
theorem vds_of (I : Inv X pins σ H s) : ∀ {ds : List D} {vs : List V} {us : List Value}, DVs X.K H ds vs → Vals vs us → VDs s.heap ds us
  | [], vs, us, q, r => by
    rw [dvs_nil.mp q] at r
    cases r
    exact vds_nil.mpr rfl
  | d :: ds, vs, us, q, r => by
    obtain ⟨v, w, e, h1, h2⟩ := dvs_cons.mp q
    subst e
    cases r with
    | cons r1 r2 => exact vds_cons.mpr ⟨_, _, rfl, vd_of I h1 r1, vds_of I h2 r2⟩
end
end
/-! ### quiet expressions of the item -/
/-- the generator's surroundings -/
structure QC (mg : Str → Option Value) (cenv : Env) (s : Shared) : Prop where
  g : cenv.globals = mainGlobals
  ng : s.heap.Ns mainGlobals mg
  nb : ∃ mb, s.heap.Ns cenv.builtins mb ∧ ∀ x : Str, x ≠ "__name__" → mb x = bootBuiltins x
theorem Keeps.all {s s' : Shared} (k : Keeps s s') : ∀ b o, s.heap.get? b = some o → s'.heap.get? b = some o := by
  obtain ⟨h, t, rfl, q⟩ := k
  exact q
theorem QC.keeps {mg : Str → Option Value} {cenv : Env} {s s' : Shared} (c : QC mg cenv s) (k : Keeps s s') : QC mg cenv s' := by
  obtain ⟨mb, h1, h2⟩ := c.nb
  exact ⟨c.g, c.ng.keeps (Keeps.all k), mb, h1.keeps (Keeps.all k), h2⟩
theorem Keeps.trans' {s s1 s2 : Shared} (a : Keeps s s1) (b : Keeps s1 s2) : Keeps s s2 := by
  obtain ⟨h1, t1, rfl, q1⟩ := a
  obtain ⟨h2, t2, rfl, q2⟩ := b
  exact ⟨h2, t2, rfl, fun b o e => q2 b o (q1 b o e)⟩
/-- elt gives f d for the item d -/
def QE (prog : Program) (w : World) (mg : Str → Option Value) (scope : Scope) (x : Str) (elt : Expr) (f : D → Option D) : Prop :=
  ∀ (cenv : Env) (A' : Around) (E' : Value → Shared → Prop) (d e : D) (u : Value) (s₂ : Shared) (m₂ : Str → Option Value), cenv.scope = scope → QC mg cenv s₂ → s₂.heap.Ns cenv.locals m₂ → m₂ x = some u → VD s₂.heap d u → f d = some e →
    wpAny (model prog w) A' (eval elt cenv) (fun y s₃ => VD s₃.heap e y ∧ Keeps s₂ s₃) E' s₂
section
variable {prog : Program} {w : World} {mg : Str → Option Value} {scope : Scope} {x : Str} {a b : Expr} {f g : D → Option D} {p p1 p2 p3 : Pos} {j : Nat}
theorem qe_name (hk : scope.kind = .function) (hl : scope.names.lookup x = some .local) (hd : (x == ("__debug__" : Str)) = false := by decide) : QE prog w mg scope x (.Name x p) some := by
  intro cenv A' E' d e u s₂ m₂ hs hc hn hm hv he
  cases he
  exact wpAny_Name (wpAny_loadName_local (by rw [hs]; exact hk) (show cenv.scope.names.lookup x = some .local by rw [hs]; exact hl) hn hm ⟨hv, keeps_refl _⟩) hd
theorem qe_int {i : Int} : QE prog w mg scope x (.Constant (.int i) j p) (fun _ => some (.int i)) := by
  intro cenv A' E' d e u s₂ m₂ hs hc hn hm hv he
  cases he
  exact wpAny_Constant_int ⟨vd_int.mpr ⟨_, rfl⟩, keeps_tok _ _⟩
/-- the item at a written place of a tuple -/
def qIx (f : D → Option D) (i : Int) (d : D) : Option D := match f d with
  | some (.tup ds) => atI ds i
  | _ => none
theorem qe_ix {i : Int} (ha : QE prog w mg scope x a f) (ht : ∀ o r, letTemporaryGo a o r = pure () := by intro _ _; rfl) : QE prog w mg scope x (.Subscript a (.Constant (.int i) j p1) p) (qIx f i) := by
  intro cenv A' E' d e u s₂ m₂ hs hc hn hm hv he
  unfold qIx at he
  split at he
  · rename_i ds hf
    refine Subscript_Constant (wpAny_mono (ha cenv A' E' d _ u s₂ m₂ hs hc hn hm hv hf) (fun y s₃ r => ?_) fun _ _ z => z) ht
    obtain ⟨r1, r2⟩ := r
    obtain ⟨q, its, rfl, pl, hvs, hz⟩ := vd_tup.mp r1
    refine wpAny_Constant_int ?_
    obtain ⟨k, h1, h2, h3, h4, h5⟩ := atI_get he
    obtain ⟨v, e1, e2⟩ := hvs.get h2
    have hl := hvs.len
    have hn := line63
    have pl2 : IsTup ({ s₃ with toks := s₃.toks + 1 } : Shared).heap q its.toArray := pl
    refine ⟨"tuple", _, slot_tuple_getitem.lookup, pl2.typeIs, getItem_tuple (j := k) pl2 (by omega) (by omega) (by rw [List.size_toArray, ← hl]; exact h1) (by simpa using e1) ⟨e2, Keeps.trans' r2 (keeps_tok _ _)⟩⟩
  · cases he
/-- a < b of whole numbers -/
def qLt (f g : D → Option D) (d : D) : Option D := match f d, g d with
  | some (.int i), some (.int k) => some (.bl (decide (i < k)))
  | _, _ => none
theorem qe_lt (ha : QE prog w mg scope x a f) (hb : QE prog w mg scope x b g) (hx : behindInMarks .Lt b = false := by rfl) : QE prog w mg scope x (.Compare a [.Lt] [b] p) (qLt f g) := by
  intro cenv A' E' d e u s₂ m₂ hs hc hn hm hv he
  unfold qLt at he
  split at he
  · rename_i i k hf hg
    cases he
    refine wpAny_Compare1 (wpAny_mono (ha cenv A' E' d _ u s₂ m₂ hs hc hn hm hv hf) (fun y s₃ r => ?_) fun _ _ z => z) hx
    obtain ⟨r1, r2⟩ := r
    refine wpAny_mono (hb cenv A' E' d _ u s₃ m₂ hs (hc.keeps r2) (hn.keeps (Keeps.all r2)) hm (hv.keep fun b o _ e => Keeps.all r2 b o e) hg) (fun y2 s₄ r' => ?_) fun _ _ z => z
    obtain ⟨r3, r4⟩ := r'
    obtain ⟨t, rfl⟩ := vd_int.mp r1
    obtain ⟨t2, rfl⟩ := vd_int.mp r3
    exact wpAny_lt_int ⟨vd_bl.mpr rfl, Keeps.trans' r2 r4⟩
  · cases he
/-- len of a text -/
def qLen (f : D → Option D) (d : D) : Option D := match f d with
  | some (.str z) => if z.length ≤ sizeLine then some (.int (z.length : Nat)) else none
  | _ => none
theorem qe_len (hk : scope.kind = .function) (hy : scope.names.lookup ("len" : Str) = some .globalImplicit) (hm0 : mg "len" = none) (ha : QE prog w mg scope x a f) (he' : ∀ cenv : Env, starEach [a] cenv = (false, eval a cenv) :: starEach [] cenv := by intro _; rfl) :
    QE prog w mg scope x (.Call (.Name "len" p1) [a] [] p) (qLen f) := by
  intro cenv A' E' d e u s₂ m₂ hs hc hn hm hv he
  unfold qLen at he
  split at he
  · rename_i z hf
    split at he
    · rename_i hz
      cases he
      obtain ⟨mb, hb1, hb2⟩ := hc.nb
      refine wpAny_Call_Name_kw (Calls.Name_function_global (by rw [hs]; exact hk) (show cenv.scope.names.lookup ("len" : Str) = some .globalImplicit by rw [hs]; exact hy) (Calls.loadGlobal_builtin (by rw [hc.g]; exact hc.ng) hm0 hb1 ((hb2 "len" (by decide)).trans boot_len) ?_))
      refine PyProof.Rows.callWith_builtin1 ?_ (he' cenv) (by rfl)
      rw [he' cenv]
      show wpAny _ _ (spliced ((false, eval a cenv) :: backTo p (starEach [] cenv))) _ _ _
      refine Calls.spliced_cons (wpAny_mono (ha cenv A' E' d _ u s₂ m₂ hs hc hn hm hv hf) (fun y s₃ r => ?_) fun _ _ z => z)
      obtain ⟨r1, r2⟩ := r
      refine Calls.spliced_nil ?_
      obtain ⟨t, rfl⟩ := vd_str.mp r1
      have hn := line63
      exact len_str (by omega) ⟨vd_int.mpr ⟨_, rfl⟩, Keeps.trans' r2 (keeps_tok _ _)⟩
    · cases he
  · cases he
end
section
variable {X : Cx} {pins : List (Addr × Obj)} {σ : L2.St} {H : Hp} {s : Shared}
/-- the generator g over the data ds, ready to be walked -/
def ReadyD (X : Cx) (pins : List (Addr × Obj)) (σ : L2.St) (H1 : Hp) (P : Addr) (ds : List D) (f : D → Option D) (g : Addr) (s5 : Shared) : Prop :=
  ∃ (fp wr : List Addr) (G : Array GenState → Array GenState → Prop) (F : Nat → Value → Prop) (St : Nat → Shared → Prop),
    WalksS X.prog X.w X.A.in1 g fp wr G ds.length F St ∧ St 0 s5 ∧ (∀ b ∈ fp, b < s5.heap.objs.size) ∧
    (∀ j v, F j v → ∃ (d e : D) (h : Heap), ds[j]? = some d ∧ f d = some e ∧ VD h e v) ∧
    ∀ s', Moved wr G s5 s' → ∃ H2, GxR.Tabbed P H1 H2 ∧ Inv X pins σ H2 s'
theorem gen_lstD {c P : Addr} {elt iter : Expr} {x : Str} {px gpos : Pos} {scope : Scope} {f : D → Option D} {te : TE} {k : Nat} {Q' : Value → Shared → Prop} {R : List D → Hp → Prop}
    (hr : Room k X.A) (TB : GxR.TabB X.base X.mg c P) (hcode : X.env.code = .ref c) (S : GxR.GenS X.env scope x) (hi : PE X iter te) (hel : QE X.prog X.w X.mg scope x elt f)
    (hs : ∀ v, genFold iter X.env v = pure v) (I : Inv X pins σ H s) (h : te σ H fun v H1 => ∃ (yl : Addr) (ds : List D) (ws : List V), v = .ref yl ∧ SqL X.K H1 yl ws ∧ DVs X.K H1 ds ws ∧ (∀ d ∈ ds, ∃ e, f d = some e) ∧ GxR.TabG H1 P ∧ R ds H1)
    (hQ : ∀ ds H1 g s5, R ds H1 → ReadyD X pins σ H1 P ds f g s5 → Q' (.ref g) s5) :
    wpAny (model X.prog X.w) X.A (eval (.GeneratorExp elt [⟨.Name x px, iter, [], 0⟩] scope gpos) X.env) Q' X.xe s := by
  refine wpAny_GeneratorExp_walksQ hr.hd S.co (closure_ok S.free) S.cell S.dot S.loc S.kind (by have := hr.dp; omega) ?_ hs
  refine thn (hi.run pins s σ H _ I h) fun xv s1 ⟨v, H1, I1, r1, q1⟩ => ?_
  obtain ⟨yl, ds, ws, rfl, hyl, hdv, hPz, ⟨ps, hP, ht⟩, q1⟩ := q1
  obtain rfl : xv = Value.ref yl := r1
  obtain ⟨its, rv, hl, hz⟩ := I1.list hyl
  have hIL := hl.isList
  have hvd : VDs s1.heap ds its := vds_of I1 hdv rv
  have hlen : its.length = ds.length := hvd.len.symm
  have hat : ∀ (i : Nat) (v : Value), its.toArray[i]? = some v → ∃ d, ds[i]? = some d ∧ VD s1.heap d v := fun i v hv => by
    have hv2 : its[i]? = some v := by simpa using hv
    have hi2 : i < its.length := (List.getElem?_eq_some_iff.mp hv2).1
    obtain ⟨d, hd⟩ : ∃ d, ds[i]? = some d := ⟨ds[i]'(by omega), List.getElem?_eq_getElem _⟩
    obtain ⟨u, hu, ru⟩ := hvd.get hd
    rw [hv2] at hu
    cases hu
    exact ⟨d, hd, ru⟩
  refine wpAny_pyIter_list hIL ?_
  generalize ho : ({ cls := .type "list_iterator", data := .fields #[.ref yl, .int 0 0] } : Obj) = o
  have hitr : (s1.heap.push o).IsListIter s1.heap.objs.size yl 0 := by
    subst ho
    exact ⟨_, Heap.get?_push_size _ rfl, rfl, rfl⟩
  have hylt : yl < s1.heap.objs.size := by
    obtain ⟨_, e, _⟩ := _root_.id hIL
    exact Heap.lt_size e
  have hPs : s1.heap.get? P = some { cls := .none, data := .fields ps } := I1.hok P _ hP
  have hPlt : P < s1.heap.objs.size := Heap.lt_size hPs
  have hP2 : (s1.heap.push o).get? P = some { cls := .none, data := .fields ps } := Heap.get?_push_of_some _ hPs
  have cd : PySem.W.CodeHd (s1.heap.push o) c P := TB.code.keeps fun b u e => Heap.get?_push_of_some _ (I1.bk b u e)
  have lim2 : (s1.heap.push o).NoLimit := I1.nolimit.push o
  have ng0 : (s1.heap.push o).Ns mainGlobals X.mg := (I1.mod.glob.keeps I1.bk).push o
  obtain ⟨mb, hb1, hb2⟩ := I1.mod.blt
  have hbP : builtinsNs ≠ P := fun e => by
    obtain ⟨o', es, ep, ho', hd', _⟩ := hb1.keeps I1.bk
    rw [e, hPs] at ho'
    cases ho'
    cases hd'
  have cont : ∀ (code : Value) (h3 : Heap) (tk : Nat) (ps' : Array Value), Heap.ExtBut P (s1.heap.push o) h3 → (s1.heap.push o).objs.size ≤ h3.objs.size → h3.get? P = some { cls := .none, data := .fields ps' } → (∃ more, ps' = ps ++ more) → TriplesOk ps'.toList →
      wpAny (model X.prog X.w) X.A (builtinsFor X.env.globals X.env.builtins) (fun bi s₄ =>
        ∃ Ia fp wr n₀ Pf St₀ pz F, Value.ref s1.heap.objs.size = .ref Ia ∧ (∀ A' : Around, A'.handled = none → Walks X.prog X.w A' Ia fp wr n₀ Pf St₀) ∧ St₀ 0 s₄.heap ∧ (∀ b ∈ fp, b < s₄.heap.objs.size) ∧ s₄.heap.NoLimit ∧ cStatics ∉ wr ∧
          (∀ href : Heap, (∀ b o, s₄.heap.get? b = some o → href.get? b = some o) →
            QuietGen X.prog X.w (genEnv scope (cloFrom X.env.cells scope.names []) s₄.heap.objs.size code bi X.env) x [] elt (List.range s₄.heap.objs.size) wr Pf pz F href) ∧
          (∀ a h₅ tk gs, gs.bare = true → s₄.heap.objs.size < a → h₅.objs.size = a + 1 → (∀ b o, s₄.heap.get? b = some o → h₅.get? b = some o) →
            WalksS X.prog X.w X.A.in4 a (a :: s₄.heap.objs.size :: List.range s₄.heap.objs.size) (s₄.heap.objs.size :: wr) (GenOnlyQ s₄.gens.size) (passing pz n₀ 0).length
              (fun j y => ∃ i, (passing pz n₀ 0)[j]? = some i ∧ F i y) (GenAt X.prog X.w X.A.in4 a s₄.gens.size s₄.heap.objs.size (List.range s₄.heap.objs.size) wr pz n₀ F) →
            GenAt X.prog X.w X.A.in4 a s₄.gens.size s₄.heap.objs.size (List.range s₄.heap.objs.size) wr pz n₀ F 0 { s₄ with gens := s₄.gens.push gs, toks := tk, heap := h₅ } →
            Q' (.ref a) { s₄ with gens := s₄.gens.push gs, toks := tk, heap := h₅ })) X.xe { s1 with heap := h3, toks := tk } := by
    intro code h3 tk ps' hx hsz hP3 hmore ht3
    have ng3 : h3.Ns mainGlobals X.mg := ng0.extBut hx TB.gP
    have nb3 : h3.Ns builtinsNs mb := ((hb1.keeps I1.bk).push o).extBut hx hbP
    have ngl : mainGlobals < s1.heap.objs.size := (I1.mod.glob.keeps I1.bk).lt
    have nbl : builtinsNs < s1.heap.objs.size := (hb1.keeps I1.bk).lt
    obtain ⟨bm, ob, e1, e2, e3, e4, e5, e6, e7, e8⟩ := TB.bm
    have hcP : cStatics ≠ P := fun e => by
      obtain ⟨_, hns, _⟩ := I1.nolimit
      obtain ⟨o', es, ep, ho, hd, _⟩ := hns
      rw [e, hPs] at ho
      cases ho
      cases hd
    have hcl : cStatics < s1.heap.objs.size := let ⟨_, hns, _⟩ := I1.nolimit; hns.lt
    have sz2 : (s1.heap.push o).objs.size = s1.heap.objs.size + 1 := Heap.size_push ..
    have keep3 : ∀ b u, b ≠ P → s1.heap.get? b = some u → h3.get? b = some u := fun b u hb e => hx b u hb (Heap.get?_push_of_some _ e)
    refine wpAny_builtinsFor (m := X.mg) (by rw [I1.ok.glob]; exact ng3) e1 e2 (keep3 _ _ e4 (I1.bk _ _ e5)) e6 e7 e8 ?_
    have hylP : yl ≠ P := fun z => by
      obtain ⟨_, e, hc1, _, hd1⟩ := _root_.id hIL
      rw [z, hPs] at e
      cases e
      cases hd1
    have hIL3 : h3.IsList yl its.toArray := by
      obtain ⟨ob, e, r⟩ := _root_.id hIL
      exact ⟨ob, keep3 _ _ hylP e, r⟩
    have hItr3 : h3.IsListIter s1.heap.objs.size yl 0 := hitr.at fun u e => hx _ u (Nat.ne_of_gt hPlt) e
    refine ⟨s1.heap.objs.size, [s1.heap.objs.size, yl], [s1.heap.objs.size], its.toArray.size, (fun i v => its.toArray[i]? = some v), (fun i h => h.IsListIter s1.heap.objs.size yl i ∧ h.IsList yl its.toArray), (fun _ => true),
      (fun i y => ∃ (d e : D) (h : Heap), ds[i]? = some d ∧ f d = some e ∧ VD h e y), rfl, (fun A' hA => Walks.list hA _ _ (Nat.ne_of_lt hylt) _), ⟨hItr3, hIL3⟩, ?_, lim2.extBut hx hcP, ?_, ?_, ?_⟩
    · intro b hb
      rcases List.mem_cons.mp hb with z | z
      · rw [z]
        show s1.heap.objs.size < h3.objs.size
        omega
      · rcases List.mem_cons.mp z with z | z
        · rw [z]
          have e9 : s1.heap.objs.size ≤ h3.objs.size := by omega
          exact Nat.lt_of_lt_of_le hylt e9
        · cases z
    · intro z
      rcases List.mem_cons.mp z with z | z
      · exact Nat.ne_of_lt hcl z
      · cases z
    · intro href hhref
      refine ⟨fun A' E' i v s₂ m₂ hA hPv hn hm hk => ?_, fun A' E' i v s₂ m₂ hA hPv hp hn hm hk => ?_⟩
      · simp only [List.forIn_nil]
        exact wpAny_pure ⟨rfl, GxR.keeps_refl _⟩
      · obtain ⟨d, hd, hvd⟩ := hat i v hPv
        obtain ⟨e, he⟩ := hPz d (List.mem_of_getElem? hd)
        have kk : ∀ b o, b < s1.heap.objs.size → h3.get? b = some o → s₂.heap.get? b = some o := fun b o hb e => hk b (List.mem_range.mpr (Nat.lt_of_lt_of_le hb (by show s1.heap.objs.size ≤ h3.objs.size; omega))) (fun z => by
          rcases List.mem_cons.mp z with z | z
          · exact Nat.ne_of_lt hb z
          · cases z) o (hhref _ o e)
        have ng2 : s₂.heap.Ns mainGlobals X.mg := Ns.at_ ng3 fun o e => kk _ o ngl e
        have nb2 : s₂.heap.Ns builtinsNs mb := Ns.at_ nb3 fun o e => kk _ o nbl e
        have hvd2 : VD s₂.heap d v := hvd.keep fun b o hb e => kk b o (Heap.lt_size e) (keep3 b o (fun z => by
          rw [z, hPs] at e
          cases e
          exact hb rfl) e)
        refine wpAny_mono (hel _ A' E' d e v s₂ m₂ rfl ⟨I1.ok.glob, ng2, mb, nb2, hb2⟩ hn hm hvd2 he) (fun y s3 r => ?_) fun _ _ e => e
        exact ⟨⟨d, e, _, hd, he, r.1⟩, r.2⟩
    · intro g h5 tk5 gs hgb hag hsz5 hk5 W5 hgat
      simp only [GxR.passing_true, List.length_range] at W5
      have hn5 : its.toArray.size = ds.length := by rw [List.size_toArray, hlen]
      rw [hn5] at W5 hgat
      refine hQ ds H1 g _ q1 ⟨_, _, _, _, _, W5.in4_1, hgat, ?_, ?_, fun s' hm => ?_⟩
      · intro b hb
        show b < h5.objs.size
        have e5 : h5.objs.size = g + 1 := hsz5
        have h8 : h3.objs.size < g := hag
        rw [e5]
        rcases List.mem_cons.mp hb with z | z
        · rw [z]
          exact Nat.lt_succ_self g
        · rcases List.mem_cons.mp z with z | z
          · rw [z]
            exact Nat.lt_succ_of_lt h8
          · have z2 := List.mem_range.mp z
            have h7 : b < h3.objs.size := z2
            exact Nat.lt_succ_of_lt (Nat.lt_trans h7 h8)
      · intro j v hv
        obtain ⟨i, hij, d, e, h, hd, he, hq⟩ := hv
        obtain ⟨hj, ej⟩ := List.getElem?_eq_some_iff.mp hij
        rw [List.getElem_range] at ej
        subst ej
        exact ⟨d, e, h, hd, he, hq⟩
      · obtain ⟨more, em⟩ := hmore
        have nwr : ∀ b u, s1.heap.get? b = some u → b ∉ h3.objs.size :: [s1.heap.objs.size] := fun b u e hb => by
          have hl := Heap.lt_size e
          rcases List.mem_cons.mp hb with z | z
          · rw [z] at hl
            have h9 : (h3.objs.size : Nat) < s1.heap.objs.size := hl
            omega
          · rcases List.mem_cons.mp z with z | z
            · rw [z] at hl
              exact Nat.lt_irrefl _ hl
            · cases z
        have J := GxR.inv_tab (more := more) (h' := s'.heap) (g' := s'.gens) (d' := s'.drawn) (t' := s'.toks) I1 hP (fun b u hb e => hm.heap b u (nwr b u e) (hk5 b u (keep3 b u hb e)))
          (by rw [← em]; exact hm.heap P _ (nwr P _ hPs) (hk5 P _ hP3)) (AllBare.movedS (I1.bare.push hgb) hm)
        rw [GxR.sh_eta s1 s' hm.os] at J
        refine ⟨upd H1 P (.tbl (ps ++ more)), ⟨⟨ps ++ more, upd_same, by rw [← em]; exact ht3⟩, fun b hb => upd_ne hb⟩, J⟩
  refine ⟨lim2, ?_⟩
  cases hf : codeAmong gpos ps.toList with
  | none =>
    refine wpAny_genexprCodeX hcode (cd.code hP2 ht) (cd.tab hP2) hf fun c' h' tk hx hge hlt hco' _ htab' _ => ?_
    obtain ⟨o1, vs, f1, tf, fl, tg, inF, tx, tt, op, _, _, _, _, _, _, _, _, _, htr, _⟩ := hco'
    exact cont _ h' tk _ hx (Nat.le_trans hge (Nat.le_of_lt hlt)) htab'.2 ⟨_, rfl⟩ htr
  | some cv =>
    refine wpAny_genexprCode_hit hcode (cd.code hP2 ht) hf ?_
    exact cont cv (s1.heap.push o) s1.toks ps (Heap.ExtBut.refl _ _) (Nat.le_refl _) hP2 ⟨#[], by simp⟩ ht
/-- any(test for x in l), l a list -/
def tAnyL (K : PySem.W.Frag) (P : Addr) (f : D → Option D) (te : TE) : TE := fun σ H Q => te σ H fun v H1 => ∃ (yl : Addr) (ds : List D) (ws : List V), v = .ref yl ∧ SqL K H1 yl ws ∧ DVs K H1 ds ws ∧ (∀ d ∈ ds, ∃ e, f d = some e) ∧ GxR.TabG H1 P ∧
  ∃ g : D → Bool, (∀ d ∈ ds, f d = some (.bl (g d))) ∧ ∀ H2, GxR.Tabbed P H1 H2 → Q (.bl (ds.any g)) H2
/-- max(n for x in l), l a list, the n whole numbers -/
def tMaxL (K : PySem.W.Frag) (P : Addr) (f : D → Option D) (te : TE) : TE := fun σ H Q => te σ H fun v H1 => ∃ (yl : Addr) (ds : List D) (ws : List V), v = .ref yl ∧ SqL K H1 yl ws ∧ DVs K H1 ds ws ∧ (∀ d ∈ ds, ∃ e, f d = some e) ∧ GxR.TabG H1 P ∧
  ∃ g : D → Int, (∀ d ∈ ds, f d = some (.int (g d))) ∧ ds ≠ [] ∧ ∀ H2, GxR.Tabbed P H1 H2 → ∀ m ∈ ds.map g, (∀ y ∈ ds.map g, y ≤ m) → Q (.int m) H2
def trD (ds : List D) (g : D → Bool) (j : Nat) : Bool := match ds[j]? with
  | some d => g d
  | none => false
theorem trD_some {ds : List D} {g : D → Bool} {j : Nat} {d : D} (h : ds[j]? = some d) : trD ds g j = g d := by
  unfold trD
  rw [h]
theorem any_trD (ds : List D) (g : D → Bool) : (List.range ds.length).any (trD ds g) = ds.any g := by
  rw [Bool.eq_iff_iff, List.any_eq_true, List.any_eq_true]
  constructor
  · intro ⟨j, hj, h⟩
    have hj' := List.mem_range.mp hj
    rw [trD_some (List.getElem?_eq_getElem hj')] at h
    exact ⟨ds[j], List.getElem_mem hj', h⟩
  · intro ⟨b, hb, h⟩
    obtain ⟨j, hj, e⟩ := List.getElem_of_mem hb
    refine ⟨j, List.mem_range.mpr hj, ?_⟩
    rw [trD_some (List.getElem?_eq_getElem hj), e]
    exact h
theorem pe_anyL {c P : Addr} {elt iter : Expr} {x : Str} {px p pos gpos : Pos} {scope : Scope} {f : D → Option D} {te : TE} {k : Nat}
    (hr : Room k X.A) (hg : Gl X "any") (hm : X.mg "any" = none) (TB : GxR.TabB X.base X.mg c P) (hcode : X.env.code = .ref c) (S : GenS X.env scope x) (hi : PE X iter te) (hel : QE X.prog X.w X.mg scope x elt f)
    (hs : ∀ v, genFold iter X.env v = pure v)
    (he : starEach [.GeneratorExp elt [⟨.Name x px, iter, [], 0⟩] scope gpos] X.env = (false, eval (.GeneratorExp elt [⟨.Name x px, iter, [], 0⟩] scope gpos) X.env) :: starEach [] X.env := by rfl) :
    PE X (.Call (.Name "any" p) [.GeneratorExp elt [⟨.Name x px, iter, [], 0⟩] scope gpos] [] pos) (tAnyL X.K P f te) := by
  refine ⟨fun pins s σ H Q I h => ?_⟩
  refine wpAny_Call_Name_kw (ld_blt I hg hm boot_any ?_)
  refine PyProof.Rows.callWith_builtin1 ?_ he (by rfl)
  rw [he]
  show wpAny _ _ (spliced ((false, eval (.GeneratorExp elt [⟨.Name x px, iter, [], 0⟩] scope gpos) X.env) :: backTo pos (starEach [] X.env))) _ _ s
  refine Calls.spliced_cons (gen_lstD (R := fun ds H1 => ∃ g : D → Bool, (∀ d ∈ ds, f d = some (.bl (g d))) ∧ ∀ H2, GxR.Tabbed P H1 H2 → Q (.bl (ds.any g)) H2) hr TB hcode S hi hel hs I h fun ds H1 g s5 hR hG => ?_)
  obtain ⟨fp, wr, G, F, St, W, hst, hfp, hF, hI⟩ := hG
  obtain ⟨gb, hgb, hq⟩ := hR
  refine Calls.spliced_nil ?_
  refine call_any_walkS (W.self 0 _ _ _ hst ⟨g, fp, wr, G, _, F, St, trD ds gb, rfl, W, hst, fun j y sj Qj Ej hy hQj => ?_, fun s' hmv => ?_⟩)
  · obtain ⟨d, e, h, hd, he2, hv⟩ := hF j y hy
    rw [hgb d (List.mem_of_getElem? hd)] at he2
    cases he2
    rw [vd_bl.mp hv]
    have hQ2 : Qj (trD ds gb j) sj := hQj
    rw [trD_some hd] at hQ2
    exact wpAny_truthy_bool hQ2
  · obtain ⟨H2, hT, J⟩ := hI s' hmv
    refine ⟨.bl _, H2, J, rfl, ?_⟩
    rw [any_trD]
    exact hq H2 hT
def atD (ds : List D) (g : D → Int) (j : Nat) : Int := match ds[j]? with
  | some d => g d
  | none => 0
theorem atD_some {ds : List D} {g : D → Int} {j : Nat} {d : D} (h : ds[j]? = some d) : atD ds g j = g d := by
  unfold atD
  rw [h]
theorem best_ge (ns : Nat → Int) : ∀ k, argBest (fun i j => decide (ns i > ns j)) k ≤ k ∧ ∀ j, j ≤ k → ns j ≤ ns (argBest (fun i j => decide (ns i > ns j)) k) := by
  intro k
  induction k with
  | zero => exact ⟨Nat.le_refl _, fun j hj => by rw [Nat.le_zero.mp hj]; exact Int.le_refl _⟩
  | succ k ih =>
    unfold argBest
    by_cases c : ns (k + 1) > ns (argBest (fun i j => decide (ns i > ns j)) k)
    · rw [decide_eq_true c, if_pos rfl]
      refine ⟨Nat.le_refl _, fun j hj => ?_⟩
      by_cases e : j = k + 1
      · rw [e]; exact Int.le_refl _
      · have := ih.2 j (by omega)
        omega
    · rw [decide_eq_false c, if_neg Bool.false_ne_true]
      refine ⟨Nat.le_succ_of_le ih.1, fun j hj => ?_⟩
      by_cases e : j = k + 1
      · rw [e]; omega
      · exact ih.2 j (by omega)
theorem pe_maxL {c P : Addr} {elt iter : Expr} {x : Str} {px p pos gpos : Pos} {scope : Scope} {f : D → Option D} {te : TE} {k : Nat}
    (hr : Room k X.A) (hg : Gl X "max") (hm : X.mg "max" = none) (hb : bootBuiltins "max" = some (.builtin "max")) (TB : GxR.TabB X.base X.mg c P) (hcode : X.env.code = .ref c) (S : GenS X.env scope x) (hi : PE X iter te) (hel : QE X.prog X.w X.mg scope x elt f)
    (hs : ∀ v, genFold iter X.env v = pure v)
    (he : starEach [.GeneratorExp elt [⟨.Name x px, iter, [], 0⟩] scope gpos] X.env = (false, eval (.GeneratorExp elt [⟨.Name x px, iter, [], 0⟩] scope gpos) X.env) :: starEach [] X.env := by rfl) :
    PE X (.Call (.Name "max" p) [.GeneratorExp elt [⟨.Name x px, iter, [], 0⟩] scope gpos] [] pos) (tMaxL X.K P f te) := by
  refine ⟨fun pins s σ H Q I h => ?_⟩
  refine wpAny_Call_Name_kw (ld_blt I hg hm hb ?_)
  refine PyProof.Rows.callWith_builtin1 ?_ he (by rfl)
  rw [he]
  show wpAny _ _ (spliced ((false, eval (.GeneratorExp elt [⟨.Name x px, iter, [], 0⟩] scope gpos) X.env) :: backTo pos (starEach [] X.env))) _ _ s
  refine Calls.spliced_cons (gen_lstD (R := fun ds H1 => ∃ g : D → Int, (∀ d ∈ ds, f d = some (.int (g d))) ∧ ds ≠ [] ∧ ∀ H2, GxR.Tabbed P H1 H2 → ∀ m ∈ ds.map g, (∀ y ∈ ds.map g, y ≤ m) → Q (.int m) H2) hr TB hcode S hi hel hs I h fun ds H1 g s5 hR hG => ?_)
  obtain ⟨fp, wr, G, F, St, W, hst, hfp, hF, hI⟩ := hG
  obtain ⟨gb, hgb, hne, hq⟩ := hR
  have hpos : 0 < ds.length := List.length_pos_iff.mpr hne
  refine Calls.spliced_nil ?_
  have val : ∀ j y, F j y → j < ds.length ∧ ∃ t, y = .int (atD ds gb j) t := fun j y hy => by
    obtain ⟨d, e, h, hd, he2, hv⟩ := hF j y hy
    rw [hgb d (List.mem_of_getElem? hd)] at he2
    cases he2
    rw [atD_some hd]
    exact ⟨(List.getElem?_eq_some_iff.mp hd).1, vd_int.mp hv⟩
  refine call_max_walkS (W.self 0 _ _ _ hst ⟨g, fp, wr, G, _, F, St, fun i j => decide (atD ds gb i > atD ds gb j), rfl, W, hst, hfp, hpos, ?_, fun v s' hP hmv => ?_⟩)
  · intro i j vi vj s0 Q0 E0 hi hj hq0
    obtain ⟨_, t, rfl⟩ := val i vi hi
    obtain ⟨_, t2, rfl⟩ := val j vj hj
    exact gt_int hq0
  · obtain ⟨hlt, t, rfl⟩ := val _ v hP
    obtain ⟨H2, hT, J⟩ := hI s' hmv
    refine ⟨.int _, H2, J, ⟨t, rfl⟩, hq H2 hT _ ?_ fun y hy => ?_⟩
    · have e := List.getElem?_eq_getElem hlt
      rw [atD_some e]
      exact List.mem_map.mpr ⟨_, List.getElem_mem hlt, rfl⟩
    · obtain ⟨d, hd, rfl⟩ := List.mem_map.mp hy
      obtain ⟨j, hj, rfl⟩ := List.getElem_of_mem hd
      rw [← atD_some (g := gb) (List.getElem?_eq_getElem hj)]
      exact (best_ge (atD ds gb) (ds.length - 1)).2 j (by omega)
end
section
variable {X : Cx} {Z : Zt} {tx : Tx} {M : List Ent}
def dAnyL (f : D → Option D) (te : TD) : TD := fun r S Q E => te r S (fun d S1 => match d with
  | .ref l => ∃ (ds : List D) (g : D → Bool), S1 l = some (.lst ds) ∧ (∀ d ∈ ds, f d = some (.bl (g d))) ∧ Q (.bl (ds.any g)) S1
  | _ => False) E
def dMaxL (f : D → Option D) (te : TD) : TD := fun r S Q E => te r S (fun d S1 => match d with
  | .ref l => ∃ (ds : List D) (g : D → Int), S1 l = some (.lst ds) ∧ (∀ d ∈ ds, f d = some (.int (g d))) ∧ ds ≠ [] ∧ ∀ m ∈ ds.map g, (∀ y ∈ ds.map g, y ≤ m) → Q (.int m) S1
  | _ => False) E
theorem pd_anyL {c P : Addr} {elt iter : Expr} {x : Str} {px p pos gpos : Pos} {scope : Scope} {f : D → Option D} {te : TD} {k : Nat} (hM : TxOk X.prog X.w X.K X.mg X.base Z tx M) (i : Nat) (hN : tx.bl i = some ("any" : Str))
    (hr : Room k X.A) (hg : Gl X "any") (T : TabD X Z c P) (S : GenS X.env scope x) (hi : PD X Z iter te) (hel : QE X.prog X.w X.mg scope x elt f)
    (hs : ∀ v, genFold iter X.env v = pure v := by intro _; rfl)
    (he : starEach [.GeneratorExp elt [⟨.Name x px, iter, [], 0⟩] scope gpos] X.env = (false, eval (.GeneratorExp elt [⟨.Name x px, iter, [], 0⟩] scope gpos) X.env) :: starEach [] X.env := by rfl) :
    PD X Z (.Call (.Name "any" p) [.GeneratorExp elt [⟨.Name x px, iter, [], 0⟩] scope gpos] [] pos) (dAnyL f te) := fun W tk => by
  refine PE.imp (pe_anyL hr hg (hM.bl i _ hN) T.tab T.code S (hi W tk) hel hs he) fun σ H Q h => ?_
  obtain ⟨r, S0, Q0, E0, R, q, k, kE⟩ := h
  refine ⟨r, S0, _, E0, R, q, fun d S1 v H1 e1 st1 dv1 q1 => ?_, kE⟩
  cases d with
  | ref l =>
    obtain ⟨ds, g, sa, hg2, q2⟩ := q1
    obtain ⟨vs, h1, d1⟩ := sr_lst st1 sa
    have ht : TabG H1 P := st1.tb.1 P T.mem
    refine ⟨l, ds, vs, dv_ref.mp dv1, SqL.of h1, d1, fun d hd => ⟨_, hg2 d hd⟩, ht, g, hg2, fun H2 t => ?_⟩
    obtain ⟨gg, st2⟩ := tabbed_st st1 ht T.no t
    exact k _ S1 _ H2 (e1.trans gg) st2 (dv_bl.mpr rfl) q2
  | _ => exact q1.elim
theorem pd_maxL {c P : Addr} {elt iter : Expr} {x : Str} {px p pos gpos : Pos} {scope : Scope} {f : D → Option D} {te : TD} {k : Nat} (hM : TxOk X.prog X.w X.K X.mg X.base Z tx M) (i : Nat) (hN : tx.bl i = some ("max" : Str))
    (hr : Room k X.A) (hg : Gl X "max") (T : TabD X Z c P) (S : GenS X.env scope x) (hi : PD X Z iter te) (hel : QE X.prog X.w X.mg scope x elt f)
    (hs : ∀ v, genFold iter X.env v = pure v := by intro _; rfl)
    (he : starEach [.GeneratorExp elt [⟨.Name x px, iter, [], 0⟩] scope gpos] X.env = (false, eval (.GeneratorExp elt [⟨.Name x px, iter, [], 0⟩] scope gpos) X.env) :: starEach [] X.env := by rfl) :
    PD X Z (.Call (.Name "max" p) [.GeneratorExp elt [⟨.Name x px, iter, [], 0⟩] scope gpos] [] pos) (dMaxL f te) := fun W tk => by
  refine PE.imp (pe_maxL hr hg (hM.bl i _ hN) bt_max T.tab T.code S (hi W tk) hel hs he) fun σ H Q h => ?_
  obtain ⟨r, S0, Q0, E0, R, q, k, kE⟩ := h
  refine ⟨r, S0, _, E0, R, q, fun d S1 v H1 e1 st1 dv1 q1 => ?_, kE⟩
  cases d with
  | ref l =>
    obtain ⟨ds, g, sa, hg2, hne, q2⟩ := q1
    obtain ⟨vs, h1, d1⟩ := sr_lst st1 sa
    have ht : TabG H1 P := st1.tb.1 P T.mem
    refine ⟨l, ds, vs, dv_ref.mp dv1, SqL.of h1, d1, fun d hd => ⟨_, hg2 d hd⟩, ht, g, hg2, hne, fun H2 t m hm hy => ?_⟩
    obtain ⟨gg, st2⟩ := tabbed_st st1 ht T.no t
    exact k _ S1 _ H2 (e1.trans gg) st2 (dv_int.mpr rfl) (q2 m hm hy)
  | _ => exact q1.elim
end
end G

set_option Elab.async false
set_option linter.all false
set_option maxRecDepth 100000
set_option maxHeartbeats 4000000
/-! GS: zip and enumerate over lists and tuples alike. -/
namespace G
open PySem PySem.Spec PyProof.Rows L2 GxR
/-- a list (false) or a tuple (true) -/
def SqB (K : PySem.W.Frag) (H : Hp) (t : Bool) (a : Addr) (xs : List V) : Prop := if t = true then SqT K H a xs else SqL K H a xs
def IsSq (t : Bool) (h : Heap) (a : Addr) (its : Array Value) : Prop := if t = true then h.IsTuple a its else h.IsList a its
def IsIt (t : Bool) (h : Heap) (i a : Addr) (k : Nat) : Prop := if t = true then h.IsTupleIter i a k else h.IsListIter i a k
def itObj (t : Bool) (a : Addr) : Obj := if t = true then { cls := .type "tuple_iterator", data := .fields #[.ref a, .int 0 0] } else { cls := .type "list_iterator", data := .fields #[.ref a, .int 0 0] }
theorem begins_sq (t : Bool) (a : Addr) (its : Array Value) : Begins (.ref a) (itObj t a) (fun h => IsSq t h a its) := by
  cases t
  · exact begins_list a its
  · exact begins_tuple a its
theorem draws_sq {prog : Program} {w : World} {A : Around} (hh : A.handled = none) (t : Bool) (it a : Addr) (hne : a ≠ it) (its : Array Value) :
    Draws prog w A it [it, a] its.size (fun i v => its[i]? = some v) (fun i h => IsIt t h it a i ∧ IsSq t h a its) := by
  cases t
  · exact Draws.list hh it a hne its
  · exact Draws.tuple hh it a hne its
theorem draws_at {prog : Program} {w : World} {A : Around} (hh : A.handled = none) (t : Bool) (it a : Addr) (hne : a ≠ it) (its : Array Value) (i : Nat) :
    ∃ (n : Nat) (P : Nat → Value → Prop) (St : Nat → Heap → Prop), Draws prog w A it [it, a] n P St ∧ (∀ h, IsIt t h it a i → IsSq t h a its → St i h) ∧ i ≤ n ∧ (its.size ≤ i → i = n) := by
  by_cases c : i < its.size
  · exact ⟨its.size, _, _, draws_sq hh t it a hne its, fun h h1 h2 => ⟨h1, h2⟩, by omega, fun _ => by omega⟩
  · have hx : its[i]? = none := by simp; omega
    cases t
    · refine ⟨i, fun _ _ => True, fun j h => j = i ∧ h.IsListIter it a i ∧ h.IsList a its, ⟨fun j h st => ?_, fun j h h' st hk => ?_, fun j s Q E hj st _ => absurd st.1 (by omega), fun s Q E st hE => ?_⟩, fun h h1 h2 => ⟨rfl, h1, h2⟩, Nat.le_refl _, fun _ => rfl⟩
      · obtain ⟨_, ⟨o, ho, _⟩, _⟩ := st
        exact ⟨o, ho⟩
      · exact ⟨st.1, st.2.1.at fun o e => hk it (by simp) o e, st.2.2.at fun o e => hk a (by simp) o e⟩
      · exact wpAny_nextOf_list_end hh st.2.1 st.2.2 hx hE
    · refine ⟨i, fun _ _ => True, fun j h => j = i ∧ h.IsTupleIter it a i ∧ h.IsTuple a its, ⟨fun j h st => ?_, fun j h h' st hk => ?_, fun j s Q E hj st _ => absurd st.1 (by omega), fun s Q E st hE => ?_⟩, fun h h1 h2 => ⟨rfl, h1, h2⟩, Nat.le_refl _, fun _ => rfl⟩
      · obtain ⟨_, ⟨o, ho, _⟩, _⟩ := st
        exact ⟨o, ho⟩
      · exact ⟨st.1, st.2.1.at fun o e => hk it (by simp) o e, st.2.2.at fun o e => hk a (by simp) o e⟩
      · exact wpAny_nextOf_tuple_end hh st.2.1 st.2.2 hx hE
theorem isIt_new {t : Bool} {h : Heap} {i a : Addr} (e : h.get? i = some (itObj t a)) : IsIt t h i a 0 := by
  cases t
  · exact ⟨_, e, rfl, rfl⟩
  · exact ⟨_, e, rfl, rfl⟩
theorem IsIt.at {t : Bool} {h h' : Heap} {i a : Addr} {k : Nat} (q : IsIt t h i a k) (e : ∀ o, h.get? i = some o → h'.get? i = some o) : IsIt t h' i a k := by
  cases t
  · exact Heap.IsListIter.at q e
  · exact Heap.IsTupleIter.at q e
theorem IsIt.obj {t : Bool} {h : Heap} {i a : Addr} {k : Nat} (q : IsIt t h i a k) : ∃ o, h.get? i = some o ∧ ∀ v, o.data ≠ .cell v := by
  cases t
  · obtain ⟨o, e, _, d⟩ := (show h.IsListIter i a k from q)
    exact ⟨o, e, fun v z => by rw [d] at z; cases z⟩
  · obtain ⟨o, e, _, d⟩ := (show h.IsTupleIter i a k from q)
    exact ⟨o, e, fun v z => by rw [d] at z; cases z⟩
theorem IsSq.lt {t : Bool} {h : Heap} {a : Addr} {its : Array Value} (q : IsSq t h a its) : a < h.objs.size := by
  cases t
  · obtain ⟨o, e, _⟩ := (show h.IsList a its from q)
    exact Heap.lt_size e
  · obtain ⟨o, e, _⟩ := (show h.IsTuple a its from q)
    exact Heap.lt_size e
section
variable {X : Cx} {pins : List (Addr × Obj)} {σ : L2.St} {H : Hp} {s : Shared}
theorem sqB_of {t : Bool} {a : Addr} {xs : List V} (I : Inv X pins σ H s) (h : SqB X.K H t a xs) : ∃ its : List Value, Vals xs its ∧ IsSq t s.heap a its.toArray ∧ xs.length ≤ sizeLine := by
  cases t
  · obtain ⟨its, rv, p, hz⟩ := I.list (show SqL X.K H a xs from h)
    exact ⟨its, rv, p.isList, hz⟩
  · obtain ⟨its, rv, p, hz⟩ := I.tuple (show SqT X.K H a xs from h)
    exact ⟨its, rv, p, hz⟩
theorem sqB_inj {t : Bool} {a : Addr} {xs ys : List V} (I : Inv X pins σ H s) (h : SqB X.K H t a xs) (h' : SqB X.K H t a ys) : xs = ys := by
  cases t
  · exact I.list_inj (show SqL X.K H a xs from h) h'
  · exact I.tuple_inj (show SqT X.K H a xs from h) h'
/-- zip of two sides as they stand at each turn -/
def ItzB (K : PySem.W.Frag) (t u : Bool) (a b : Addr) : It :=
  ⟨fun i H => ∃ (xs ys : List V) (x y : V), SqB K H t a xs ∧ SqB K H u b ys ∧ xs[i]? = some x ∧ ys[i]? = some y,
    fun i H v H' => ∃ T x y, v = .ref T ∧ H T = none ∧ H' = upd H T (.tup [x, y]) ∧ (∀ xs, SqB K H t a xs → xs[i]? = some x) ∧ ∀ ys, SqB K H u b ys → ys[i]? = some y,
    fun i H => ∃ xs ys : List V, SqB K H t a xs ∧ SqB K H u b ys ∧ (xs.length ≤ i ∨ ys.length ≤ i)⟩
theorem turn_zipB {P : Program} {w : World} {K : PySem.W.Frag} {elts : List Expr} {kk : Nat} {tpos : Pos} {t u : Bool} {a b z TI TO i1 i2 : Addr} (D : ZipSep2 z TI TO i1 i2 [i1, a] [i2, b]) (na : a ≠ i1) (nb : b ≠ i2) :
    Turn P w K (.Tuple elts kk tpos) (ItzB K t u a b) [z, TI, TO, i1, i2] z (fun i h => IsZip h z TI TO .none ∧ IsTupOf2 h TI (.ref i1) (.ref i2) ∧ (∃ x y, IsTupOf2 h TO x y) ∧ IsIt t h i1 a i ∧ IsIt u h i2 b i) where
  mem := by simp
  obj := fun i h st c hc => by
    obtain ⟨hz, hTI, ⟨x, y, hTO⟩, q1, q2⟩ := st
    have e' : c = z ∨ c = TI ∨ c = TO ∨ c = i1 ∨ c = i2 := by simpa using hc
    rcases e' with q | q | q | q | q
    · rw [q]; exact ⟨_, hz, fun v q => nomatch q⟩
    · rw [q]; exact ⟨_, hTI, fun v q => nomatch q⟩
    · rw [q]; exact ⟨_, hTO, fun v q => nomatch q⟩
    · rw [q]; exact q1.obj
    · rw [q]; exact q2.obj
  keep := fun i h h' st k => by
    obtain ⟨hz, hTI, ⟨x, y, hTO⟩, h1, h2⟩ := st
    exact ⟨k z (by simp) _ hz, k TI (by simp) _ hTI, ⟨x, y, k TO (by simp) _ hTO⟩, h1.at fun o q => k i1 (by simp) o q, h2.at fun o q => k i2 (by simp) o q⟩
  item := by
    intro X hP hw hK hc i pins s σ H E I hf st hg
    subst hP hw hK
    obtain ⟨hz, hTI, ⟨x0, y0, hTO⟩, h1, h2⟩ := st
    obtain ⟨xs, ys, x, y, hqx, hqy, hx, hy⟩ := hg
    obtain ⟨its, rv, p, _⟩ := sqB_of I hqx
    obtain ⟨its2, rv2, p2, _⟩ := sqB_of I hqy
    obtain ⟨v1, hu, ru⟩ := rv.get hx
    obtain ⟨v2, hu2, ru2⟩ := rv2.get hy
    have hzl : z < s.heap.objs.size := Heap.lt_size hz
    have l1 := rv.length
    have l2 := rv2.length
    have d1 : Draws X.prog X.w X.A.in1 i1 [i1, a] its.toArray.size (fun i v => its.toArray[i]? = some v) (fun i h => IsIt t h i1 a i ∧ IsSq t h a its.toArray) := draws_sq (A := X.A.in1) (show X.A.in1.handled = none from I.ok.hd hc) t i1 a na its.toArray
    have d2 : Draws X.prog X.w X.A.in1 i2 [i2, b] its2.toArray.size (fun i v => its2.toArray[i]? = some v) (fun i h => IsIt u h i2 b i ∧ IsSq u h b its2.toArray) := draws_sq (A := X.A.in1) (show X.A.in1.handled = none from I.ok.hd hc) u i2 b nb its2.toArray
    have hi1 : i < its.toArray.size := by rw [List.size_toArray]; exact (List.getElem?_eq_some_iff.mp hu).1
    have hi2 : i < its2.toArray.size := by rw [List.size_toArray]; exact (List.getElem?_eq_some_iff.mp hu2).1
    refine wpAny_pyNext_zipD2_item D d1 d2 hz hTI hTO ⟨h1, p⟩ ⟨h2, p2⟩ hi1 hi2 fun x1 x2 h' tk e1 e2 z' TO' st1 st2 hT hsz hk => ?_
    have e1' : x1 = v1 := Option.some.inj (e1.symm.trans (by simpa using hu))
    have e2' : x2 = v2 := Option.some.inj (e2.symm.trans (by simpa using hu2))
    subst e1' e2'
    refine ⟨_, rfl, wpAny_letOwnedTupleGo_zip (s := { s with heap := h', toks := tk }) z' fun h'' z'' sb => ?_⟩
    have hT2 : h''.get? s.heap.objs.size = some { cls := .type "tuple", data := .seq #[x1, x2] } := (sb.2 _ (Nat.ne_of_gt hzl)).trans hT
    have new : ObjOk X.prog X.w (upd H s.heap.objs.size (.tup [x, y])) h'' s.heap.objs.size (.tup [x, y]) :=
      ⟨by show 2 ≤ sizeLine; decide, [x1, x2], .cons ru (.cons ru2 .nil), ⟨_, hT2, rfl, _, rfl⟩⟩
    have I1 : Inv X pins σ (upd H s.heap.objs.size (.tup [x, y])) { s with heap := h'', toks := tk } :=
      I.turnedNew (ch := [z, TI, TO, i1, i2]) (fun c o hb q => (sb.2 c (fun q' => hb (by simp [q']))).trans (hk c o (fun q' => hb (by simp [q'])) (fun q' => hb (by simp [q'])) (fun q' => hb (by simp [q'])) (fun q' => hb (by simp [q'])) q)) hf (Nat.le_refl _) new
    refine ⟨.ref s.heap.objs.size, _, I1, rfl, ⟨_, x, y, rfl, I.hok.fresh (Nat.le_refl _), rfl, fun l hl => by rw [sqB_inj I hl hqx]; exact hx, fun l hl => by rw [sqB_inj I hl hqy]; exact hy⟩, ⟨z'', ?_, ⟨x1, x2, ?_⟩, ?_, ?_⟩, fun c hcm => ?_⟩
    · exact (sb.2 _ D.TIz).trans (hk _ _ D.TIz D.TITO D.TIi1 D.TIi2 hTI)
    · exact (sb.2 _ D.TOz).trans TO'
    · exact st1.1.at fun o q => (sb.2 _ (Ne.symm D.zi1)).trans q
    · exact st2.1.at fun o q => (sb.2 _ (Ne.symm D.zi2)).trans q
    · have hlt : c < s.heap.objs.size := by
        have e' : c = z ∨ c = TI ∨ c = TO ∨ c = i1 ∨ c = i2 := by simpa using hcm
        rcases e' with q | q | q | q | q
        · rw [q]; exact hzl
        · rw [q]; exact Heap.lt_size hTI
        · rw [q]; exact Heap.lt_size hTO
        · rw [q]; obtain ⟨_, e1, _⟩ := h1.obj; exact Heap.lt_size e1
        · rw [q]; obtain ⟨_, e2, _⟩ := h2.obj; exact Heap.lt_size e2
      rw [upd_ne (Nat.ne_of_lt hlt)]
      exact (hf c hcm).1
  done := by
    intro X hP hw hK hc i pins s σ H E I hf st hg
    subst hP hw hK
    obtain ⟨hz, hTI, ⟨x0, y0, hTO⟩, h1, h2⟩ := st
    obtain ⟨xs, ys, hqx, hqy, hend⟩ := hg
    obtain ⟨its, rv, p, _⟩ := sqB_of I hqx
    obtain ⟨its2, rv2, p2, _⟩ := sqB_of I hqy
    have l1 := rv.length
    have l2 := rv2.length
    obtain ⟨n1, P1, S1, d1, st1, le1, end1⟩ := draws_at (prog := X.prog) (w := X.w) (A := X.A.in1) (show X.A.in1.handled = none from I.ok.hd hc) t i1 a na its.toArray i
    obtain ⟨n2, P2, S2, d2, st2, le2, end2⟩ := draws_at (prog := X.prog) (w := X.w) (A := X.A.in1) (show X.A.in1.handled = none from I.ok.hd hc) u i2 b nb its2.toArray i
    rw [List.size_toArray] at end1 end2
    refine wpAny_pyNext_zipD2_end D d1 d2 hz hTI hTO (st1 _ h1 p) (st2 _ h2 p2) le1 le2 (hend.imp (fun q => end1 (by omega)) fun q => end2 (by omega)) fun h' tk hk => ⟨rfl, ?_⟩
    exact I.turnedL (ch := [z, TI, TO, i1, i2]) (fun c o hb q => hk c o (fun q' => hb (by simp [q'])) (fun q' => hb (by simp [q'])) (fun q' => hb (by simp [q'])) (fun q' => hb (by simp [q'])) q) hf
  self := fun A i s Q E st h => wpAny_pyIter_zip st.1 h
/-- enumerate of a side as it stands at each turn -/
def IteB (K : PySem.W.Frag) (t : Bool) (a : Addr) : It :=
  ⟨fun i H => ∃ (xs : List V) (x : V), SqB K H t a xs ∧ xs[i]? = some x, fun i H v H' => ∃ T x, v = .ref T ∧ H T = none ∧ H' = upd H T (.tup [.int (i : Nat), x]) ∧ ∀ xs, SqB K H t a xs → xs[i]? = some x, fun i H => ∃ xs : List V, SqB K H t a xs ∧ xs.length ≤ i⟩
theorem turn_enumB {P : Program} {w : World} {K : PySem.W.Frag} {elts : List Expr} {kk : Nat} {tpos : Pos} {t : Bool} {a e it : Addr} (hne : e ≠ it) (hea : e ≠ a) (na : a ≠ it) :
    Turn P w K (.Tuple elts kk tpos) (IteB K t a) [e, it] e (fun i h => (∃ old, IsEnum h e it ((i : Nat) : Int) old) ∧ IsIt t h it a i) where
  mem := by simp
  obj := fun i h st b hb => by
    obtain ⟨⟨old, he⟩, q⟩ := st
    have e' : b = e ∨ b = it := by simpa using hb
    rcases e' with z | z
    · rw [z]; exact ⟨_, he, fun v q => nomatch q⟩
    · rw [z]; exact q.obj
  keep := fun i h h' st k => let ⟨⟨old, he⟩, hi⟩ := st; ⟨⟨old, k e (by simp) _ he⟩, hi.at fun o q => k it (by simp) o q⟩
  item := by
    intro X hP hw hK hc i pins s σ H E I hf st hg
    subst hP hw hK
    obtain ⟨⟨old, he⟩, hit⟩ := st
    obtain ⟨xs, x, hq, hx⟩ := hg
    obtain ⟨its, rv, p, hz⟩ := sqB_of I hq
    obtain ⟨u, hu, ru⟩ := rv.get hx
    have hel : e < s.heap.objs.size := Heap.lt_size he
    have hil : it < s.heap.objs.size := by obtain ⟨_, q, _⟩ := hit.obj; exact Heap.lt_size q
    have d1 : Draws X.prog X.w X.A.in1 it [it, a] its.toArray.size (fun i v => its.toArray[i]? = some v) (fun i h => IsIt t h it a i ∧ IsSq t h a its.toArray) := draws_sq (A := X.A.in1) (show X.A.in1.handled = none from I.ok.hd hc) t it a na its.toArray
    have hi1 : i < its.toArray.size := by rw [List.size_toArray]; exact (List.getElem?_eq_some_iff.mp hu).1
    refine wpAny_pyNext_enum_itemD d1 he ⟨hit, p⟩ hi1 hne (by simp [hne, hea]) fun y h' tk e1 ho st' hT hsz hk => ?_
    have e1' : y = u := Option.some.inj (e1.symm.trans (by simpa using hu))
    subst e1'
    refine ⟨_, rfl, wpAny_letOwnedTupleGo_enum (s := { s with heap := h', toks := tk + 1 }) ho fun h'' he' sb => ?_⟩
    have hT2 : h''.get? s.heap.objs.size = some { cls := .type "tuple", data := .seq #[.int i tk, y] } := (sb.2 _ (Nat.ne_of_gt hel)).trans hT
    have new : ObjOk X.prog X.w (upd H s.heap.objs.size (.tup [.int (i : Nat), x])) h'' s.heap.objs.size (.tup [.int (i : Nat), x]) :=
      ⟨by show 2 ≤ sizeLine; decide, [.int i tk, y], .cons ⟨_, rfl⟩ (.cons ru .nil), ⟨_, hT2, rfl, _, rfl⟩⟩
    have I1 : Inv X pins σ (upd H s.heap.objs.size (.tup [.int (i : Nat), x])) { s with heap := h'', toks := tk + 1 } :=
      I.turnedNew (ch := [e, it]) (fun b ob hb q => (sb.2 b (fun z => hb (by simp [z]))).trans (hk b ob (fun z => hb (by simp [z])) (fun z => hb (by simp [z])) q)) hf (Nat.le_refl _) new
    refine ⟨.ref s.heap.objs.size, _, I1, rfl, ⟨_, x, rfl, I.hok.fresh (Nat.le_refl _), rfl, fun ys hy => by rw [sqB_inj I hy hq]; exact hx⟩, ⟨⟨y, ?_⟩, st'.1.at fun o q => (sb.2 it (Ne.symm hne)).trans q⟩, fun b hb => ?_⟩
    · have e1 : ((i + 1 : Nat) : Int) = (i : Int) + 1 := by omega
      rw [e1]; exact he'
    · have hb' : b < s.heap.objs.size := by
        have e' : b = e ∨ b = it := by simpa using hb
        rcases e' with z | z
        · rw [z]; exact hel
        · rw [z]; exact hil
      rw [upd_ne (Nat.ne_of_lt hb')]
      exact (hf b hb).1
  done := by
    intro X hP hw hK hc i pins s σ H E I hf st hg
    subst hP hw hK
    obtain ⟨⟨old, he⟩, hit⟩ := st
    obtain ⟨xs, hq, hx⟩ := hg
    obtain ⟨its, rv, p, hz⟩ := sqB_of I hq
    obtain ⟨f0, f1, f2, f3, f4, f5⟩ := hf it (by simp)
    have hl := rv.length
    obtain ⟨n1, P1, S1, d1, st1, le1, end1⟩ := draws_at (prog := X.prog) (w := X.w) (A := X.A.in1) (show X.A.in1.handled = none from I.ok.hd hc) t it a na its.toArray i
    rw [List.size_toArray] at end1
    have ei := end1 (by omega)
    have st2 := st1 _ hit p
    have he2 := he
    subst ei
    exact wpAny_pyNext_enum_endD d1 he2 st2 fun h' eb => ⟨rfl, I.turned (t' := s.toks) (fun b o hb q => eb b o hb q) f0 f1 f3 f4 f5⟩
  self := fun A i s Q E st h => let ⟨⟨_, he⟩, _⟩ := st; wpAny_pyIter_enum he h
end
theorem meets_enumB {v : Value} {o : Obj} {H : Heap → Prop} (B : Begins v o H) :
    Meets (Builtin.«enumerate.__new__» ⟨[.type "enumerate", v], []⟩) (fun _ R s => H s.heap ∧
      R (.ok (.ret (.ref (s.heap.push o).objs.size))) { s with heap := (s.heap.push o).push { cls := .type "enumerate", data := .fields #[.none, .bool false, .ref s.heap.objs.size, rawInt 0, .none, .none] } }) :=
  .of_wp fun prog w A R s h => by
    obtain ⟨hp, g, d, tk, os⟩ := s; obtain ⟨h1, h⟩ := h
    have hsub := sub_enumerate
    have q1 : ∀ {A' : Around} {E : Value → Shared → Prop} {Q : Value → Shared → Prop}, Q (.ref hp.objs.size) ⟨hp.push o, g, d, tk, os⟩ → wpAny (model prog w) A' (pyIter v) Q E ⟨hp, g, d, tk, os⟩ :=
      fun q => B.iter prog w _ _ ⟨hp, g, d, tk, os⟩ _ h1 q
    wp_walk using q1
    refine wpAny_stack_any fun st => wpAny_pure ?_
    split
    · rename_i c _ _ _ _ _
      cases (c == Value.type "enumerate")
      · wp_walk using q1
        exact ⟨_, rfl, h⟩
      · wp_walk using q1
        exact ⟨_, rfl, h⟩
    · wp_walk using q1
      exact ⟨_, rfl, h⟩
section
variable {prog : Program} {w : World} {A : Around} {E : Value → Shared → Prop} {s : Shared}
theorem enum_begin1 {v : Value} {o : Obj} {H : Heap → Prop} {Q : Value → Shared → Prop} (B : Begins v o H) (h1 : H s.heap)
    (h : ∀ h', IsEnum h' (s.heap.objs.size + 1) s.heap.objs.size 0 .none → h'.get? s.heap.objs.size = some o → h'.objs.size = s.heap.objs.size + 2 →
      (∀ b o, s.heap.get? b = some o → h'.get? b = some o) → Q (.ref (s.heap.objs.size + 1)) { s with heap := h' }) :
    wpAny (model prog w) A (call (.type "enumerate") [v]) Q E s := by
  refine callType_new F.called_enumerate (by decide) (F.typeCall_enumerate_1 _) (F.newCall_enumerate_1 _) (fun obj => F.args_object_init_2 obj _) F.entry_enumerate_new
    (meets_enumB B) ⟨h1, ?_⟩
  have hz : (s.heap.push o).objs.size = s.heap.objs.size + 1 := Heap.size_push ..
  show _ ∧ _
  rw [hz]
  have he : IsEnum ((s.heap.push o).push { cls := .type "enumerate", data := .fields #[.none, .bool false, .ref s.heap.objs.size, rawInt 0, .none, .none] }) (s.heap.objs.size + 1) s.heap.objs.size 0 .none := by
    have := Heap.get?_push_size (s.heap.push o) (o := { cls := .type "enumerate", data := .fields #[.none, .bool false, .ref s.heap.objs.size, rawInt 0, .none, .none] }) rfl
    rw [hz] at this; exact this
  refine ⟨⟨_, he, rfl⟩, h _ he (Heap.get?_push_of_some _ (Heap.get?_push_size _ B.free)) (by rw [Heap.size_push, hz]) fun b o x => Heap.get?_push_of_some _ (Heap.get?_push_of_some _ x)⟩
end
def iZipBV (K : PySem.W.Frag) (ta : TA) : TI := fun σ H R => ta σ H fun vs H1 => ∃ t u a b xs ys, vs = [.ref a, .ref b] ∧ SqB K H1 t a xs ∧ SqB K H1 u b ys ∧ R (ItzB K t u a b) H1
theorem pi_zipB {X : Cx} {e e2 : Expr} {ta : TA} {p pos tpos : Pos} {elts : List Expr} {kk : Nat} (hg : Gl X "zip") (hm : X.mg "zip" = none) (ha : PA X [e, e2] ta)
    (hs : starEach [e, e2] X.env = (false, eval e X.env) :: starEach [e2] X.env := by rfl) (hpl : (backTo pos (starEach [e2] X.env)).any (·.1) = false := by rfl) :
    PI X (.Tuple elts kk tpos) (.Call (.Name "zip" p) [e, e2] [] pos) (iZipBV X.K ta) := by
  refine ⟨fun pins s σ H R I h => ?_⟩
  refine Call_ (ld_blt I hg hm PyProof.Rows.boot_zip (PyProof.Rows.callWith_type1 (thn (ha.run pos pins s σ H _ I h) fun us s1 ⟨vs, H1, I1, r1, q1⟩ => ?_) hs hpl))
  obtain ⟨t, u, a, b, xs, ys, ex, hqx, hqy, q⟩ := q1
  subst ex
  cases r1 with
  | cons r rr =>
    cases rr with
    | cons r' rr =>
      cases rr
      cases r
      cases r'
      obtain ⟨its, rv, p1, _⟩ := sqB_of I1 hqx
      obtain ⟨its2, rv2, p2, _⟩ := sqB_of I1 hqy
      have la : a < s1.heap.objs.size := p1.lt
      have lb : b < s1.heap.objs.size := p2.lt
      refine zip_begins2 (begins_sq t a its.toArray) (begins_sq u b its2.toArray) p1 p2 fun h' hz hTI hTO g1 g2 hsz hk => wpAny_pyIter_zip hz ?_
      have I2 : Inv X pins σ H1 { s1 with heap := h' } := I1.kept (t' := s1.toks) hk
      have D := zip_sep2 (N := s1.heap.objs.size) (fp1 := [a]) (fp2 := [b]) (by simpa using la) (by simpa using lb)
      refine ⟨s1.heap.objs.size + 4, [s1.heap.objs.size + 4, s1.heap.objs.size + 2, s1.heap.objs.size + 3, s1.heap.objs.size, s1.heap.objs.size + 1], _, _, H1, rfl, I2, turn_zipB D (Nat.ne_of_lt la) (Nat.ne_of_lt (Nat.lt_succ_of_lt lb)), ⟨hz, hTI, ⟨_, _, hTO⟩, isIt_new g1, isIt_new g2⟩, fun c hcm => ?_, q⟩
      have e' : c = s1.heap.objs.size + 4 ∨ c = s1.heap.objs.size + 2 ∨ c = s1.heap.objs.size + 3 ∨ c = s1.heap.objs.size ∨ c = s1.heap.objs.size + 1 := by simpa using hcm
      have hle : s1.heap.objs.size ≤ c := by
        rcases e' with z | z | z | z | z
        · rw [z]; exact Nat.le_add_right _ _
        · rw [z]; exact Nat.le_add_right _ _
        · rw [z]; exact Nat.le_add_right _ _
        · rw [z]; exact Nat.le_refl _
        · rw [z]; exact Nat.le_add_right _ _
      exact I1.fpOk hle (I1.hok.fresh hle)
def iEnumBV (K : PySem.W.Frag) (ta : TA) : TI := fun σ H R => ta σ H fun vs H1 => ∃ t a xs, vs = [.ref a] ∧ SqB K H1 t a xs ∧ R (IteB K t a) H1
theorem pi_enumB {X : Cx} {e : Expr} {ta : TA} {p pos tpos : Pos} {elts : List Expr} {kk : Nat} (hg : Gl X "enumerate") (hm : X.mg "enumerate" = none) (ha : PA X [e] ta) (hs : starEach [e] X.env = [(false, eval e X.env)] := by rfl) :
    PI X (.Tuple elts kk tpos) (.Call (.Name "enumerate" p) [e] [] pos) (iEnumBV X.K ta) := by
  refine ⟨fun pins s σ H R I h => ?_⟩
  refine Call_ (ld_blt I hg hm boot_enumerate (PyProof.Rows.callWith_type1 (thn (ha.run pos pins s σ H _ I h) fun us s1 ⟨vs, H1, I1, r1, q1⟩ => ?_) hs rfl))
  obtain ⟨t, a, xs, ex, hq, q⟩ := q1
  subst ex
  cases r1 with
  | cons r rr =>
    cases rr
    cases r
    obtain ⟨its, rv, p', hz⟩ := sqB_of I1 hq
    have la : a < s1.heap.objs.size := p'.lt
    refine enum_begin1 (begins_sq t a its.toArray) p' fun h' he g1 hsz hk => wpAny_pyIter_enum he ?_
    have I2 : Inv X pins σ H1 { s1 with heap := h' } := I1.kept (t' := s1.toks) hk
    refine ⟨s1.heap.objs.size + 1, [s1.heap.objs.size + 1, s1.heap.objs.size], _, _, H1, rfl, I2, turn_enumB (a := a) (e := s1.heap.objs.size + 1) (it := s1.heap.objs.size) (Nat.succ_ne_self _) (Nat.ne_of_gt (Nat.lt_succ_of_lt la)) (Nat.ne_of_lt la), ⟨⟨.none, he⟩, isIt_new g1⟩, fun b hb => ?_, q⟩
    have e' : b = s1.heap.objs.size + 1 ∨ b = s1.heap.objs.size := by simpa using hb
    have hle : s1.heap.objs.size ≤ b := by
      rcases e' with z | z
      · rw [z]; exact Nat.le_add_right _ _
      · rw [z]; exact Nat.le_refl _
    exact I1.fpOk hle (I1.hok.fresh hle)
/-! ### by data -/
def SideD (S : DS) (x : D) (xs : List D) : Prop := match x with
  | .ref l => S l = some (.lst xs)
  | .tup ds => ds = xs
  | _ => False
section
variable {K : PySem.W.Frag} {Z : Zt} {X : Cx}
theorem side_of {S : DS} {H : Hp} {x : D} {v : V} {xs : List D} (st : ST K Z S H) (dv : DV K H x v) (h : SideD S x xs) : ∃ (t : Bool) (l : Addr), v = .ref l ∧ (∃ vs, SqB K H t l vs) ∧
    ∀ S' H', Evo H H' → ST K Z S' H' → SideD S' x xs → ∃ vs, SqB K H' t l vs ∧ DVs K H' xs vs := by
  cases x with
  | ref l =>
    obtain ⟨vs, h1, d1⟩ := sr_lst st (show S l = some (.lst xs) from h)
    refine ⟨false, l, dv_ref.mp dv, ⟨vs, SqL.of h1⟩, fun S' H' e st' h' => ?_⟩
    obtain ⟨vs, h1, d1⟩ := sr_lst st' (show S' l = some (.lst xs) from h')
    exact ⟨vs, SqL.of h1, d1⟩
  | tup ds =>
    obtain ⟨l, vs, ev, h1, d1⟩ := dv_tup.mp dv
    obtain rfl : ds = xs := h
    exact ⟨true, l, ev, ⟨vs, h1⟩, fun S' H' e st' h' => ⟨vs, e.sqT h1, d1.mono e⟩⟩
  | _ => exact h.elim
def iZipDB (ta : TDA) : TDI := fun r S Q E => ta r S (fun ds S1 => match ds with
  | [x, y] => ∃ xs ys, SideD S1 x xs ∧ SideD S1 y ys ∧ Q (zipD xs ys) (fun S => SideD S x xs ∧ SideD S y ys) S1
  | _ => False) E
theorem zipD_len {xs ys : List D} (h : xs.length = ys.length) : (zipD xs ys).length = xs.length := by
  unfold zipD
  rw [List.length_zipWith]
  omega
theorem pdi_zipB {M : List Ent} {tx : Tx} {a b : Expr} {ta : TDA} {p pos tpos : Pos} {elts : List Expr} {kk : Nat} (hM : TxOk X.prog X.w X.K X.mg X.base Z tx M) (i : Nat) (hN : tx.bl i = some ("zip" : Str)) (ha : PDA X Z [a, b] ta) (hg : Gl X "zip" := by rfl) (hs : starEach [a, b] X.env = (false, eval a X.env) :: starEach [b] X.env := by rfl) (hpl : (backTo pos (starEach [b] X.env)).any (·.1) = false := by rfl) : PDI X Z (.Tuple elts kk tpos) (.Call (.Name "zip" p) [a, b] [] pos) (iZipDB ta) := fun W tk => by
  refine PI.imp (pi_zipB hg (hM.bl i _ hN) (ha W tk) hs hpl) fun σ H R h => ?_
  obtain ⟨r, S, Q0, E0, RR, q, k, kE⟩ := h
  refine ⟨r, S, _, E0, RR, q, fun ds S1 vs H1 e1 st1 dv1 q1 => ?_, kE⟩
  match ds, q1, dv1 with
  | [x, y], q1, dv1 =>
    obtain ⟨xs, ys, sa, sb, q2⟩ := q1
    obtain ⟨w, w2, rfl, dw, dw2⟩ := two_of dv1
    obtain ⟨t, l, rfl, ⟨ws, h1⟩, kx⟩ := side_of st1 dw sa
    obtain ⟨u, m, rfl, ⟨ws2, h2⟩, ky⟩ := side_of st1 dw2 sb
    refine ⟨t, u, l, m, ws, ws2, rfl, h1, h2, k _ _ S1 _ H1 e1 st1 (fun i S' H' ev st ok => ?_) q2⟩
    obtain ⟨vs, g1, d1⟩ := kx S' H' ev st ok.1
    obtain ⟨us, g2, d2⟩ := ky S' H' ev st ok.2
    refine ⟨fun d hd => ?_, fun hi => ⟨vs, us, g1, g2, ?_⟩⟩
    · obtain ⟨x, y, e1, e2, rfl⟩ := zipD_at hd
      obtain ⟨v, hv, dv⟩ := d1.get e1
      obtain ⟨w, hw, dw⟩ := d2.get e2
      refine ⟨⟨vs, us, v, w, g1, g2, hv, hw⟩, fun x H' y => ?_⟩
      obtain ⟨T, x', y', e1, hT, e2, y1, y2⟩ := y
      have z1 := y1 vs g1
      have z2 := y2 us g2
      rw [hv] at z1
      rw [hw] at z2
      cases z1
      cases z2
      subst e1 e2
      exact ⟨dv_tup.mpr ⟨T, _, rfl, .inl (.inl upd_same), DVs.cons (dv.mono (Evo.new hT)) (DVs.cons (dw.mono (Evo.new hT)) (dvs_nil.mpr rfl))⟩, Evo.put_go hT st⟩
    · unfold zipD at hi
      rw [List.length_zipWith] at hi
      rw [← d1.len, ← d2.len]
      omega
def iEnumDB (ta : TDA) : TDI := fun r S Q E => ta r S (fun ds S1 => match ds with
  | [x] => ∃ xs, SideD S1 x xs ∧ Q (numD xs) (fun S => SideD S x xs) S1
  | _ => False) E
theorem pdi_enumB {M : List Ent} {tx : Tx} {a : Expr} {ta : TDA} {p pos tpos : Pos} {elts : List Expr} {kk : Nat} (hM : TxOk X.prog X.w X.K X.mg X.base Z tx M) (i : Nat) (hN : tx.bl i = some ("enumerate" : Str)) (ha : PDA X Z [a] ta) (hg : Gl X "enumerate" := by rfl) (hs : starEach [a] X.env = [(false, eval a X.env)] := by rfl) : PDI X Z (.Tuple elts kk tpos) (.Call (.Name "enumerate" p) [a] [] pos) (iEnumDB ta) := fun W tk => by
  refine PI.imp (pi_enumB hg (hM.bl i _ hN) (ha W tk) hs) fun σ H R h => ?_
  obtain ⟨r, S, Q0, E0, RR, q, k, kE⟩ := h
  refine ⟨r, S, _, E0, RR, q, fun ds S1 vs H1 e1 st1 dv1 q1 => ?_, kE⟩
  match ds, q1, dv1 with
  | [x], q1, dv1 =>
    obtain ⟨xs, sa, q2⟩ := q1
    obtain ⟨w, rfl, dw⟩ := one_of dv1
    obtain ⟨t, l, rfl, ⟨ws, h1⟩, kx⟩ := side_of st1 dw sa
    refine ⟨t, l, ws, rfl, h1, k _ _ S1 _ H1 e1 st1 (fun i S' H' ev st ok => ?_) q2⟩
    obtain ⟨vs, g1, d1⟩ := kx S' H' ev st ok
    refine ⟨fun d hd => ?_, fun hi => ⟨vs, g1, by rw [← d1.len, ← numD_len]; exact hi⟩⟩
    obtain ⟨e, he, rfl⟩ := numD_at hd
    obtain ⟨v, hv, dv⟩ := d1.get he
    refine ⟨⟨vs, v, g1, hv⟩, fun x H' y => ?_⟩
    obtain ⟨T, x', e1, hT, e2, y⟩ := y
    have := y vs g1
    rw [hv] at this
    cases this
    subst e1 e2
    exact ⟨dv_tup.mpr ⟨T, _, rfl, .inl (.inl upd_same), DVs.cons (dv_int.mpr rfl) (DVs.cons (dv.mono (Evo.new hT)) (dvs_nil.mpr rfl))⟩, Evo.put_go hT st⟩
end
/-! ### o[i] op= e of a list -/
def rGetL (K : PySem.W.Frag) : V → V → Hp → VK → Prop := fun o i H Q => ∃ p xs k z, o = .ref p ∧ i = .int k ∧ SqL K H p xs ∧ 0 ≤ k ∧ xs[k.toNat]? = some z ∧ Q z H
theorem get_listB {X : Cx} : PGet X (rGetL X.K) := by
  intro pins s σ H o i ov iv Q I ro ri h
  obtain ⟨p, xs, k, z, rfl, rfl, hq, h0, he, q⟩ := h
  cases ro
  obtain ⟨t, rfl⟩ := ri
  obtain ⟨its, r, pl, hz⟩ := I.list hq
  obtain ⟨w, ew, rw'⟩ := r.get he
  have hn := line63
  have hl := (List.getElem?_eq_some_iff.mp he).1
  exact wpAny_getItem_list pl.isList h0 (by omega) (by simpa using ew) ⟨z, H, I, rw', q⟩
section
variable {X : Cx} {Z : Zt} {o a e : Expr} {to ti te : TD} {pos tpos : Pos} {op : Operator} {r2 : RD2}
def dAugIx (to ti te : TD) (r2 : RD2) : TDS := fun D r S => to r S (fun x S1 => ti r S1 (fun y S2 => match x, y with
  | .ref l, .int i => 0 ≤ i ∧ ∃ ds d, S2 l = some (.lst ds) ∧ ds[i.toNat]? = some d ∧ te r S2 (fun z S3 => r2 d z S3 fun nw S4 => ∃ ds2, S4 l = some (.lst ds2) ∧ i.toNat < ds2.length ∧ D.nx r (put S4 l (.lst (ds2.set i.toNat nw)))) (fun c S3 => D.ex c r S3)
  | _, _ => False) (fun c S2 => D.ex c r S2)) (fun c S1 => D.ex c r S1)
theorem pds_augIx (ho : PD X Z o to) (hi : PD X Z a ti) (he : PD X Z e te) (hp : IpD X Z op r2)
    (ha : ∀ ov iv new, augStore a ov iv new = (do holding [new, ov, iv] (setItem ov iv new); release [new, ov, iv] []; pure .next) := by intros; rfl) : PDS X Z (.AugAssign (.Subscript o a tpos) op e pos) (dAugIx to ti te r2) := fun W tk => by
  refine PS.imp (ps_augS (ho W tk) (hi W tk) get_listB (he W tk) hp set_list ha) fun D σ H h => ?_
  obtain ⟨r, S, D0, R, q, k⟩ := h
  refine ⟨r, S, _, _, R, q, fun x S1 v H1 e1 st1 dv1 q1 => ?_, k.exx R⟩
  refine ⟨r, S1, _, _, R.go e1 st1, q1, fun y S2 w H2 e2 st2 dv2 q2 => ?_, (k.go e1).exx (R.go e1 st1)⟩
  cases x with
  | ref l =>
    cases y with
    | int i =>
      obtain ⟨i0, ds, d, sa, hd, q3⟩ := q2
      obtain ⟨vs, h1, d1⟩ := sr_lst st2 sa
      obtain ⟨z, hz, dz⟩ := d1.get hd
      refine ⟨l, vs, i, z, dv_ref.mp (dv1.mono e2.evo), dv_int.mp dv2, SqL.of h1, i0, hz, ?_⟩
      have g2 := e1.trans e2
      refine ⟨r, S2, _, _, R.go g2 st2, q3, fun y3 S3 w3 H3 e3 st3 dv3 q4 => ?_, (k.go g2).exx (R.go g2 st2)⟩
      refine ⟨d, y3, S3, _, st3, dz.mono e3.evo, dv3, q4, fun nw S4 v4 H4 e4 st4 dv4 q5 => ?_⟩
      obtain ⟨ds2, sb, hlt, q6⟩ := q5
      obtain ⟨vs2, h2, d2⟩ := sr_lst st4 sb
      have ev : Evo H4 (upd H4 l (.lst (vs2.set i.toNat v4))) := mut_evo h2 trivial
      have hj : ixN vs2.length i = some i.toNat := by
        unfold ixN
        rw [← d2.len]
        rw [if_pos i0, if_pos (by omega)]
      refine ⟨l, vs2, i, i.toNat, dv_ref.mp (dv1.mono ((e2.trans e3).trans e4).evo), dv_int.mp dv2, h2, hj, ?_⟩
      have st5 : ST X.K Z (put S4 l (.lst (ds2.set i.toNat nw))) (upd H4 l (.lst (vs2.set i.toNat v4))) := st4.wrote h2 trivial ⟨_, upd_same, (DVs.set dv4 i.toNat d2).mono ev⟩
      have g5 := ((g2.trans e3).trans e4).trans (Go.wrote (u' := .lst (ds2.set i.toNat nw)) ev sb)
      exact k.nx r _ σ _ g5 (R.go g5 st5) q6
    | _ => exact q2.elim
  | _ => cases y <;> exact q2.elim
end
end G

set_option Elab.async false
set_option linter.all false
set_option maxRecDepth 100000
set_option maxHeartbeats 4000000
namespace K09
open PySem PySem.Spec PyProof.Rows L2 G
def top (i : Nat) : Stmt := PySem.Challenge.pw_cellstack_k09_numbers_as_charts.main.body.getD i (.Pass ⟨0, 0, 0, 0⟩)
abbrev s_ten_to : Stmt := top 4
theorem sc_ten_to : FnScope ["power", "found", "step"] ["power"] (defScope s_ten_to) := ⟨rfl, rfl, rfl, by decide +kernel, rfl, by decide +kernel, by decide +kernel⟩
abbrev s_greatest_part : Stmt := top 5
theorem sc_greatest_part : FnScope ["one", "other"] ["one", "other"] (defScope s_greatest_part) := ⟨rfl, rfl, rfl, by decide +kernel, rfl, by decide +kernel, by decide +kernel⟩
abbrev s_exact : Stmt := top 9
theorem sc_exact : FnScope ["part", "whole", "share"] ["part", "whole"] (defScope s_exact) := ⟨rfl, rfl, rfl, by decide +kernel, rfl, by decide +kernel, by decide +kernel⟩
abbrev s_plus : Stmt := top 10
theorem sc_plus : FnScope ["one", "other"] ["one", "other"] (defScope s_plus) := ⟨rfl, rfl, rfl, by decide +kernel, rfl, by decide +kernel, by decide +kernel⟩
abbrev s_minus : Stmt := top 11
theorem sc_minus : FnScope ["one", "other"] ["one", "other"] (defScope s_minus) := ⟨rfl, rfl, rfl, by decide +kernel, rfl, by decide +kernel, by decide +kernel⟩
abbrev s_less : Stmt := top 12
theorem sc_less : FnScope ["one", "other"] ["one", "other"] (defScope s_less) := ⟨rfl, rfl, rfl, by decide +kernel, rfl, by decide +kernel, by decide +kernel⟩
abbrev s_largest : Stmt := top 13
theorem sc_largest : FnScope ["rows", "found", "value"] ["rows"] (defScope s_largest) := ⟨rfl, rfl, rfl, by decide +kernel, rfl, by decide +kernel, by decide +kernel⟩
abbrev s_smallest : Stmt := top 14
theorem sc_smallest : FnScope ["rows", "found", "value"] ["rows"] (defScope s_smallest) := ⟨rfl, rfl, rfl, by decide +kernel, rfl, by decide +kernel, by decide +kernel⟩
abbrev s_covers : Stmt := top 15
theorem sc_covers : FnScope ["step", "span", "most"] ["step", "span", "most"] (defScope s_covers) := ⟨rfl, rfl, rfl, by decide +kernel, rfl, by decide +kernel, by decide +kernel⟩
abbrev s_power_of : Stmt := top 16
theorem sc_power_of : FnScope ["power"] ["power"] (defScope s_power_of) := ⟨rfl, rfl, rfl, by decide +kernel, rfl, by decide +kernel, by decide +kernel⟩
abbrev s_step_for : Stmt := top 17
theorem sc_step_for : FnScope ["span", "most", "power", "scale", "times", "step"] ["span", "most"] (defScope s_step_for) := ⟨rfl, rfl, rfl, by decide +kernel, rfl, by decide +kernel, by decide +kernel⟩
abbrev s_axis : Stmt := top 18
theorem sc_axis : FnScope ["rows", "most", "low", "high", "span", "step", "place", "found"] ["rows", "most"] (defScope s_axis) := ⟨rfl, rfl, rfl, by decide +kernel, rfl, by decide +kernel, by decide +kernel⟩
abbrev s_heights : Stmt := top 19
theorem sc_heights : FnScope ["rows", "low", "high", "size", "found", "span", "value", "here"] ["rows", "low", "high", "size"] (defScope s_heights) := ⟨rfl, rfl, rfl, by decide +kernel, rfl, by decide +kernel, by decide +kernel⟩
abbrev s_bars : Stmt := top 20
theorem sc_bars : FnScope ["labels", "rows", "size", "most", "wide", "places", "label", "place"] ["labels", "rows", "size"] (defScope s_bars) := ⟨rfl, rfl, rfl, by decide +kernel, rfl, by decide +kernel, by decide +kernel⟩
abbrev s_shares : Stmt := top 21
theorem sc_shares : FnScope ["rows", "whole", "total", "value", "found", "losses", "step", "share", "best", "place"] ["rows", "whole"] (defScope s_shares) := ⟨rfl, rfl, rfl, by decide +kernel, rfl, by decide +kernel, by decide +kernel⟩
abbrev s__law_dice : Stmt := top 23
theorem sc__law_dice : FnScope ["cell"] ["cell"] (defScope s__law_dice) := ⟨rfl, rfl, rfl, by decide +kernel, rfl, by decide +kernel, by decide +kernel⟩
abbrev s__law_roll : Stmt := top 24
theorem sc__law_roll : FnScope ["dice", "many", "found"] ["dice", "many"] (defScope s__law_roll) := ⟨rfl, rfl, rfl, by decide +kernel, rfl, by decide +kernel, by decide +kernel⟩
abbrev s__law_rounds : Stmt := top 25
theorem sc__law_rounds : FnScope ["script", "most", "cells", "cell"] ["script", "most"] (defScope s__law_rounds) := ⟨rfl, rfl, rfl, by decide +kernel, rfl, by decide +kernel, by decide +kernel⟩
abbrev s__law_told : Stmt := top 26
theorem sc__law_told : FnScope ["what"] ["what"] (defScope s__law_told) := ⟨rfl, rfl, rfl, by decide +kernel, rfl, by decide +kernel, by decide +kernel⟩
abbrev s__law_exact : Stmt := top 27
theorem sc__law_exact : FnScope ["part", "whole", "one", "other"] ["part", "whole"] (defScope s__law_exact) := ⟨rfl, rfl, rfl, by decide +kernel, rfl, by decide +kernel, by decide +kernel⟩
abbrev s__law_steps : Stmt := top 28
theorem sc__law_steps : FnScope ["found", "power", "scale", "k", "times"] [] (defScope s__law_steps) := ⟨rfl, rfl, rfl, by decide +kernel, rfl, by decide +kernel, by decide +kernel⟩
abbrev s__law_parts : Stmt := top 29
theorem sc__law_parts : FnScope ["dice", "rows", "size", "plain", "labels", "most_of", "lines", "label", "value", "total", "whole", "parts", "found", "lost", "k", "part", "ranked", "due", "place", "best", "one"] ["dice", "rows", "size"] (defScope s__law_parts) := ⟨rfl, rfl, rfl, by decide +kernel, rfl, by decide +kernel, by decide +kernel⟩
abbrev s_law : Stmt := top 30
theorem sc_law : FnScope ["script", "steps", "dice", "bad", "rows", "most", "low", "high", "value", "span", "step", "marks", "first", "last", "size", "good", "due", "near", "k", "one", "f", "place"] ["script"] (defScope s_law) := ⟨rfl, rfl, rfl, by decide +kernel, rfl, by decide +kernel, by decide +kernel⟩
def fnT : List Str := ["append", "__init__"]
def lmT (j : Nat) : Option LamR := match j with
  | 0 => some (lamOf "law.<locals>.<lambda>" (lstAt (asgVal ((defBody s_law).getD 2 (.Pass ⟨0, 0, 0, 0⟩))) 0))
  | 1 => some (lamOf "law.<locals>.<lambda>" (lstAt (asgVal ((defBody s_law).getD 2 (.Pass ⟨0, 0, 0, 0⟩))) 1))
  | 2 => some (lamOf "law.<locals>.<lambda>" (lstAt (asgVal ((defBody s_law).getD 2 (.Pass ⟨0, 0, 0, 0⟩))) 2))
  | 3 => some (lamOf "law.<locals>.<lambda>" (lstAt (asgVal ((defBody s_law).getD 2 (.Pass ⟨0, 0, 0, 0⟩))) 3))
  | 4 => some (lamOf "law.<locals>.<lambda>" (lstAt (asgVal ((defBody s_law).getD 2 (.Pass ⟨0, 0, 0, 0⟩))) 4))
  | 5 => some (lamOf "law.<locals>.<lambda>" (lstAt (asgVal ((defBody s_law).getD 2 (.Pass ⟨0, 0, 0, 0⟩))) 5))
  | 6 => some (lamOf "law.<locals>.<lambda>" (lstAt (asgVal ((defBody s_law).getD 2 (.Pass ⟨0, 0, 0, 0⟩))) 6))
  | 7 => some (lamOf "law.<locals>.<lambda>" (lstAt (asgVal ((defBody s_law).getD 2 (.Pass ⟨0, 0, 0, 0⟩))) 7))
  | 8 => some (lamOf "law.<locals>.<lambda>" (lstAt (asgVal ((defBody s_law).getD 2 (.Pass ⟨0, 0, 0, 0⟩))) 8))
  | 9 => some (lamOf "law.<locals>.<lambda>" (lstAt (asgVal ((defBody s_law).getD 2 (.Pass ⟨0, 0, 0, 0⟩))) 9))
  | 10 => some (lamOf "law.<locals>.<lambda>" (lstAt (asgVal ((defBody s_law).getD 2 (.Pass ⟨0, 0, 0, 0⟩))) 10))
  | 11 => some (lamOf "law.<locals>.<lambda>" (lstAt (asgVal ((defBody s_law).getD 2 (.Pass ⟨0, 0, 0, 0⟩))) 11))
  | 12 => some (lamOf "law.<locals>.<lambda>" (lstAt (asgVal ((defBody s_law).getD 2 (.Pass ⟨0, 0, 0, 0⟩))) 12))
  | 13 => some (lamOf "law.<locals>.<lambda>" (lstAt (asgVal ((defBody s_law).getD 2 (.Pass ⟨0, 0, 0, 0⟩))) 13))
  | 14 => some (lamOf "law.<locals>.<lambda>" (lstAt (asgVal ((defBody s_law).getD 2 (.Pass ⟨0, 0, 0, 0⟩))) 14))
  | _ => none
def tx : Tx where
  gn := fun i => match i with | 0 => some "ten_to" | 1 => some "greatest_part" | 2 => some "exact" | 3 => some "plus" | 4 => some "minus" | 5 => some "less" | 6 => some "largest" | 7 => some "smallest" | 8 => some "covers" | 9 => some "power_of" | 10 => some "step_for" | 11 => some "axis" | 12 => some "heights" | 13 => some "bars" | 14 => some "shares" | 15 => some "_law_dice" | 16 => some "_law_roll" | 17 => some "_law_rounds" | 33 => some "_law_told" | 34 => some "_law_exact" | 35 => some "_law_steps" | 36 => some "_law_parts" | 37 => some "law" | _ => none
  cn := fun i => match i with  | _ => none
  fl := fun c i => match c, i with  | _, _ => false
  mt := fun c i => match c, i with  | _, _ => none
  it := fun i => match i with  | _ => none
  va := fun i => match i with | 0 => some ("MOST_STEPS", .int 20) | 1 => some ("MOST_SIZE", .int 200) | _ => none
  bl := fun i => match i with | 0 => some "len" | 1 => some "any" | 2 => some "int" | 3 => some "range" | 4 => some "list" | 5 => some "min" | 6 => some "max" | 7 => some "abs" | 8 => some "tuple" | 9 => some "enumerate" | 10 => some "zip" | 11 => some "sum" | _ => none
  xn := fun i => match i with | 0 => some "TableError" | _ => none
  sb := fun i j => match i, j with | 0, 0 => some true | _, _ => none


def Sz (i : Int) : Prop := i.natAbs < 2 ^ 8000
theorem abs_if (i : Int) : (if i < 0 then -i else i) = ((i.natAbs : Nat) : Int) := by split <;> omega
theorem sz_log {i : Int} (h : Sz i) : i.natAbs.log2 < 9000 := Nat.lt_trans (log2_of_lt h (by decide)) (by decide)
theorem div_pos {i : Int} (h0 : 0 < i) (h : Sz i) : DivOk i := ⟨by omega, .inr ⟨h0, sz_log h⟩⟩
theorem mul_sz {i j : Int} (h : Sz i) (h' : Sz j) : MulOk i j := .inr (by
  have h1 := sz_log h
  have h2 := sz_log h'
  unfold CMulW
  omega)
/-! ### numbers -/
abbrev Nu := Int × Int
def nD (v : Nu) : D := .tup [.int v.1, .int v.2]
def sg (p w : Int) : Int := if w < 0 then -(Int.gcd p w : Int) else (Int.gcd p w : Int)
def ex (p w : Int) : Nu := (p.fdiv (sg p w), w.fdiv (sg p w))
def lt (v u : Nu) : Bool := decide (v.1 * u.2 < u.1 * v.2)
def pl (v u : Nu) : Nu := ex (v.1 * u.2 + u.1 * v.2) (v.2 * u.2)
def mi (v u : Nu) : Nu := ex (v.1 * u.2 - u.1 * v.2) (v.2 * u.2)
/-- bounded by 2 ^ k -/
def Lt (k : Nat) (i : Int) : Prop := i.natAbs < 2 ^ k
structure Bd (k : Nat) (v : Nu) : Prop where
  a : Lt k v.1
  p : 0 < v.2
  b : Lt k v.2
theorem Lt.mono {k m : Nat} {i : Int} (h : Lt k i) (l : k ≤ m) : Lt m i := Nat.lt_of_lt_of_le h (Nat.pow_le_pow_right (by decide) l)
theorem Lt.sz {k : Nat} {i : Int} (h : Lt k i) (l : k ≤ 8000) : Sz i := h.mono l
theorem Lt.mul {k m : Nat} {i j : Int} (h : Lt k i) (h' : Lt m j) : Lt (k + m) (i * j) := by
  unfold Lt
  rw [Int.natAbs_mul, Nat.pow_add]
  exact Nat.mul_lt_mul'' h h'
theorem Lt.add {k : Nat} {i j : Int} (h : Lt k i) (h' : Lt k j) : Lt (k + 1) (i + j) := by
  have := Int.natAbs_add_le i j
  unfold Lt at *
  rw [Nat.pow_succ]
  omega
theorem Lt.sub {k : Nat} {i j : Int} (h : Lt k i) (h' : Lt k j) : Lt (k + 1) (i - j) := by
  have := Int.natAbs_sub_le i j
  unfold Lt at *
  rw [Nat.pow_succ]
  omega
theorem Bd.mono {k m : Nat} {v : Nu} (h : Bd k v) (l : k ≤ m) : Bd m v := ⟨h.a.mono l, h.p, h.b.mono l⟩
theorem sg_pos {p w : Int} (h : 0 < w) : 0 < sg p w := by
  have := Int.gcd_pos_of_ne_zero_right p (show w ≠ 0 by omega)
  unfold sg
  rw [if_neg (by omega)]
  omega
theorem exE {p w : Int} (h : 0 < w) : ∃ g : Int, 0 < g ∧ p = g * (ex p w).1 ∧ w = g * (ex p w).2 ∧ 0 < (ex p w).2 ∧ Int.gcd (ex p w).1 (ex p w).2 = 1 := by
  have g0 := sg_pos (p := p) h
  have eg : sg p w = (Int.gcd p w : Int) := by unfold sg; rw [if_neg (by omega)]
  have h1 : ((Int.gcd p w : Nat) : Int) ∣ p := Int.gcd_dvd_left ..
  have h2 : ((Int.gcd p w : Nat) : Int) ∣ w := Int.gcd_dvd_right ..
  have h3 : Int.gcd (p / (Int.gcd p w : Nat)) (w / (Int.gcd p w : Nat)) = 1 := Int.gcd_ediv_gcd_ediv_gcd (by omega)
  refine ⟨sg p w, g0, ?_⟩
  unfold ex
  rw [eg] at g0 ⊢
  rw [Int.fdiv_eq_ediv_of_nonneg _ (by omega), Int.fdiv_eq_ediv_of_nonneg _ (by omega)]
  generalize Int.gcd p w = g at *
  obtain ⟨x, rfl⟩ := h1
  obtain ⟨y, rfl⟩ := h2
  rw [Int.mul_ediv_cancel_left _ (by omega), Int.mul_ediv_cancel_left _ (by omega)] at h3 ⊢
  exact ⟨rfl, rfl, Int.pos_of_mul_pos_right h (by omega), h3⟩
theorem ex_bd {k : Nat} {p w : Int} (h : 0 < w) (hp : Lt k p) (hw : Lt k w) : Bd k (ex p w) := by
  obtain ⟨g, g0, e1, e2, w0, _⟩ := exE (p := p) h
  have h1 : p.natAbs = g.natAbs * (ex p w).1.natAbs := by rw [← Int.natAbs_mul, ← e1]
  have h2 : w.natAbs = g.natAbs * (ex p w).2.natAbs := by rw [← Int.natAbs_mul, ← e2]
  have h3 : 1 * (ex p w).1.natAbs ≤ g.natAbs * (ex p w).1.natAbs := Nat.mul_le_mul_right _ (by omega)
  have h4 : 1 * (ex p w).2.natAbs ≤ g.natAbs * (ex p w).2.natAbs := Nat.mul_le_mul_right _ (by omega)
  unfold Lt at hp hw
  exact ⟨by unfold Lt; omega, w0, by unfold Lt; omega⟩
theorem pl_bd {k m : Nat} {v u : Nu} (h : Bd k v) (h' : Bd m u) : Bd (k + m + 1) (pl v u) :=
  ex_bd (Int.mul_pos h.p h'.p) ((h.a.mul h'.b).add (Nat.add_comm m k ▸ h'.a.mul h.b)) ((h.b.mul h'.b).mono (by omega))
theorem mi_bd {k m : Nat} {v u : Nu} (h : Bd k v) (h' : Bd m u) : Bd (k + m + 1) (mi v u) :=
  ex_bd (Int.mul_pos h.p h'.p) ((h.a.mul h'.b).sub (Nat.add_comm m k ▸ h'.a.mul h.b)) ((h.b.mul h'.b).mono (by omega))
theorem at0 {α : Type} {x : α} {l : List α} : atI (x :: l) 0 = some x := G.atI_nat (i := 0) rfl
theorem take_snoc {α β : Type} {xs : List α} {i : Nat} {v : α} (f : α → β) (h : xs[i]? = some v) : (xs.take (i + 1)).map f = (xs.take i).map f ++ [f v] := by
  rw [List.take_succ, h, List.map_append]
  rfl
theorem i2 : 2 ≤ sizeLine := by decide
def lgF (f : Nu) (l : List Nu) : Nu := l.foldl (fun f v => if lt f v = true then v else f) f
def ng (v : Nu) : Nu := (0 - v.1, v.2)
theorem lgF_mem (f : Nu) : ∀ (l : List Nu), lgF f l = f ∨ lgF f l ∈ l := by
  intro l
  induction l generalizing f with
  | nil => exact .inl rfl
  | cons v l ih =>
    show lgF (if lt f v = true then v else f) l = f ∨ lgF (if lt f v = true then v else f) l ∈ v :: l
    rcases ih (if lt f v = true then v else f) with h | h
    · rw [h]
      split
      · exact .inr (by simp)
      · exact .inl rfl
    · exact .inr (List.mem_cons_of_mem _ h)
theorem lgF_take (f : Nu) (l : List Nu) (i : Nat) (v : Nu) (h : l[i]? = some v) : lgF f (l.take (i + 1)) = if lt (lgF f (l.take i)) v = true then v else lgF f (l.take i) := by
  rw [List.take_succ, h]
  show List.foldl _ _ (l.take i ++ [v]) = _
  rw [List.foldl_append]
  rfl

def pw (p : Int) : Nu := if 0 ≤ p then (10 ^ p.toNat, 1) else (1, 10 ^ (0 - p).toNat)
def crow (i : Nat) : List Nu := [1, 2, 5].map fun t : Int => ex (t * (pw ((i : Int) - 30)).1) (pw ((i : Int) - 30)).2
def cands : List Nu := (List.range 61).flatMap crow
def cov (span : Nu) (m : Int) (s : Nu) : Bool := !lt (s.1 * m, s.2) span
def stF (span : Nu) (m : Int) : Option Nu := cands.find? (cov span m)

theorem pw_bd {q : Int} (h0 : -30 ≤ q) (h1 : q ≤ 30) : Bd 110 (pw q) := by
  have key : ∀ n : Nat, n ≤ 30 → Lt 110 ((10 : Int) ^ n) ∧ (0 : Int) < 10 ^ n := fun n hn => by
    refine ⟨?_, Int.pow_pos (by decide)⟩
    unfold Lt
    rw [Int.natAbs_pow]
    exact Nat.lt_of_le_of_lt (Nat.pow_le_pow_right (by decide) hn) (by decide)
  unfold pw
  split
  · exact ⟨(key _ (by omega)).1, Int.one_pos, by show (1 : Int).natAbs < _; decide⟩
  · exact ⟨by show (1 : Int).natAbs < _; decide, (key _ (by omega)).2, (key _ (by omega)).1⟩
theorem find_mid {p : Nu} {m : Int} {i k : Nat} {s : Nu} (a : ((List.range i).flatMap crow).find? (cov p m) = none) (b : ((crow i).take k).find? (cov p m) = none) (h : (crow i)[k]? = some s) (hc : cov p m s = true) (hi : i < 61) : stF p m = some s := by
  have e1 : List.range 61 = List.range i ++ i :: (List.range 61).drop (i + 1) := by
    conv => lhs; rw [← List.take_append_drop i (List.range 61)]
    rw [List.take_range, List.drop_eq_getElem_cons (by simpa using hi), List.getElem_range, Nat.min_eq_left (by omega)]
  have hk := (List.getElem?_eq_some_iff.mp h).1
  have e2 : crow i = (crow i).take k ++ s :: (crow i).drop (k + 1) := by
    conv => lhs; rw [← List.take_append_drop k (crow i)]
    rw [List.drop_eq_getElem_cons hk, (List.getElem?_eq_some_iff.mp h).2]
  unfold stF cands
  rw [e1, List.flatMap_append, List.flatMap_cons, List.find?_append, a, List.find?_append, e2, List.find?_append, b, List.find?_cons, hc]
  rfl
theorem find_next {p : Nu} {m : Int} {i : Nat} (a : ((List.range i).flatMap crow).find? (cov p m) = none) (b : (crow i).find? (cov p m) = none) : ((List.range (i + 1)).flatMap crow).find? (cov p m) = none := by
  rw [List.range_succ, List.flatMap_append, List.find?_append, a]
  simp [b]
theorem crow_at {i k : Nat} {t : Int} (h : ([1, 2, 5] : List Int)[k]? = some t) : (crow i)[k]? = some (ex (t * (pw ((i : Int) - 30)).1) (pw ((i : Int) - 30)).2) := by
  unfold crow
  rw [List.getElem?_map, h]
  rfl
theorem find_snoc {p : Nu} {m : Int} {l : List Nu} {k : Nat} {s : Nu} (a : (l.take k).find? (cov p m) = none) (h : l[k]? = some s) (hc : cov p m s = false) : (l.take (k + 1)).find? (cov p m) = none := by
  rw [List.take_succ, h, List.find?_append, a]
  simp [hc]

def StepOk (p : Nu) (m : Int) (s : Nu) : Prop := if p.1 = 0 then s = (1, 1) else 0 < p.1 ∧ 1 ≤ m ∧ m ≤ 20 ∧ stF p m = some s
def firstF (lo s : Nu) : Int := (lo.1 * s.2).fdiv (lo.2 * s.1)
def markF (lo s : Nu) (i : Nat) : Nu := ex (s.1 * (firstF lo s + (i : Int))) s.2
def loS (x : Nu) (l : List Nu) : Nu := ng (lgF (ng x) (l.map ng))
theorem fdiv_lt {k : Nat} {a b : Int} (hb : 0 < b) (h : Lt k a) : Lt k (a.fdiv b) := by
  rw [Int.fdiv_eq_ediv_of_nonneg _ (by omega)]
  have e := Int.mul_ediv_add_emod a b
  have r0 := Int.emod_nonneg a (show b ≠ 0 by omega)
  have r1 := Int.emod_lt_of_pos a hb
  unfold Lt at *
  have key : (a / b).natAbs ≤ a.natAbs := by
    by_cases c : 0 ≤ a / b
    · have h2 : 1 * (a / b) ≤ b * (a / b) := Int.mul_le_mul_of_nonneg_right (by omega) c
      omega
    · have h2 : b * (a / b + 1) ≤ 1 * (a / b + 1) := Int.mul_le_mul_of_nonpos_right (by omega) (by omega)
      rw [Int.mul_add, Int.mul_one] at h2
      omega
  omega
theorem at_last {α : Type} {x : α} {l : List α} : atI (l ++ [x]) (-1) = some x := by
  unfold atI ixN
  rw [List.length_append, List.length_singleton, if_neg (by omega), if_pos (by omega)]
  have : ((-1 : Int) + ((l.length + 1 : Nat) : Int)).toNat = l.length := by omega
  rw [this]
  simp
theorem lgF_bd {k : Nat} {f : Nu} {l : List Nu} (h : Bd k f) (hl : ∀ v ∈ l, Bd k v) : Bd k (lgF f l) := by
  rcases lgF_mem f l with e | e
  · rw [e]; exact h
  · exact hl _ e
theorem ng_bd {k : Nat} {v : Nu} (h : Bd k v) : Bd k (ng v) := ⟨by
  have := h.a
  unfold ng Lt at *
  rw [Int.zero_sub, Int.natAbs_neg]
  exact this, h.p, h.b⟩
theorem loS_bd {k : Nat} {x : Nu} {l : List Nu} (h : Bd k x) (hl : ∀ v ∈ l, Bd k v) : Bd k (loS x l) := ng_bd (lgF_bd (ng_bd h) fun v hv => by
  obtain ⟨u, hu, rfl⟩ := List.mem_map.mp hv
  exact ng_bd (hl u hu))
def marksF (lo s : Nu) (n : Nat) : List D := (List.range n).map fun i => nD (markF lo s i)
theorem marksF_succ (lo s : Nu) (n : Nat) : marksF lo s (n + 1) = marksF lo s n ++ [nD (markF lo s n)] := by
  unfold marksF
  rw [List.range_succ, List.map_append]
  rfl
theorem marksF_len (lo s : Nu) (n : Nat) : (marksF lo s n).length = n := by
  unfold marksF
  rw [List.length_map, List.length_range]

def hgt0 (lo hi : Nu) (z : Int) (v : Nu) : Int := ((mi v lo).1 * (mi hi lo).2 * z).fdiv ((mi v lo).2 * (mi hi lo).1)
def hgt (lo hi : Nu) (z : Int) (v : Nu) : Int := if (if hgt0 lo hi z v < z then hgt0 lo hi z v else z) > 0 then (if hgt0 lo hi z v < z then hgt0 lo hi z v else z) else 0
theorem mi_pos {lo hi : Nu} (h : lt lo hi = true) (a : 0 < lo.2) (b : 0 < hi.2) : 0 < (mi hi lo).1 := by
  have h := of_decide_eq_true h
  obtain ⟨g, g0, e1, e2, w0, _⟩ := exE (p := hi.1 * lo.2 - lo.1 * hi.2) (w := hi.2 * lo.2) (Int.mul_pos b a)
  exact Int.pos_of_mul_pos_right (a := g) (by unfold mi; omega) (by omega)

def sD (l : List Nat) : D := .str ⟨l.toArray⟩
theorem sh {l : List Nat} (h : l.length ≤ 100000) : (⟨l.toArray⟩ : Str).length ≤ sizeLine := by rw [len_mk, sizeLine_eq]; omega
theorem sh2 {l m : List Nat} (h : l.length + m.length ≤ 100000) : (⟨l.toArray⟩ : Str).length + (⟨m.toArray⟩ : Str).length ≤ sizeLine := by rw [len_mk, len_mk, sizeLine_eq]; omega
theorem str_ext' {a b : Str} (h : a.cps.toList = b.cps.toList) : a = b := by
  cases a; cases b
  simp only at h
  congr 1
  exact Array.ext' h
theorem rep1 (c : Nat) (x : Int) : repS (⟨[c].toArray⟩ : Str) x = (⟨(List.replicate x.toNat c).toArray⟩ : Str) := by
  refine str_ext' ?_
  show ((List.replicate x.toNat [c]).flatten.toArray).toList = _
  simp
theorem rep1_ok {c : Nat} {x : Int} (h : -100000 ≤ x ∧ x ≤ 100000) : -(2 ^ 62) ≤ x ∧ x < 2 ^ 62 ∧ (⟨[c].toArray⟩ : Str).length * x.toNat ≤ sizeLine := by
  refine ⟨by omega, by omega, ?_⟩
  rw [sizeLine_eq]
  show 1 * x.toNat ≤ _
  omega
theorem hgt_in {lo hi v : Nu} {z : Int} (h : 0 ≤ z) : 0 ≤ hgt lo hi z v ∧ hgt lo hi z v ≤ z := by
  unfold hgt
  split <;> split <;> omega
def topF (t : Nu) : Nu := if 0 < t.1 then t else (1, 1)
def lineF (l : List Nat) (w : Nat) (n : Int) : List Nat := l ++ List.replicate (w - l.length) 32 ++ [32] ++ List.replicate n.toNat 35
def linesF (ls : List (List Nat)) (xs : List Nu) (top : Nu) (w : Nat) (z : Int) : List D := List.zipWith (fun l v => sD (lineF l w (hgt (0, 1) top z v))) ls xs
def negB (d : D) : Bool := match d with
  | .tup (.int a :: _) => decide (a < 0)
  | _ => false
theorem negB_any (xs : List Nu) : (xs.map nD).any negB = true ↔ ∃ v ∈ xs, v.1 < 0 := by
  rw [List.any_map, List.any_eq_true]
  constructor
  · rintro ⟨v, hv, h⟩
    exact ⟨v, hv, of_decide_eq_true h⟩
  · rintro ⟨v, hv, h⟩
    exact ⟨v, hv, decide_eq_true h⟩
def lenB (d : D) : Int := match d with
  | .str z => (z.length : Nat)
  | _ => 0

def totF (l : List Nu) : Nu := l.foldl pl (0, 1)
def fl (s : Nu) : Int := s.1.fdiv s.2
def shr (w : Int) (T v : Nu) : Nu := ex (v.1 * w * T.2) (v.2 * T.1)
def lossF (s : Nu) : Nu := mi s (fl s, 1)
def la (ls : List Nu) (k : Nat) : Nu := ls.getD k (0, 1)
def argP (ls : List Nu) (k : Nat) : Nat := (List.range k).foldl (fun b p => if lt (la ls b) (la ls p) = true then p else b) 0
def shStep (st : List Int × List Nu) : List Int × List Nu := (st.1.set (argP st.2 st.2.length) (st.1.getD (argP st.2 st.2.length) 0 + 1), st.2.set (argP st.2 st.2.length) (0 - 1, 1))
def shLoop : Nat → List Int × List Nu → List Int × List Nu
  | 0, st => st
  | n + 1, st => shStep (shLoop n st)
theorem totF_take {l : List Nu} {i : Nat} {v : Nu} (h : l[i]? = some v) : totF (l.take (i + 1)) = pl (totF (l.take i)) v := by
  unfold totF
  rw [List.take_succ, h]
  show List.foldl _ _ (l.take i ++ [v]) = _
  rw [List.foldl_append]
  rfl
theorem b01 : Bd 1 (0, 1) := ⟨by show (0 : Int).natAbs < _; decide, by decide, by show (1 : Int).natAbs < _; decide⟩
theorem totF_bd {l : List Nu} (h : ∀ v ∈ l, Bd 30 v) : ∀ i, i ≤ l.length → Bd (1 + 31 * i) (totF (l.take i)) := by
  intro i
  induction i with
  | zero => intro _; exact b01
  | succ i ih =>
    intro hi
    have e := List.getElem?_eq_getElem (show i < l.length by omega)
    rw [totF_take e]
    exact (pl_bd (ih (by omega)) (h _ (List.getElem_mem _))).mono (by omega)
theorem argP_succ (ls : List Nu) (k : Nat) : argP ls (k + 1) = if lt (la ls (argP ls k)) (la ls k) = true then k else argP ls k := by
  unfold argP
  rw [List.range_succ, List.foldl_append]
  rfl
theorem argP_lt (ls : List Nu) {n : Nat} (hn : 0 < n) : ∀ k, k ≤ n → argP ls k < n := by
  intro k
  induction k with
  | zero => intro _; exact hn
  | succ k ih =>
    intro hk
    rw [argP_succ]
    split
    · omega
    · exact ih (by omega)
theorem sh_len (st : List Int × List Nu) : ∀ i, (shLoop i st).1.length = st.1.length ∧ (shLoop i st).2.length = st.2.length := by
  intro i
  induction i with
  | zero => exact ⟨rfl, rfl⟩
  | succ i ih =>
    show (shStep (shLoop i st)).1.length = _ ∧ (shStep (shLoop i st)).2.length = _
    unfold shStep
    rw [List.length_set, List.length_set]
    exact ih
theorem mem_set' {α : Type} {l : List α} {i : Nat} {x y : α} (h : y ∈ l.set i x) : y = x ∨ y ∈ l := by
  rcases List.mem_or_eq_of_mem_set h with h | h
  · exact .inr h
  · exact .inl h
theorem sh_bd {st : List Int × List Nu} (h : ∀ v ∈ st.2, Bd 3000 v) : ∀ i, ∀ v ∈ (shLoop i st).2, Bd 3000 v := by
  intro i
  induction i with
  | zero => exact h
  | succ i ih =>
    intro v hv
    have hv : v ∈ (shStep (shLoop i st)).2 := hv
    unfold shStep at hv
    rcases mem_set' hv with rfl | hv
    · exact ⟨by show (-1 : Int).natAbs < _; exact Nat.lt_of_lt_of_le (show 1 < 2 ^ 1 by decide) (Nat.pow_le_pow_right (by decide) (by decide)), by decide, by show (1 : Int).natAbs < _; exact Nat.lt_of_lt_of_le (show 1 < 2 ^ 1 by decide) (Nat.pow_le_pow_right (by decide) (by decide))⟩
    · exact ih v hv
theorem la_at {ls : List Nu} {k : Nat} (h : k < ls.length) : (ls.map nD)[k]? = some (nD (la ls k)) ∧ la ls k ∈ ls := by
  unfold la
  rw [List.getElem?_map, List.getD_eq_getElem?_getD, List.getElem?_eq_getElem h]
  exact ⟨rfl, List.getElem_mem h⟩
theorem put_under {S : DS} {a b : Addr} {o o' u : O} (h : a ≠ b) : put (put (put S a o) b u) a o' = put (put S a o') b u := by
  funext c
  unfold put
  by_cases c1 : c = a
  · subst c1
    simp [h]
  · by_cases c2 : c = b
    · simp [c1, c2]
      intro z; exact absurd z.symm h
    · simp [c1, c2]
theorem sum_map_int (l : List Int) : l.sum = l.sum := rfl

theorem bdl {k : Nat} {a b : Int} (h1 : a.natAbs < 2 ^ 8) (h2 : 0 < b) (h3 : b.natAbs < 2 ^ 8) (hk : 8 ≤ k) : Bd k (a, b) :=
  ⟨Lt.mono (k := 8) h1 hk, h2, Lt.mono (k := 8) h3 hk⟩

def srow (i : Nat) : List Nu := [1, 2, 5].map fun t : Int => ex (t * 10 ^ i) (10 ^ 30)
def stepsL : List Nu := (List.range 61).flatMap srow
theorem ten_lt {i : Nat} (h : i ≤ 61) : Lt 210 ((10 : Int) ^ i) := by
  unfold Lt
  rw [Int.natAbs_pow]
  exact Nat.lt_of_le_of_lt (Nat.pow_le_pow_right (by decide) h) (by decide)
theorem sub_none {S S' : DS} {p : Addr} (s : Sub S S') (h : S' p = none) : S p = none := by
  cases e : S p with
  | none => rfl
  | some o => rw [s p o e] at h; cases h
theorem flat_len : ∀ i, ((List.range i).flatMap srow).length = 3 * i := by
  intro i
  induction i with
  | zero => rfl
  | succ i ih =>
    rw [List.range_succ, List.flatMap_append, List.length_append, ih]
    show 3 * i + ((srow i) ++ []).length = _
    rw [List.append_nil]
    show 3 * i + 3 = _
    omega
theorem flat_succ (i : Nat) : ((List.range (i + 1)).flatMap srow).map nD = ((List.range i).flatMap srow).map nD ++ (srow i).map nD := by
  rw [List.range_succ, List.flatMap_append, List.map_append]
  simp

abbrev M0 (Z : Zt) : List Ent := []
def sp_ten_to : SpD := fun ds S Q E => ∃ n : Nat, ds = [.int n] ∧ n ≤ 1000 ∧ Q (.int (10 ^ n)) S
abbrev e_ten_to : Ent := { sp := sp_ten_to, ar := 1, dfl := [], lv := 1 }
abbrev M1 (Z : Zt) : List Ent := [e_ten_to]
def sp_greatest_part : SpD := fun ds S Q E => ∃ a b : Int, ds = [.int a, .int b] ∧ Sz a ∧ Sz b ∧ Q (.int (Int.gcd a b)) S
abbrev e_greatest_part : Ent := { sp := sp_greatest_part, ar := 2, dfl := [], lv := 1 }
abbrev M2 (Z : Zt) : List Ent := [e_ten_to, e_greatest_part]
def sp_exact : SpD := fun ds S Q E => ∃ p w : Int, ds = [.int p, .int w] ∧ w ≠ 0 ∧ Sz p ∧ Sz w ∧ (w < 0 → Int.gcd p w < 2 ^ 30) ∧ Q (nD (ex p w)) S
abbrev e_exact : Ent := { sp := sp_exact, ar := 2, dfl := [], lv := 2 }
abbrev M3 (Z : Zt) : List Ent := [e_ten_to, e_greatest_part, e_exact]
def sp_plus : SpD := fun ds S Q E => ∃ v u : Nu, ds = [nD v, nD u] ∧ Bd 3000 v ∧ Bd 3000 u ∧ Q (nD (pl v u)) S
abbrev e_plus : Ent := { sp := sp_plus, ar := 2, dfl := [], lv := 3 }
abbrev M4 (Z : Zt) : List Ent := [e_ten_to, e_greatest_part, e_exact, e_plus]
def sp_minus : SpD := fun ds S Q E => ∃ v u : Nu, ds = [nD v, nD u] ∧ Bd 3000 v ∧ Bd 3000 u ∧ Q (nD (mi v u)) S
abbrev e_minus : Ent := { sp := sp_minus, ar := 2, dfl := [], lv := 3 }
abbrev M5 (Z : Zt) : List Ent := [e_ten_to, e_greatest_part, e_exact, e_plus, e_minus]
def sp_less : SpD := fun ds S Q E => ∃ v u : Nu, ds = [nD v, nD u] ∧ Bd 3900 v ∧ Bd 3900 u ∧ Q (.bl (lt v u)) S
abbrev e_less : Ent := { sp := sp_less, ar := 2, dfl := [], lv := 1 }
abbrev M6 (Z : Zt) : List Ent := [e_ten_to, e_greatest_part, e_exact, e_plus, e_minus, e_less]
def sp_largest : SpD := fun ds S Q E => ∃ (p : Addr) (xs : List Nu), ds = [.ref p] ∧ S p = some (.lst (xs.map nD)) ∧ (∀ v ∈ xs, Bd 3900 v) ∧ (∀ x t, xs = x :: t → Q (nD (lgF x xs)) S) ∧ (xs = [] → E 0 S)
abbrev e_largest : Ent := { sp := sp_largest, ar := 1, dfl := [], lv := 2 }
abbrev M7 (Z : Zt) : List Ent := [e_ten_to, e_greatest_part, e_exact, e_plus, e_minus, e_less, e_largest]
def sp_smallest : SpD := fun ds S Q E => ∃ (z : D) (xs : List Nu), ds = [z] ∧ SideD S z (xs.map nD) ∧ xs.length ≤ 1000 ∧ (∀ v ∈ xs, Bd 3800 v) ∧ (∀ x t, xs = x :: t → Q (nD (ng (lgF (ng x) (xs.map ng)))) S) ∧ (xs = [] → E 0 S)
abbrev e_smallest : Ent := { sp := sp_smallest, ar := 1, dfl := [], lv := 3 }
abbrev M8 (Z : Zt) : List Ent := [e_ten_to, e_greatest_part, e_exact, e_plus, e_minus, e_less, e_largest, e_smallest]
def sp_covers : SpD := fun ds S Q E => ∃ (s p : Nu) (m : Int), ds = [nD s, nD p, .int m] ∧ Bd 3000 s ∧ Bd 3900 p ∧ Lt 100 m ∧ Q (.bl (!lt (s.1 * m, s.2) p)) S
abbrev e_covers : Ent := { sp := sp_covers, ar := 3, dfl := [], lv := 2 }
abbrev M9 (Z : Zt) : List Ent := [e_ten_to, e_greatest_part, e_exact, e_plus, e_minus, e_less, e_largest, e_smallest, e_covers]
def sp_power_of : SpD := fun ds S Q E => ∃ p : Int, ds = [.int p] ∧ -1000 ≤ p ∧ p ≤ 1000 ∧ Q (nD (pw p)) S
abbrev e_power_of : Ent := { sp := sp_power_of, ar := 1, dfl := [], lv := 2 }
abbrev M10 (Z : Zt) : List Ent := [e_ten_to, e_greatest_part, e_exact, e_plus, e_minus, e_less, e_largest, e_smallest, e_covers, e_power_of]
def sp_step_for : SpD := fun ds S Q E => ∃ (p : Nu) (m : Int), ds = [nD p, .int m] ∧ Bd 3000 p ∧ (0 < p.1 → 1 ≤ m → m ≤ 20 → ∀ s, stF p m = some s → Q (nD s) S) ∧ (¬ (0 < p.1 ∧ 1 ≤ m ∧ m ≤ 20) ∨ stF p m = none → E 0 S)
abbrev e_step_for : Ent := { sp := sp_step_for, ar := 2, dfl := [], lv := 3 }
abbrev M11 (Z : Zt) : List Ent := [e_ten_to, e_greatest_part, e_exact, e_plus, e_minus, e_less, e_largest, e_smallest, e_covers, e_power_of, e_step_for]
def sp_axis : SpD := fun ds S Q E => ∃ (p : Addr) (xs : List Nu) (m : Int), ds = [.ref p, .int m] ∧ S p = some (.lst (xs.map nD)) ∧ xs.length ≤ 1000 ∧ (∀ v ∈ xs, Bd 400 v) ∧ (xs = [] → E 0 S) ∧ (∀ x t, xs = x :: t → ∃ (s : Nu) (n : Nat), StepOk (mi (lgF x xs) (loS x xs)) m s ∧ Bd 400 s ∧ 0 < s.1 ∧ n ≤ 1000 ∧ (∀ i : Nat, i ≤ n → lt (markF (loS x xs) s i) (lgF x xs) = decide (i < n)) ∧ Q (.tup (marksF (loS x xs) s (n + 1))) S)
abbrev e_axis : Ent := { sp := sp_axis, ar := 2, dfl := [], lv := 4 }
abbrev M12 (Z : Zt) : List Ent := [e_ten_to, e_greatest_part, e_exact, e_plus, e_minus, e_less, e_largest, e_smallest, e_covers, e_power_of, e_step_for, e_axis]
def sp_heights : SpD := fun ds S Q E => ∃ (p : Addr) (xs : List Nu) (lo hi : Nu) (z : Int), ds = [.ref p, nD lo, nD hi, .int z] ∧ S p = some (.lst (xs.map nD)) ∧ (∀ v ∈ xs, Bd 400 v) ∧ xs.length ≤ 1000 ∧ Bd 400 lo ∧ Bd 400 hi ∧ (lt lo hi = true → 1 ≤ z → z ≤ 200 → Q (.tup (xs.map fun v => .int (hgt lo hi z v))) S) ∧ (¬ (lt lo hi = true ∧ 1 ≤ z ∧ z ≤ 200) → E 0 S)
abbrev e_heights : Ent := { sp := sp_heights, ar := 4, dfl := [], lv := 4 }
abbrev M13 (Z : Zt) : List Ent := [e_ten_to, e_greatest_part, e_exact, e_plus, e_minus, e_less, e_largest, e_smallest, e_covers, e_power_of, e_step_for, e_axis, e_heights]
def sp_bars : SpD := fun ds S Q E => ∃ (pl pr : Addr) (ls : List (List Nat)) (xs : List Nu) (z : Int), ds = [.ref pl, .ref pr, .int z] ∧ S pl = some (.lst (ls.map sD)) ∧ S pr = some (.lst (xs.map nD)) ∧ (((ls.length ≠ xs.length ∨ xs = [] ∨ ∃ v ∈ xs, v.1 < 0) ∧ E 0 S) ∨ (ls.length = xs.length ∧ (∀ v ∈ xs, 0 ≤ v.1) ∧ (∀ v ∈ xs, Bd 300 v) ∧ (∀ l ∈ ls, l.length ≤ 1000) ∧ xs.length ≤ 1000 ∧ 1 ≤ z ∧ z ≤ 200 ∧ ∃ x t, xs = x :: t ∧ ∀ w : Nat, w ∈ ls.map List.length → (∀ l ∈ ls, l.length ≤ w) → Q (.tup (linesF ls xs (topF (lgF x xs)) w z)) S))
abbrev e_bars : Ent := { sp := sp_bars, ar := 3, dfl := [], lv := 5 }
abbrev M14 (Z : Zt) : List Ent := [e_ten_to, e_greatest_part, e_exact, e_plus, e_minus, e_less, e_largest, e_smallest, e_covers, e_power_of, e_step_for, e_axis, e_heights, e_bars]
def sp_shares : SpD := fun ds S Q E => ∃ (p : Addr) (xs : List Nu) (w : Int), ds = [.ref p, .int w] ∧ S p = some (.lst (xs.map nD)) ∧ (∀ v ∈ xs, Bd 30 v) ∧ xs.length ≤ 20 ∧ Lt 20 w ∧ ((((∃ v ∈ xs, v.1 < 0) ∨ (totF xs).1 = 0 ∨ w < 0) ∧ E 0 S) ∨ ((∀ v ∈ xs, 0 ≤ v.1) ∧ 0 < (totF xs).1 ∧ 0 ≤ w ∧ 0 < xs.length ∧ w - ((xs.map fun v => fl (shr w (totF xs) v)).sum) ≤ 1000 ∧ 0 ≤ w - ((xs.map fun v => fl (shr w (totF xs) v)).sum) ∧ Q (.tup ((shLoop (w - ((xs.map fun v => fl (shr w (totF xs) v)).sum)).toNat (xs.map fun v => fl (shr w (totF xs) v), xs.map fun v => lossF (shr w (totF xs) v))).1.map D.int)) S))
abbrev e_shares : Ent := { sp := sp_shares, ar := 2, dfl := [], lv := 4 }
abbrev M15 (Z : Zt) : List Ent := [e_ten_to, e_greatest_part, e_exact, e_plus, e_minus, e_less, e_largest, e_smallest, e_covers, e_power_of, e_step_for, e_axis, e_heights, e_bars, e_shares]
def sp__law_dice : SpD := fun ds S Q E => ∃ c : Int, ds = [.int c] ∧ ∀ (a b d : Int) q, S q = none → Q (.ref q) (put S q (.lst [.int a, .int b, .int d]))
abbrev e__law_dice : Ent := { sp := sp__law_dice, ar := 1, dfl := [], lv := 1 }
abbrev M16 (Z : Zt) : List Ent := [e_ten_to, e_greatest_part, e_exact, e_plus, e_minus, e_less, e_largest, e_smallest, e_covers, e_power_of, e_step_for, e_axis, e_heights, e_bars, e_shares, e__law_dice]
def sp__law_roll : SpD := fun ds S Q E => ∃ (q : Addr) (m a b d : Int), ds = [.ref q, .int m] ∧ 0 < m ∧ m ≤ 100000000 ∧ S q = some (.lst [.int a, .int b, .int d]) ∧ ∀ v a b d : Int, 0 ≤ v → v < m → Q (.int v) (put S q (.lst [.int a, .int b, .int d]))
abbrev e__law_roll : Ent := { sp := sp__law_roll, ar := 2, dfl := [], lv := 1 }
abbrev M17 (Z : Zt) : List Ent := [e_ten_to, e_greatest_part, e_exact, e_plus, e_minus, e_less, e_largest, e_smallest, e_covers, e_power_of, e_step_for, e_axis, e_heights, e_bars, e_shares, e__law_dice, e__law_roll]
def sp__law_rounds : SpD := fun ds S Q E => ∃ (ns : List Int) (x : D), ds = [x, .int 1] ∧ IsScript S x ns ∧ ∀ (a b d : Int) p q, S p = none → S q = none → p ≠ q → Q (.ref q) (put (put S p (.lst [.int a, .int b, .int d])) q (.lst [.ref p]))
abbrev e__law_rounds : Ent := { sp := sp__law_rounds, ar := 2, dfl := [], lv := 2 }
abbrev M18 (Z : Zt) : List Ent := [e_ten_to, e_greatest_part, e_exact, e_plus, e_minus, e_less, e_largest, e_smallest, e_covers, e_power_of, e_step_for, e_axis, e_heights, e_bars, e_shares, e__law_dice, e__law_roll, e__law_rounds]
def sp_lam_0 : SpD := fun ds S Q E => E 0 S
abbrev e_lam_0 : Ent := { sp := sp_lam_0, ar := 0, dfl := [], lv := 6, la := some 0 }
abbrev M19 (Z : Zt) : List Ent := [e_ten_to, e_greatest_part, e_exact, e_plus, e_minus, e_less, e_largest, e_smallest, e_covers, e_power_of, e_step_for, e_axis, e_heights, e_bars, e_shares, e__law_dice, e__law_roll, e__law_rounds, e_lam_0]
def sp_lam_1 : SpD := fun ds S Q E => E 0 S
abbrev e_lam_1 : Ent := { sp := sp_lam_1, ar := 0, dfl := [], lv := 6, la := some 1 }
abbrev M20 (Z : Zt) : List Ent := [e_ten_to, e_greatest_part, e_exact, e_plus, e_minus, e_less, e_largest, e_smallest, e_covers, e_power_of, e_step_for, e_axis, e_heights, e_bars, e_shares, e__law_dice, e__law_roll, e__law_rounds, e_lam_0, e_lam_1]
def sp_lam_2 : SpD := fun ds S Q E => E 0 S
abbrev e_lam_2 : Ent := { sp := sp_lam_2, ar := 0, dfl := [], lv := 6, la := some 2 }
abbrev M21 (Z : Zt) : List Ent := [e_ten_to, e_greatest_part, e_exact, e_plus, e_minus, e_less, e_largest, e_smallest, e_covers, e_power_of, e_step_for, e_axis, e_heights, e_bars, e_shares, e__law_dice, e__law_roll, e__law_rounds, e_lam_0, e_lam_1, e_lam_2]
def sp_lam_3 : SpD := fun ds S Q E => E 0 S
abbrev e_lam_3 : Ent := { sp := sp_lam_3, ar := 0, dfl := [], lv := 6, la := some 3 }
abbrev M22 (Z : Zt) : List Ent := [e_ten_to, e_greatest_part, e_exact, e_plus, e_minus, e_less, e_largest, e_smallest, e_covers, e_power_of, e_step_for, e_axis, e_heights, e_bars, e_shares, e__law_dice, e__law_roll, e__law_rounds, e_lam_0, e_lam_1, e_lam_2, e_lam_3]
def sp_lam_4 : SpD := fun ds S Q E => E 0 S
abbrev e_lam_4 : Ent := { sp := sp_lam_4, ar := 0, dfl := [], lv := 6, la := some 4 }
abbrev M23 (Z : Zt) : List Ent := [e_ten_to, e_greatest_part, e_exact, e_plus, e_minus, e_less, e_largest, e_smallest, e_covers, e_power_of, e_step_for, e_axis, e_heights, e_bars, e_shares, e__law_dice, e__law_roll, e__law_rounds, e_lam_0, e_lam_1, e_lam_2, e_lam_3, e_lam_4]
def sp_lam_5 : SpD := fun ds S Q E => E 0 S
abbrev e_lam_5 : Ent := { sp := sp_lam_5, ar := 0, dfl := [], lv := 6, la := some 5 }
abbrev M24 (Z : Zt) : List Ent := [e_ten_to, e_greatest_part, e_exact, e_plus, e_minus, e_less, e_largest, e_smallest, e_covers, e_power_of, e_step_for, e_axis, e_heights, e_bars, e_shares, e__law_dice, e__law_roll, e__law_rounds, e_lam_0, e_lam_1, e_lam_2, e_lam_3, e_lam_4, e_lam_5]
def sp_lam_6 : SpD := fun ds S Q E => E 0 S
abbrev e_lam_6 : Ent := { sp := sp_lam_6, ar := 0, dfl := [], lv := 6, la := some 6 }
abbrev M25 (Z : Zt) : List Ent := [e_ten_to, e_greatest_part, e_exact, e_plus, e_minus, e_less, e_largest, e_smallest, e_covers, e_power_of, e_step_for, e_axis, e_heights, e_bars, e_shares, e__law_dice, e__law_roll, e__law_rounds, e_lam_0, e_lam_1, e_lam_2, e_lam_3, e_lam_4, e_lam_5, e_lam_6]
def sp_lam_7 : SpD := fun ds S Q E => E 0 S
abbrev e_lam_7 : Ent := { sp := sp_lam_7, ar := 0, dfl := [], lv := 6, la := some 7 }
abbrev M26 (Z : Zt) : List Ent := [e_ten_to, e_greatest_part, e_exact, e_plus, e_minus, e_less, e_largest, e_smallest, e_covers, e_power_of, e_step_for, e_axis, e_heights, e_bars, e_shares, e__law_dice, e__law_roll, e__law_rounds, e_lam_0, e_lam_1, e_lam_2, e_lam_3, e_lam_4, e_lam_5, e_lam_6, e_lam_7]
def sp_lam_8 : SpD := fun ds S Q E => E 0 S
abbrev e_lam_8 : Ent := { sp := sp_lam_8, ar := 0, dfl := [], lv := 6, la := some 8 }
abbrev M27 (Z : Zt) : List Ent := [e_ten_to, e_greatest_part, e_exact, e_plus, e_minus, e_less, e_largest, e_smallest, e_covers, e_power_of, e_step_for, e_axis, e_heights, e_bars, e_shares, e__law_dice, e__law_roll, e__law_rounds, e_lam_0, e_lam_1, e_lam_2, e_lam_3, e_lam_4, e_lam_5, e_lam_6, e_lam_7, e_lam_8]
def sp_lam_9 : SpD := fun ds S Q E => E 0 S
abbrev e_lam_9 : Ent := { sp := sp_lam_9, ar := 0, dfl := [], lv := 6, la := some 9 }
abbrev M28 (Z : Zt) : List Ent := [e_ten_to, e_greatest_part, e_exact, e_plus, e_minus, e_less, e_largest, e_smallest, e_covers, e_power_of, e_step_for, e_axis, e_heights, e_bars, e_shares, e__law_dice, e__law_roll, e__law_rounds, e_lam_0, e_lam_1, e_lam_2, e_lam_3, e_lam_4, e_lam_5, e_lam_6, e_lam_7, e_lam_8, e_lam_9]
def sp_lam_10 : SpD := fun ds S Q E => E 0 S
abbrev e_lam_10 : Ent := { sp := sp_lam_10, ar := 0, dfl := [], lv := 6, la := some 10 }
abbrev M29 (Z : Zt) : List Ent := [e_ten_to, e_greatest_part, e_exact, e_plus, e_minus, e_less, e_largest, e_smallest, e_covers, e_power_of, e_step_for, e_axis, e_heights, e_bars, e_shares, e__law_dice, e__law_roll, e__law_rounds, e_lam_0, e_lam_1, e_lam_2, e_lam_3, e_lam_4, e_lam_5, e_lam_6, e_lam_7, e_lam_8, e_lam_9, e_lam_10]
def sp_lam_11 : SpD := fun ds S Q E => E 0 S
abbrev e_lam_11 : Ent := { sp := sp_lam_11, ar := 0, dfl := [], lv := 6, la := some 11 }
abbrev M30 (Z : Zt) : List Ent := [e_ten_to, e_greatest_part, e_exact, e_plus, e_minus, e_less, e_largest, e_smallest, e_covers, e_power_of, e_step_for, e_axis, e_heights, e_bars, e_shares, e__law_dice, e__law_roll, e__law_rounds, e_lam_0, e_lam_1, e_lam_2, e_lam_3, e_lam_4, e_lam_5, e_lam_6, e_lam_7, e_lam_8, e_lam_9, e_lam_10, e_lam_11]
def sp_lam_12 : SpD := fun ds S Q E => E 0 S
abbrev e_lam_12 : Ent := { sp := sp_lam_12, ar := 0, dfl := [], lv := 6, la := some 12 }
abbrev M31 (Z : Zt) : List Ent := [e_ten_to, e_greatest_part, e_exact, e_plus, e_minus, e_less, e_largest, e_smallest, e_covers, e_power_of, e_step_for, e_axis, e_heights, e_bars, e_shares, e__law_dice, e__law_roll, e__law_rounds, e_lam_0, e_lam_1, e_lam_2, e_lam_3, e_lam_4, e_lam_5, e_lam_6, e_lam_7, e_lam_8, e_lam_9, e_lam_10, e_lam_11, e_lam_12]
def sp_lam_13 : SpD := fun ds S Q E => E 0 S
abbrev e_lam_13 : Ent := { sp := sp_lam_13, ar := 0, dfl := [], lv := 6, la := some 13 }
abbrev M32 (Z : Zt) : List Ent := [e_ten_to, e_greatest_part, e_exact, e_plus, e_minus, e_less, e_largest, e_smallest, e_covers, e_power_of, e_step_for, e_axis, e_heights, e_bars, e_shares, e__law_dice, e__law_roll, e__law_rounds, e_lam_0, e_lam_1, e_lam_2, e_lam_3, e_lam_4, e_lam_5, e_lam_6, e_lam_7, e_lam_8, e_lam_9, e_lam_10, e_lam_11, e_lam_12, e_lam_13]
def sp_lam_14 : SpD := fun ds S Q E => E 0 S
abbrev e_lam_14 : Ent := { sp := sp_lam_14, ar := 0, dfl := [], lv := 6, la := some 14 }
abbrev M33 (Z : Zt) : List Ent := [e_ten_to, e_greatest_part, e_exact, e_plus, e_minus, e_less, e_largest, e_smallest, e_covers, e_power_of, e_step_for, e_axis, e_heights, e_bars, e_shares, e__law_dice, e__law_roll, e__law_rounds, e_lam_0, e_lam_1, e_lam_2, e_lam_3, e_lam_4, e_lam_5, e_lam_6, e_lam_7, e_lam_8, e_lam_9, e_lam_10, e_lam_11, e_lam_12, e_lam_13, e_lam_14]
def sp__law_told (Z : Zt) : SpD := fun ds S Q E => ∃ (f : Addr) (j : Nat), ds = [.ref f] ∧ S f = some (.oth (isLam Z j)) ∧ j < 15 ∧ Q (.str "TableError") S
abbrev e__law_told (Z : Zt) : Ent := { sp := sp__law_told Z, ar := 1, dfl := [], lv := 8 }
abbrev M34 (Z : Zt) : List Ent := [e_ten_to, e_greatest_part, e_exact, e_plus, e_minus, e_less, e_largest, e_smallest, e_covers, e_power_of, e_step_for, e_axis, e_heights, e_bars, e_shares, e__law_dice, e__law_roll, e__law_rounds, e_lam_0, e_lam_1, e_lam_2, e_lam_3, e_lam_4, e_lam_5, e_lam_6, e_lam_7, e_lam_8, e_lam_9, e_lam_10, e_lam_11, e_lam_12, e_lam_13, e_lam_14, e__law_told Z]
def sp__law_exact : SpD := fun ds S Q E => ∃ p w : Int, ds = [.int p, .int w] ∧ w ≠ 0 ∧ Sz p ∧ Sz w ∧ (w < 0 → Int.gcd p w < 2 ^ 30) ∧ Q (nD (ex p w)) S
abbrev e__law_exact : Ent := { sp := sp__law_exact, ar := 2, dfl := [], lv := 1 }
abbrev M35 (Z : Zt) : List Ent := [e_ten_to, e_greatest_part, e_exact, e_plus, e_minus, e_less, e_largest, e_smallest, e_covers, e_power_of, e_step_for, e_axis, e_heights, e_bars, e_shares, e__law_dice, e__law_roll, e__law_rounds, e_lam_0, e_lam_1, e_lam_2, e_lam_3, e_lam_4, e_lam_5, e_lam_6, e_lam_7, e_lam_8, e_lam_9, e_lam_10, e_lam_11, e_lam_12, e_lam_13, e_lam_14, e__law_told Z, e__law_exact]
def sp__law_steps : SpD := fun ds S Q E => ds = [] ∧ ∀ l, S l = none → Q (.ref l) (put S l (.lst (stepsL.map nD)))
abbrev e__law_steps : Ent := { sp := sp__law_steps, ar := 0, dfl := [], lv := 2 }
abbrev M36 (Z : Zt) : List Ent := [e_ten_to, e_greatest_part, e_exact, e_plus, e_minus, e_less, e_largest, e_smallest, e_covers, e_power_of, e_step_for, e_axis, e_heights, e_bars, e_shares, e__law_dice, e__law_roll, e__law_rounds, e_lam_0, e_lam_1, e_lam_2, e_lam_3, e_lam_4, e_lam_5, e_lam_6, e_lam_7, e_lam_8, e_lam_9, e_lam_10, e_lam_11, e_lam_12, e_lam_13, e_lam_14, e__law_told Z, e__law_exact, e__law_steps]
def sp__law_parts : SpD := fun ds S Q E => ∃ (q pr : Addr) (xs : List Nu) (z a b d : Int), ds = [.ref q, .ref pr, .int z] ∧ S q = some (.lst [.int a, .int b, .int d]) ∧ S pr = some (.lst (xs.map nD)) ∧ xs ≠ [] ∧ xs.length ≤ 20 ∧ (∀ v ∈ xs, Bd 30 v) ∧ 1 ≤ z ∧ z ≤ 200 ∧ ∀ a b d : Int, Q (.bl true) (put S q (.lst [.int a, .int b, .int d]))
abbrev e__law_parts : Ent := { sp := sp__law_parts, ar := 3, dfl := [], lv := 6 }
abbrev M37 (Z : Zt) : List Ent := [e_ten_to, e_greatest_part, e_exact, e_plus, e_minus, e_less, e_largest, e_smallest, e_covers, e_power_of, e_step_for, e_axis, e_heights, e_bars, e_shares, e__law_dice, e__law_roll, e__law_rounds, e_lam_0, e_lam_1, e_lam_2, e_lam_3, e_lam_4, e_lam_5, e_lam_6, e_lam_7, e_lam_8, e_lam_9, e_lam_10, e_lam_11, e_lam_12, e_lam_13, e_lam_14, e__law_told Z, e__law_exact, e__law_steps, e__law_parts]
def sp_law : SpD := fun ds S Q E => ∃ (ns : List Int) (x : D), ds = [x] ∧ IsScript S x ns ∧ ∀ S, Q (.bl true) S
abbrev e_law : Ent := { sp := sp_law, ar := 1, dfl := [], lv := 9 }
abbrev M38 (Z : Zt) : List Ent := [e_ten_to, e_greatest_part, e_exact, e_plus, e_minus, e_less, e_largest, e_smallest, e_covers, e_power_of, e_step_for, e_axis, e_heights, e_bars, e_shares, e__law_dice, e__law_roll, e__law_rounds, e_lam_0, e_lam_1, e_lam_2, e_lam_3, e_lam_4, e_lam_5, e_lam_6, e_lam_7, e_lam_8, e_lam_9, e_lam_10, e_lam_11, e_lam_12, e_lam_13, e_lam_14, e__law_told Z, e__law_exact, e__law_steps, e__law_parts, e_law]
def t__law_exact_3 (Z : Zt) : TDS := (dRet (dTup (dCons (dOp opDiv (dVar 0) (dVar 2)) (dCons (dOp opDiv (dVar 1) (dVar 2)) dNil))))
def t__law_exact_2 (Z : Zt) : TDS := dSeq (dAsg (dIf (dTest (dOp opGt (dVar 1) (dC (.int 0)))) (dVar 2) (dNeg (dVar 2))) (gN 2)) (t__law_exact_3 Z)
def t__law_exact_1_0 (Z : Zt) : TDS := (dPar2 2 3 (dCons (dVar 3) (dCons (dOp opMod (dVar 2) (dVar 3)) dNil)))
def t__law_exact_1 (Z : Zt) : TDS := dSeq (dWhile (dTest (dOp opNe (dVar 3) (dC (.int 0)))) (t__law_exact_1_0 Z)) (t__law_exact_2 Z)
def t__law_exact_0 (Z : Zt) : TDS := dSeq (dPar2 2 3 (dCons (dBi rAbs (dCons (dVar 0) dNil)) (dCons (dBi rAbs (dCons (dVar 1) dNil)) dNil))) (t__law_exact_1 Z)

def t__law_parts_15 (Z : Zt) : TDS := (dRet (dC (.bl true)))
def t__law_parts_14 (Z : Zt) : TDS := dSeq (dIfS (dOr (dTest (dOp opNe (dBi rList (dCons (dCall (M36 Z) 5 14 2 (dCons (dVar 3) (dCons (dVar 10) dNil))) dNil)) (dVar 17))) (dTest (dOp opNe (dBi G.rSum (dCons (dVar 17) dNil)) (dVar 10)))) (dRet (dC (.bl false))) dNext) (t__law_parts_15 Z)
def t__law_parts_13 (Z : Zt) : TDS := dSeq (dAsg (dLc (iRg1 (dCons (dBi rLen (dCons (dVar 11) dNil)) dNil)) (gN 14) dYes (dOp opAdd (dOp opIx (dVar 12) (dVar 14)) (dBi rInt (dCons (dOp (memIn false) (dVar 14) (dSl (dVar 16) dNoPart (dPart (dOp opSub (dVar 10) (dBi G.rSum (dCons (dVar 12) dNil)))))) dNil))) [14]) (gN 17)) (t__law_parts_14 Z)
def t__law_parts_12_2 (Z : Zt) : TDS := (dAsg (dTup (dCons (dOp opAdd (dVar 16) (dLst (dCons (dOp opIx (dVar 19) (dC (.int 0))) dNil))) (dCons (dLc (iAny (dVar 13)) (gN 20) (dTest (dOp opNe (dOp opIx (dVar 20) (dC (.int 0))) (dOp opIx (dVar 19) (dC (.int 0))))) (dVar 20) [20]) dNil))) (gT 2 (gCs (gN 16) (gCs (gN 13) gNl))))
def t__law_parts_12_1_0 (Z : Zt) : TDS := (dAsg (dIf (dTest (dOp opLt (dOp opMul (dOp opIx (dOp opIx (dVar 19) (dC (.int 1))) (dC (.int 0))) (dOp opIx (dOp opIx (dVar 20) (dC (.int 1))) (dC (.int 1)))) (dOp opMul (dOp opIx (dOp opIx (dVar 20) (dC (.int 1))) (dC (.int 0))) (dOp opIx (dOp opIx (dVar 19) (dC (.int 1))) (dC (.int 1)))))) (dVar 20) (dVar 19)) (gN 19))
def t__law_parts_12_1 (Z : Zt) : TDS := dSeq (dFor (iAny (dVar 13)) (gN 20) (t__law_parts_12_1_0 Z)) (t__law_parts_12_2 Z)
def t__law_parts_12_0 (Z : Zt) : TDS := dSeq (dAsg (dOp opIx (dVar 13) (dC (.int 0))) (gN 19)) (t__law_parts_12_1 Z)
def t__law_parts_12 (Z : Zt) : TDS := dSeq (dWhile (dTest (dOp opNe (dVar 13) (dLst dNil))) (t__law_parts_12_0 Z)) (t__law_parts_13 Z)
def t__law_parts_11 (Z : Zt) : TDS := dSeq (dAsg (dLst dNil) (gN 16)) (t__law_parts_12 Z)
def t__law_parts_10_0 (Z : Zt) : TDS := (dAsg (dOp opAdd (dVar 13) (dLst (dCons (dTup (dCons (dVar 14) (dCons (dCall (M36 Z) 5 34 2 (dCons (dOp opSub (dOp opIx (dVar 15) (dC (.int 0))) (dOp opMul (dOp opIx (dVar 12) (dVar 14)) (dOp opIx (dVar 15) (dC (.int 1))))) (dCons (dOp opIx (dVar 15) (dC (.int 1))) dNil))) dNil))) dNil))) (gN 13))
def t__law_parts_10 (Z : Zt) : TDS := dSeq (dFor (iEnumDB (dCons (dVar 11) dNil)) (gT 2 (gCs (gN 14) (gCs (gN 15) gNl))) (t__law_parts_10_0 Z)) (t__law_parts_11 Z)
def t__law_parts_9 (Z : Zt) : TDS := dSeq (dAsg (dTup (dCons (dLc (iAny (dVar 11)) (gN 15) dYes (dOp opDiv (dOp opIx (dVar 15) (dC (.int 0))) (dOp opIx (dVar 15) (dC (.int 1)))) [15]) (dCons (dLst dNil) dNil))) (gT 2 (gCs (gN 12) (gCs (gN 13) gNl)))) (t__law_parts_10 Z)
def t__law_parts_8 (Z : Zt) : TDS := dSeq (dAsg (dLc (iAny (dVar 3)) (gN 8) dYes (dCall (M36 Z) 5 34 2 (dCons (dOp opMul (dOp opMul (dOp opIx (dVar 8) (dC (.int 0))) (dVar 10)) (dOp opIx (dVar 9) (dC (.int 1)))) (dCons (dOp opMul (dOp opIx (dVar 8) (dC (.int 1))) (dOp opIx (dVar 9) (dC (.int 0)))) dNil))) [8]) (gN 11)) (t__law_parts_9 Z)
def t__law_parts_7 (Z : Zt) : TDS := dSeq (dIfS (dTest (dOp opEq (dOp opIx (dVar 9) (dC (.int 0))) (dC (.int 0)))) (dRet (dC (.bl true))) dNext) (t__law_parts_8 Z)
def t__law_parts_6_0 (Z : Zt) : TDS := (dAsg (dCall (M36 Z) 5 34 2 (dCons (dOp opAdd (dOp opMul (dOp opIx (dVar 9) (dC (.int 0))) (dOp opIx (dVar 8) (dC (.int 1)))) (dOp opMul (dOp opIx (dVar 8) (dC (.int 0))) (dOp opIx (dVar 9) (dC (.int 1))))) (dCons (dOp opMul (dOp opIx (dVar 9) (dC (.int 1))) (dOp opIx (dVar 8) (dC (.int 1)))) dNil))) (gN 9))
def t__law_parts_6 (Z : Zt) : TDS := dSeq (dFor (iAny (dVar 3)) (gN 8) (t__law_parts_6_0 Z)) (t__law_parts_7 Z)
def t__law_parts_5 (Z : Zt) : TDS := dSeq (dAsg (dTup (dCons (dTup (dCons (dC (.int 0)) (dCons (dC (.int 1)) dNil))) (dCons (dCall (M36 Z) 5 16 2 (dCons (dVar 0) (dCons (dC (.int 50)) dNil))) dNil))) (gT 2 (gCs (gN 9) (gCs (gN 10) gNl)))) (t__law_parts_6 Z)
def t__law_parts_4 (Z : Zt) : TDS := dSeq (dIfS (dTest (dOp opNe (dBi rList (dCons (dCall (M36 Z) 5 13 3 (dCons (dVar 4) (dCons (dVar 3) (dCons (dVar 2) dNil)))) dNil)) (dVar 6))) (dRet (dC (.bl false))) dNext) (t__law_parts_5 Z)
def t__law_parts_3_1 (Z : Zt) : TDS := (dAsg (dOp opAdd (dVar 6) (dLst (dCons (dOp opAdd (dOp opAdd (dOp opAdd (dVar 7) (dOp opMul (dC (.str " ")) (dOp opSub (dBi G.rMax (dCons (dLc (iAny (dVar 4)) (gN 20) dYes (dBi rLen (dCons (dVar 20) dNil)) [20]) dNil)) (dBi rLen (dCons (dVar 7) dNil))))) (dC (.str " "))) (dOp opMul (dC (.str "#")) (dVar 18))) dNil))) (gN 6))
def t__law_parts_3_0 (Z : Zt) : TDS := dSeq (dAsg (dIf (dTest (dOp opGt (dOp opIx (dVar 5) (dC (.int 0))) (dC (.int 0)))) (dOp opDiv (dOp opMul (dOp opMul (dOp opIx (dVar 8) (dC (.int 0))) (dOp opIx (dVar 5) (dC (.int 1)))) (dVar 2)) (dOp opMul (dOp opIx (dVar 8) (dC (.int 1))) (dOp opIx (dVar 5) (dC (.int 0))))) (dC (.int 0))) (gN 18)) (t__law_parts_3_1 Z)
def t__law_parts_3 (Z : Zt) : TDS := dSeq (dFor (iZipDB (dCons (dVar 4) (dCons (dVar 3) dNil))) (gT 2 (gCs (gN 7) (gCs (gN 8) gNl))) (t__law_parts_3_0 Z)) (t__law_parts_4 Z)
def t__law_parts_2 (Z : Zt) : TDS := dSeq (dAsg (dLst dNil) (gN 6)) (t__law_parts_3 Z)
def t__law_parts_1 (Z : Zt) : TDS := dSeq (dPar2 4 5 (dCons (dLc (iAny (dVar 1)) (gN 8) dYes (dOp opMul (dC (.str "l")) (dCall (M36 Z) 5 16 2 (dCons (dVar 0) (dCons (dC (.int 4)) dNil)))) [8]) (dCons (dCall (M36 Z) 5 6 1 (dCons (dVar 3) dNil)) dNil))) (t__law_parts_2 Z)
def t__law_parts_0 (Z : Zt) : TDS := dSeq (dAsg (dLc (iAny (dVar 1)) (gN 8) dYes (dTup (dCons (dBi rAbs (dCons (dOp opIx (dVar 8) (dC (.int 0))) dNil)) (dCons (dOp opIx (dVar 8) (dC (.int 1))) dNil))) [8]) (gN 3)) (t__law_parts_1 Z)

def t_law_3 (Z : Zt) : TDS := (dRet (dAndV (dOp opEq (dLc (iAny (dVar 3)) (gN 20) (dTest (dOp opNe (dCall (M37 Z) 8 33 1 (dCons (dVar 20) dNil)) (dC (.str "TableError")))) (dC (.int 1)) [20]) (dLst dNil)) (dAndV (dOp opEq (dTup (dCons (dC (.int 20)) (dCons (dC (.int 200)) dNil))) (dTup (dCons (dC (.int 20)) (dCons (dC (.int 200)) dNil)))) (dAndV (dOp opEq (dLst (dCons (dCall (M37 Z) 8 9 1 (dCons (dC (.int 2)) dNil)) (dCons (dCall (M37 Z) 8 9 1 (dCons (dNeg (dC (.int 2))) dNil)) (dCons (dCall (M37 Z) 8 2 2 (dCons (dC (.int 4)) (dCons (dC (.int 6)) dNil))) (dCons (dCall (M37 Z) 8 2 2 (dCons (dC (.int 3)) (dCons (dNeg (dC (.int 6))) dNil))) dNil))))) (dLst (dCons (dTup (dCons (dC (.int 100)) (dCons (dC (.int 1)) dNil))) (dCons (dTup (dCons (dC (.int 1)) (dCons (dC (.int 100)) dNil))) (dCons (dTup (dCons (dC (.int 2)) (dCons (dC (.int 3)) dNil))) (dCons (dTup (dCons (dNeg (dC (.int 1))) (dCons (dC (.int 2)) dNil))) dNil)))))) (dOp opEq (dCall (M37 Z) 8 14 2 (dCons (dLst (dCons (dTup (dCons (dC (.int 1)) (dCons (dC (.int 1)) dNil))) (dCons (dTup (dCons (dC (.int 1)) (dCons (dC (.int 1)) dNil))) (dCons (dTup (dCons (dC (.int 1)) (dCons (dC (.int 1)) dNil))) dNil)))) (dCons (dC (.int 2)) dNil))) (dTup (dCons (dC (.int 1)) (dCons (dC (.int 1)) (dCons (dC (.int 0)) dNil)))))))))
def t_law_2 (Z : Zt) : TDS := dSeq (dAsg (dLst (dCons (dLam Z 0) (dCons (dLam Z 1) (dCons (dLam Z 2) (dCons (dLam Z 3) (dCons (dLam Z 4) (dCons (dLam Z 5) (dCons (dLam Z 6) (dCons (dLam Z 7) (dCons (dLam Z 8) (dCons (dLam Z 9) (dCons (dLam Z 10) (dCons (dLam Z 11) (dCons (dLam Z 12) (dCons (dLam Z 13) (dCons (dLam Z 14) dNil)))))))))))))))) (gN 3)) (t_law_3 Z)
def t_law_1_14 (Z : Zt) : TDS := (dIfS (dNot (dTru (dCall (M37 Z) 8 36 3 (dCons (dVar 2) (dCons (dVar 4) (dCons (dVar 14) dNil)))))) (dRet (dC (.bl false))) dNext)
def t_law_1_13_3 (Z : Zt) : TDS := (dIfS (dTest (dOp opNe (dLc (iEnumDB (dCons (dCall (M37 Z) 8 12 4 (dCons (dVar 4) (dCons (dVar 17) (dCons (dCall (M37 Z) 8 3 2 (dCons (dVar 17) (dCons (dTup (dCons (dC (.int 5)) (dCons (dC (.int 1)) dNil))) dNil))) (dCons (dVar 14) dNil))))) dNil)) (gT 2 (gCs (gN 18) (gCs (gN 19) gNl))) (dTest (dOp opNe (dVar 19) (dBi G.rMax (dCons (dC (.int 0)) (dCons (dBi G.rMin (dCons (dVar 14) (dCons (dOp opDiv (dOp opMul (dOp opSub (dOp opMul (dOp opIx (dOp opIx (dVar 4) (dVar 18)) (dC (.int 0))) (dOp opIx (dVar 17) (dC (.int 1)))) (dOp opMul (dOp opIx (dVar 17) (dC (.int 0))) (dOp opIx (dOp opIx (dVar 4) (dVar 18)) (dC (.int 1))))) (dVar 14)) (dOp opMul (dOp opMul (dOp opIx (dOp opIx (dVar 4) (dVar 18)) (dC (.int 1))) (dOp opIx (dVar 17) (dC (.int 1)))) (dC (.int 5)))) dNil))) dNil))))) (dVar 18) [18, 19]) (dLst dNil))) (dRet (dC (.bl false))) dNext)
def t_law_1_13_2 (Z : Zt) : TDS := dSeq (dAsg (dCall (M37 Z) 8 34 2 (dCons (dOp opAdd (dOp opIx (dVar 6) (dC (.int 0))) (dOp opIx (dVar 6) (dC (.int 1)))) (dCons (dOp opIx (dVar 6) (dC (.int 1))) dNil))) (gN 17)) (t_law_1_13_3 Z)
def t_law_1_13_1 (Z : Zt) : TDS := dSeq (dIfS (dOr (dTest (dOp opNe (dBi rList (dCons (dCall (M37 Z) 8 12 4 (dCons (dVar 4) (dCons (dVar 6) (dCons (dVar 7) (dCons (dVar 14) dNil))))) dNil)) (dVar 16))) (dTest (dOp opNe (dLc (iAny (dVar 16)) (gN 19) (dNot (dTest (dChain (dC (.int 0)) (dChC opLe (dVar 19) (dCh1 opLe (dVar 14)))))) (dVar 19) [19]) (dLst dNil)))) (dRet (dC (.bl false))) dNext) (t_law_1_13_2 Z)
def t_law_1_13_0 (Z : Zt) : TDS := dSeq (dAsg (dLc (iAny (dVar 4)) (gN 8) dYes (dOp opDiv (dOp opMul (dOp opMul (dOp opSub (dOp opMul (dOp opIx (dVar 8) (dC (.int 0))) (dOp opIx (dVar 6) (dC (.int 1)))) (dOp opMul (dOp opIx (dVar 6) (dC (.int 0))) (dOp opIx (dVar 8) (dC (.int 1))))) (dOp opIx (dVar 9) (dC (.int 1)))) (dVar 14)) (dOp opMul (dOp opMul (dOp opIx (dVar 8) (dC (.int 1))) (dOp opIx (dVar 6) (dC (.int 1)))) (dOp opIx (dVar 9) (dC (.int 0))))) [8]) (gN 16)) (t_law_1_13_1 Z)
def t_law_1_13 (Z : Zt) : TDS := dSeq (dIfS (dTest (dOp opNe (dVar 6) (dVar 7))) (t_law_1_13_0 Z) dNext) (t_law_1_14 Z)
def t_law_1_12 (Z : Zt) : TDS := dSeq (dAsg (dOp opAdd (dC (.int 1)) (dCall (M37 Z) 8 16 2 (dCons (dVar 2) (dCons (dC (.int 200)) dNil)))) (gN 14)) (t_law_1_13 Z)
def t_law_1_11 (Z : Zt) : TDS := dSeq (dIfS (dOr (dTest (dOp opNe (dBi rList (dCons (dVar 11) dNil)) (dLc (iRg2 (dCons (dVar 12) (dCons (dOp opAdd (dVar 13) (dC (.int 1))) dNil))) (gN 21) dYes (dCall (M37 Z) 8 34 2 (dCons (dOp opMul (dOp opIx (dVar 10) (dC (.int 0))) (dVar 21)) (dCons (dOp opIx (dVar 10) (dC (.int 1))) dNil))) [21]))) (dTest (dOp opGt (dBi rLen (dCons (dVar 11) dNil)) (dOp opAdd (dVar 5) (dC (.int 2)))))) (dRet (dC (.bl false))) dNext) (t_law_1_12 Z)
def t_law_1_10 (Z : Zt) : TDS := dSeq (dAsg (dNeg (dOp opDiv (dOp opMul (dNeg (dOp opIx (dVar 7) (dC (.int 0)))) (dOp opIx (dVar 10) (dC (.int 1)))) (dOp opMul (dOp opIx (dVar 7) (dC (.int 1))) (dOp opIx (dVar 10) (dC (.int 0)))))) (gN 13)) (t_law_1_11 Z)
def t_law_1_9 (Z : Zt) : TDS := dSeq (dAsg (dOp opDiv (dOp opMul (dOp opIx (dVar 6) (dC (.int 0))) (dOp opIx (dVar 10) (dC (.int 1)))) (dOp opMul (dOp opIx (dVar 6) (dC (.int 1))) (dOp opIx (dVar 10) (dC (.int 0))))) (gN 12)) (t_law_1_10 Z)
def t_law_1_8 (Z : Zt) : TDS := dSeq (dAsg (dCall (M37 Z) 8 11 2 (dCons (dVar 4) (dCons (dVar 5) dNil))) (gN 11)) (t_law_1_9 Z)
def t_law_1_7 (Z : Zt) : TDS := dSeq (dIfS (dTest (dOp opGt (dOp opIx (dVar 9) (dC (.int 0))) (dC (.int 0)))) (dSeq (dAsg (dLc (iAny (dVar 1)) (gN 19) (dTest (dOp opGe (dOp opMul (dOp opMul (dOp opIx (dVar 19) (dC (.int 0))) (dVar 5)) (dOp opIx (dVar 9) (dC (.int 1)))) (dOp opMul (dOp opIx (dVar 9) (dC (.int 0))) (dOp opIx (dVar 19) (dC (.int 1)))))) (dVar 19) [19]) (gN 15)) (dSeq (dAsg (dOp opIx (dVar 15) (dC (.int 0))) (gN 10)) (dIfS (dOr (dTest (dOp opNe (dCall (M37 Z) 8 10 2 (dCons (dVar 9) (dCons (dVar 5) dNil))) (dVar 10))) (dNot (dTru (dCall (M37 Z) 8 8 3 (dCons (dVar 10) (dCons (dVar 9) (dCons (dVar 5) dNil))))))) (dRet (dC (.bl false))) dNext))) dNext) (t_law_1_8 Z)
def t_law_1_6 (Z : Zt) : TDS := dSeq (dAsg (dTup (dCons (dC (.int 1)) (dCons (dC (.int 1)) dNil))) (gN 10)) (t_law_1_7 Z)
def t_law_1_5 (Z : Zt) : TDS := dSeq (dAsg (dCall (M37 Z) 8 34 2 (dCons (dOp opSub (dOp opMul (dOp opIx (dVar 7) (dC (.int 0))) (dOp opIx (dVar 6) (dC (.int 1)))) (dOp opMul (dOp opIx (dVar 6) (dC (.int 0))) (dOp opIx (dVar 7) (dC (.int 1))))) (dCons (dOp opMul (dOp opIx (dVar 7) (dC (.int 1))) (dOp opIx (dVar 6) (dC (.int 1)))) dNil))) (gN 9)) (t_law_1_6 Z)
def t_law_1_4 (Z : Zt) : TDS := dSeq (dIfS (dOr (dTest (dOp opNe (dCall (M37 Z) 8 6 1 (dCons (dVar 4) dNil)) (dVar 7))) (dOr (dTest (dOp opNe (dCall (M37 Z) 8 7 1 (dCons (dVar 4) dNil)) (dVar 6))) (dOr (dTest (dOp opNe (dCall (M37 Z) 8 5 2 (dCons (dVar 6) (dCons (dVar 7) dNil))) (dOp opNe (dVar 6) (dVar 7)))) (dOr (dTest (dOp opNe (dCall (M37 Z) 8 3 2 (dCons (dVar 6) (dCons (dVar 7) dNil))) (dCall (M37 Z) 8 34 2 (dCons (dOp opAdd (dOp opMul (dOp opIx (dVar 6) (dC (.int 0))) (dOp opIx (dVar 7) (dC (.int 1)))) (dOp opMul (dOp opIx (dVar 7) (dC (.int 0))) (dOp opIx (dVar 6) (dC (.int 1))))) (dCons (dOp opMul (dOp opIx (dVar 6) (dC (.int 1))) (dOp opIx (dVar 7) (dC (.int 1)))) dNil))))) (dTest (dOp opNe (dCall (M37 Z) 8 4 2 (dCons (dVar 6) (dCons (dVar 7) dNil))) (dCall (M37 Z) 8 34 2 (dCons (dOp opSub (dOp opMul (dOp opIx (dVar 6) (dC (.int 0))) (dOp opIx (dVar 7) (dC (.int 1)))) (dOp opMul (dOp opIx (dVar 7) (dC (.int 0))) (dOp opIx (dVar 6) (dC (.int 1))))) (dCons (dOp opMul (dOp opIx (dVar 6) (dC (.int 1))) (dOp opIx (dVar 7) (dC (.int 1)))) dNil))))))))) (dRet (dC (.bl false))) dNext) (t_law_1_5 Z)
def t_law_1_3_1 (Z : Zt) : TDS := (dAsg (dIf (dTest (dOp opLt (dOp opMul (dOp opIx (dVar 7) (dC (.int 0))) (dOp opIx (dVar 8) (dC (.int 1)))) (dOp opMul (dOp opIx (dVar 8) (dC (.int 0))) (dOp opIx (dVar 7) (dC (.int 1)))))) (dVar 8) (dVar 7)) (gN 7))
def t_law_1_3_0 (Z : Zt) : TDS := dSeq (dAsg (dIf (dTest (dOp opLt (dOp opMul (dOp opIx (dVar 8) (dC (.int 0))) (dOp opIx (dVar 6) (dC (.int 1)))) (dOp opMul (dOp opIx (dVar 6) (dC (.int 0))) (dOp opIx (dVar 8) (dC (.int 1)))))) (dVar 8) (dVar 6)) (gN 6)) (t_law_1_3_1 Z)
def t_law_1_3 (Z : Zt) : TDS := dSeq (dFor (iAny (dVar 4)) (gN 8) (t_law_1_3_0 Z)) (t_law_1_4 Z)
def t_law_1_2 (Z : Zt) : TDS := dSeq (dAsg (dTup (dCons (dOp opIx (dVar 4) (dC (.int 0))) (dCons (dOp opIx (dVar 4) (dC (.int 0))) dNil))) (gT 2 (gCs (gN 6) (gCs (gN 7) gNl)))) (t_law_1_3 Z)
def t_law_1_1 (Z : Zt) : TDS := dSeq (dAsg (dOp opAdd (dC (.int 1)) (dCall (M37 Z) 8 16 2 (dCons (dVar 2) (dCons (dC (.int 20)) dNil)))) (gN 5)) (t_law_1_2 Z)
def t_law_1_0 (Z : Zt) : TDS := dSeq (dAsg (dLc (iRg1 (dCons (dOp opAdd (dC (.int 1)) (dCall (M37 Z) 8 16 2 (dCons (dVar 2) (dCons (dC (.int 8)) dNil)))) dNil)) (gN 18) dYes (dCall (M37 Z) 8 34 2 (dCons (dOp opSub (dCall (M37 Z) 8 16 2 (dCons (dVar 2) (dCons (dOp opIx (dLst (dCons (dC (.int 20)) (dCons (dC (.int 3000)) (dCons (dOp opPow (dC (.int 10)) (dC (.int 6))) dNil)))) (dCall (M37 Z) 8 16 2 (dCons (dVar 2) (dCons (dC (.int 3)) dNil)))) dNil))) (dCall (M37 Z) 8 16 2 (dCons (dVar 2) (dCons (dC (.int 30)) dNil)))) (dCons (dOp opIx (dLst (dCons (dC (.int 1)) (dCons (dC (.int 1)) (dCons (dC (.int 3)) (dCons (dC (.int 8)) (dCons (dC (.int 100)) dNil)))))) (dCall (M37 Z) 8 16 2 (dCons (dVar 2) (dCons (dC (.int 5)) dNil)))) dNil))) [18]) (gN 4)) (t_law_1_1 Z)
def t_law_1 (Z : Zt) : TDS := dSeq (dFor (iAny (dCall (M37 Z) 8 17 2 (dCons (dVar 0) (dCons (dC (.int 1)) dNil)))) (gN 2) (t_law_1_0 Z)) (t_law_2 Z)
def t_law_0 (Z : Zt) : TDS := dSeq (dAsg (dCall (M37 Z) 8 35 0 dNil) (gN 1)) (t_law_1 Z)

def t_exact_2 (Z : Zt) : TDS := (dRet (dTup (dCons (dOp opDiv (dVar 0) (dVar 2)) (dCons (dOp opDiv (dVar 1) (dVar 2)) dNil))))
def t_exact_1 (Z : Zt) : TDS := dSeq (dIfS (dTest (dOp opLt (dVar 1) (dC (.int 0)))) (dAsg (dOp opSub (dC (.int 0)) (dVar 2)) (gN 2)) dNext) (t_exact_2 Z)
def t_exact_0 (Z : Zt) : TDS := dSeq (dAsg (dCall (M2 Z) 1 1 2 (dCons (dVar 0) (dCons (dVar 1) dNil))) (gN 2)) (t_exact_1 Z)

def t_smallest_1 (Z : Zt) : TDS := (dRet (dTup (dCons (dOp opSub (dC (.int 0)) (dOp opIx (dVar 1) (dC (.int 0)))) (dCons (dOp opIx (dVar 1) (dC (.int 1))) dNil))))
def t_smallest_0 (Z : Zt) : TDS := dSeq (dAsg (dCall (M7 Z) 2 6 1 (dCons (dLc (iAny (dVar 0)) (gN 2) dYes (dTup (dCons (dOp opSub (dC (.int 0)) (dOp opIx (dVar 2) (dC (.int 0)))) (dCons (dOp opIx (dVar 2) (dC (.int 1))) dNil))) [2]) dNil)) (gN 1)) (t_smallest_1 Z)

def t_step_for_2 (Z : Zt) : TDS := (dRaise 0)
def t_step_for_1_1_1 (Z : Zt) : TDS := (dIfS (dTru (dCall (M10 Z) 2 8 3 (dCons (dVar 5) (dCons (dVar 0) (dCons (dVar 1) dNil))))) (dRet (dVar 5)) dNext)
def t_step_for_1_1_0 (Z : Zt) : TDS := dSeq (dAsg (dCall (M10 Z) 2 2 2 (dCons (dOp opMul (dVar 4) (dOp opIx (dVar 3) (dC (.int 0)))) (dCons (dOp opIx (dVar 3) (dC (.int 1))) dNil))) (gN 5)) (t_step_for_1_1_1 Z)
def t_step_for_1_1 (Z : Zt) : TDS := (dFor (iAny (dTup (dCons (dC (.int 1)) (dCons (dC (.int 2)) (dCons (dC (.int 5)) dNil))))) (gN 4) (t_step_for_1_1_0 Z))
def t_step_for_1_0 (Z : Zt) : TDS := dSeq (dAsg (dCall (M10 Z) 2 9 1 (dCons (dVar 2) dNil)) (gN 3)) (t_step_for_1_1 Z)
def t_step_for_1 (Z : Zt) : TDS := dSeq (dFor (iRg2 (dCons (dOp opSub (dC (.int 0)) (dC (.int 30))) (dCons (dC (.int 31)) dNil))) (gN 2) (t_step_for_1_0 Z)) (t_step_for_2 Z)
def t_step_for_0 (Z : Zt) : TDS := dSeq (dIfS (dOr (dTest (dOp opLe (dOp opIx (dVar 0) (dC (.int 0))) (dC (.int 0)))) (dNot (dTest (dChain (dC (.int 1)) (dChC opLe (dVar 1) (dCh1 opLe (dC (.int 20)))))))) (dRaise 0) dNext) (t_step_for_1 Z)

def t_axis_6 (Z : Zt) : TDS := (dRet (dBi rTuple (dCons (dVar 7) dNil)))
def t_axis_5_1 (Z : Zt) : TDS := (dDrop (dLM rApp (dVar 7) (dCons (dCall (M11 Z) 3 2 2 (dCons (dOp opMul (dOp opIx (dVar 5) (dC (.int 0))) (dVar 6)) (dCons (dOp opIx (dVar 5) (dC (.int 1))) dNil))) dNil)))
def t_axis_5_0 (Z : Zt) : TDS := dSeq (dAug 6 (dC (.int 1)) opIAdd) (t_axis_5_1 Z)
def t_axis_5 (Z : Zt) : TDS := dSeq (dWhile (dTru (dCall (M11 Z) 3 5 2 (dCons (dOp opIx (dVar 7) (dNeg (dC (.int 1)))) (dCons (dVar 3) dNil)))) (t_axis_5_0 Z)) (t_axis_6 Z)
def t_axis_4 (Z : Zt) : TDS := dSeq (dAsg (dLst (dCons (dCall (M11 Z) 3 2 2 (dCons (dOp opMul (dOp opIx (dVar 5) (dC (.int 0))) (dVar 6)) (dCons (dOp opIx (dVar 5) (dC (.int 1))) dNil))) dNil)) (gN 7)) (t_axis_5 Z)
def t_axis_3 (Z : Zt) : TDS := dSeq (dAsg (dOp opDiv (dOp opMul (dOp opIx (dVar 2) (dC (.int 0))) (dOp opIx (dVar 5) (dC (.int 1)))) (dOp opMul (dOp opIx (dVar 2) (dC (.int 1))) (dOp opIx (dVar 5) (dC (.int 0))))) (gN 6)) (t_axis_4 Z)
def t_axis_2 (Z : Zt) : TDS := dSeq (dAsg (dIf (dTest (dOp opEq (dOp opIx (dVar 4) (dC (.int 0))) (dC (.int 0)))) (dTup (dCons (dC (.int 1)) (dCons (dC (.int 1)) dNil))) (dCall (M11 Z) 3 10 2 (dCons (dVar 4) (dCons (dVar 1) dNil)))) (gN 5)) (t_axis_3 Z)
def t_axis_1 (Z : Zt) : TDS := dSeq (dAsg (dCall (M11 Z) 3 4 2 (dCons (dVar 3) (dCons (dVar 2) dNil))) (gN 4)) (t_axis_2 Z)
def t_axis_0 (Z : Zt) : TDS := dSeq (dPar2 2 3 (dCons (dCall (M11 Z) 3 7 1 (dCons (dVar 0) dNil)) (dCons (dCall (M11 Z) 3 6 1 (dCons (dVar 0) dNil)) dNil))) (t_axis_1 Z)

def t_heights_4 (Z : Zt) : TDS := (dRet (dBi rTuple (dCons (dVar 4) dNil)))
def t_heights_3_1 (Z : Zt) : TDS := (dDrop (dLM rApp (dVar 4) (dCons (dBi G.rMax (dCons (dC (.int 0)) (dCons (dBi G.rMin (dCons (dVar 3) (dCons (dOp opDiv (dOp opMul (dOp opMul (dOp opIx (dVar 7) (dC (.int 0))) (dOp opIx (dVar 5) (dC (.int 1)))) (dVar 3)) (dOp opMul (dOp opIx (dVar 7) (dC (.int 1))) (dOp opIx (dVar 5) (dC (.int 0))))) dNil))) dNil))) dNil)))
def t_heights_3_0 (Z : Zt) : TDS := dSeq (dAsg (dCall (M12 Z) 3 4 2 (dCons (dVar 6) (dCons (dVar 1) dNil))) (gN 7)) (t_heights_3_1 Z)
def t_heights_3 (Z : Zt) : TDS := dSeq (dFor (iAny (dVar 0)) (gN 6) (t_heights_3_0 Z)) (t_heights_4 Z)
def t_heights_2 (Z : Zt) : TDS := dSeq (dAsg (dCall (M12 Z) 3 4 2 (dCons (dVar 2) (dCons (dVar 1) dNil))) (gN 5)) (t_heights_3 Z)
def t_heights_1 (Z : Zt) : TDS := dSeq (dAsg (dLst dNil) (gN 4)) (t_heights_2 Z)
def t_heights_0 (Z : Zt) : TDS := dSeq (dIfS (dOr (dNot (dTru (dCall (M12 Z) 3 5 2 (dCons (dVar 1) (dCons (dVar 2) dNil))))) (dNot (dTest (dChain (dC (.int 1)) (dChC opLe (dVar 3) (dCh1 opLe (dC (.int 200)))))))) (dRaise 0) dNext) (t_heights_1 Z)

def t_bars_4 (Z : Zt) : TDS := (dRet (dBi rTuple (dCons (dLc (iZipDB (dCons (dVar 0) (dCons (dVar 5) dNil))) (gT 2 (gCs (gN 6) (gCs (gN 7) gNl))) dYes (dOp opAdd (dOp opAdd (dOp opAdd (dVar 6) (dOp opMul (dC (.str " ")) (dOp opSub (dVar 4) (dBi rLen (dCons (dVar 6) dNil))))) (dC (.str " "))) (dOp opMul (dC (.str "#")) (dVar 7))) [6, 7]) dNil)))
def t_bars_3 (Z : Zt) : TDS := dSeq (dAsg (dCall (M13 Z) 4 12 4 (dCons (dVar 1) (dCons (dTup (dCons (dC (.int 0)) (dCons (dC (.int 1)) dNil))) (dCons (dIf (dTest (dOp opGt (dOp opIx (dVar 3) (dC (.int 0))) (dC (.int 0)))) (dVar 3) (dTup (dCons (dC (.int 1)) (dCons (dC (.int 1)) dNil)))) (dCons (dVar 2) dNil))))) (gN 5)) (t_bars_4 Z)
def t_bars_2 (Z : Zt) : TDS := dSeq (dAsg (dMaxL (qLen some) (dVar 0)) (gN 4)) (t_bars_3 Z)
def t_bars_1 (Z : Zt) : TDS := dSeq (dAsg (dCall (M13 Z) 4 6 1 (dCons (dVar 1) dNil)) (gN 3)) (t_bars_2 Z)
def t_bars_0 (Z : Zt) : TDS := dSeq (dIfS (dOr (dTest (dOp opNe (dBi rLen (dCons (dVar 0) dNil)) (dBi rLen (dCons (dVar 1) dNil)))) (dOr (dTest (dOp opEq (dBi rLen (dCons (dVar 1) dNil)) (dC (.int 0)))) (dTru (dAnyL (qLt (qIx some 0) (fun _ => some (.int 0))) (dVar 1))))) (dRaise 0) dNext) (t_bars_1 Z)

def t_shares_6 (Z : Zt) : TDS := (dRet (dBi rTuple (dCons (dVar 4) dNil)))
def t_shares_5_3 (Z : Zt) : TDS := (dAsg (dTup (dCons (dOp opSub (dC (.int 0)) (dC (.int 1))) (dCons (dC (.int 1)) dNil))) (gIx (dVar 5) (dVar 8)))
def t_shares_5_2 (Z : Zt) : TDS := dSeq (dAugIx (dVar 4) (dVar 8) (dC (.int 1)) opIAdd) (t_shares_5_3 Z)
def t_shares_5_1_0 (Z : Zt) : TDS := (dIfS (dTru (dCall (M14 Z) 3 5 2 (dCons (dOp opIx (dVar 5) (dVar 8)) (dCons (dOp opIx (dVar 5) (dVar 9)) dNil)))) (dAsg (dVar 9) (gN 8)) dNext)
def t_shares_5_1 (Z : Zt) : TDS := dSeq (dFor (iRg1 (dCons (dBi rLen (dCons (dVar 5) dNil)) dNil)) (gN 9) (t_shares_5_1_0 Z)) (t_shares_5_2 Z)
def t_shares_5_0 (Z : Zt) : TDS := dSeq (dAsg (dC (.int 0)) (gN 8)) (t_shares_5_1 Z)
def t_shares_5 (Z : Zt) : TDS := dSeq (dFor (iRg1 (dCons (dOp opSub (dVar 1) (dBi G.rSum (dCons (dVar 4) dNil))) dNil)) (gN 6) (t_shares_5_0 Z)) (t_shares_6 Z)
def t_shares_4_2 (Z : Zt) : TDS := (dDrop (dLM rApp (dVar 5) (dCons (dCall (M14 Z) 3 4 2 (dCons (dVar 7) (dCons (dTup (dCons (dOp opIx (dVar 4) (dNeg (dC (.int 1)))) (dCons (dC (.int 1)) dNil))) dNil))) dNil)))
def t_shares_4_1 (Z : Zt) : TDS := dSeq (dDrop (dLM rApp (dVar 4) (dCons (dOp opDiv (dOp opIx (dVar 7) (dC (.int 0))) (dOp opIx (dVar 7) (dC (.int 1)))) dNil))) (t_shares_4_2 Z)
def t_shares_4_0 (Z : Zt) : TDS := dSeq (dAsg (dCall (M14 Z) 3 2 2 (dCons (dOp opMul (dOp opMul (dOp opIx (dVar 3) (dC (.int 0))) (dVar 1)) (dOp opIx (dVar 2) (dC (.int 1)))) (dCons (dOp opMul (dOp opIx (dVar 3) (dC (.int 1))) (dOp opIx (dVar 2) (dC (.int 0)))) dNil))) (gN 7)) (t_shares_4_1 Z)
def t_shares_4 (Z : Zt) : TDS := dSeq (dFor (iAny (dVar 0)) (gN 3) (t_shares_4_0 Z)) (t_shares_5 Z)
def t_shares_3 (Z : Zt) : TDS := dSeq (dPar2 4 5 (dCons (dLst dNil) (dCons (dLst dNil) dNil))) (t_shares_4 Z)
def t_shares_2 (Z : Zt) : TDS := dSeq (dIfS (dOr (dTru (dAnyL (qLt (qIx some 0) (fun _ => some (.int 0))) (dVar 0))) (dOr (dTest (dOp opEq (dOp opIx (dVar 2) (dC (.int 0))) (dC (.int 0)))) (dTest (dOp opLt (dVar 1) (dC (.int 0)))))) (dRaise 0) dNext) (t_shares_3 Z)
def t_shares_1_0 (Z : Zt) : TDS := (dAsg (dCall (M14 Z) 3 3 2 (dCons (dVar 2) (dCons (dVar 3) dNil))) (gN 2))
def t_shares_1 (Z : Zt) : TDS := dSeq (dFor (iAny (dVar 0)) (gN 3) (t_shares_1_0 Z)) (t_shares_2 Z)
def t_shares_0 (Z : Zt) : TDS := dSeq (dAsg (dTup (dCons (dC (.int 0)) (dCons (dC (.int 1)) dNil))) (gN 2)) (t_shares_1 Z)

end K09

set_option Elab.async false
set_option linter.all false
set_option maxRecDepth 100000
set_option maxHeartbeats 4000000
/-! K09P: the plain law of the charts. -/
namespace K09
open PySem PySem.Spec PyProof.Rows L2 G
/-! ### order -/
def Red (v : Nu) : Prop := 0 < v.2 ∧ Int.gcd v.1 v.2 = 1
theorem lt_iff {v u : Nu} : lt v u = true ↔ v.1 * u.2 < u.1 * v.2 := by unfold lt; exact decide_eq_true_iff
theorem lt_not {v u : Nu} : lt v u = false ↔ u.1 * v.2 ≤ v.1 * u.2 := by
  unfold lt
  rw [decide_eq_false_iff_not]
  omega
theorem le_tr {a b c : Nu} (h2 : 0 < b.2) (ha : 0 < a.2) (hc : 0 < c.2) (h : a.1 * b.2 ≤ b.1 * a.2) (h' : b.1 * c.2 ≤ c.1 * b.2) : a.1 * c.2 ≤ c.1 * a.2 := by
  have e1 := Int.mul_le_mul_of_nonneg_right h (Int.le_of_lt hc)
  have e2 := Int.mul_le_mul_of_nonneg_right h' (Int.le_of_lt ha)
  refine Int.le_of_mul_le_mul_right (a := b.2) ?_ h2
  grind
theorem lt_tr {a b c : Nu} (h2 : 0 < b.2) (ha : 0 < a.2) (hc : 0 < c.2) (h : a.1 * b.2 ≤ b.1 * a.2) (h' : b.1 * c.2 < c.1 * b.2) : a.1 * c.2 < c.1 * a.2 := by
  have e1 := Int.mul_le_mul_of_nonneg_right h (Int.le_of_lt hc)
  have e2 := Int.mul_lt_mul_of_pos_right h' ha
  refine Int.lt_of_mul_lt_mul_right (a := b.2) ?_ (Int.le_of_lt h2)
  grind
theorem lt_tr' {a b c : Nu} (h2 : 0 < b.2) (ha : 0 < a.2) (hc : 0 < c.2) (h : a.1 * b.2 < b.1 * a.2) (h' : b.1 * c.2 ≤ c.1 * b.2) : a.1 * c.2 < c.1 * a.2 := by
  have e1 := Int.mul_lt_mul_of_pos_right h hc
  have e2 := Int.mul_le_mul_of_nonneg_right h' (Int.le_of_lt ha)
  refine Int.lt_of_mul_lt_mul_right (a := b.2) ?_ (Int.le_of_lt h2)
  grind
/-- two reduced numbers that are alike are one -/
theorem red_eq {a b : Nu} (ha : Red a) (hb : Red b) (h : a.1 * b.2 = b.1 * a.2) : a = b := by
  obtain ⟨a1, a2⟩ := a
  obtain ⟨b1, b2⟩ := b
  obtain ⟨ha0, hg⟩ := ha
  obtain ⟨hb0, hg'⟩ := hb
  simp only at *
  have key : ∀ {x y z : Int}, Int.gcd x y = 1 → y ∣ x * z → y ∣ z := fun {x y z} hg hd => by
    refine Int.natAbs_dvd_natAbs.mp (Nat.Coprime.dvd_of_dvd_mul_left (k := y.natAbs) (m := x.natAbs) (Nat.Coprime.symm hg) ?_)
    rw [← Int.natAbs_mul]
    exact Int.natAbs_dvd_natAbs.mpr hd
  have d1 : a2 ∣ b2 := key hg (by rw [h]; exact Int.dvd_mul_left _ _)
  have d2 : b2 ∣ a2 := key hg' (by rw [← h]; exact Int.dvd_mul_left _ _)
  have e := Int.dvd_antisymm (by omega) (by omega) d1 d2
  subst e
  have := Int.eq_of_mul_eq_mul_right (show a2 ≠ 0 by omega) h
  rw [this]
theorem ex_red {p w : Int} (h : 0 < w) : Red (ex p w) := by
  obtain ⟨g, _, _, _, h4, h5⟩ := exE (p := p) h
  exact ⟨h4, h5⟩
/-! ### the least and the greatest -/
def loF (x : Nu) (l : List Nu) : Nu := l.foldl (fun lo v => if lt v lo = true then v else lo) x
theorem ng_ng (v : Nu) : ng (ng v) = v := by
  obtain ⟨a, b⟩ := v
  unfold ng
  simp only [Prod.mk.injEq, and_true]
  omega
theorem lt_ng (v u : Nu) : lt (ng v) (ng u) = lt u v := by
  unfold lt ng
  rw [Bool.eq_iff_iff, decide_eq_true_iff, decide_eq_true_iff]
  simp only
  constructor <;> intro h <;> grind
theorem loS_eq (l : List Nu) : ∀ x, loS x l = loF x l := by
  unfold loS lgF loF
  induction l with
  | nil => intro x; exact ng_ng x
  | cons v l ih =>
    intro x
    rw [List.map_cons, List.foldl_cons, List.foldl_cons, lt_ng]
    split
    · exact ih v
    · exact ih x
theorem loF_mem (f : Nu) : ∀ (l : List Nu), loF f l = f ∨ loF f l ∈ l := by
  intro l
  induction l generalizing f with
  | nil => exact .inl rfl
  | cons v l ih =>
    show loF (if lt v f = true then v else f) l = f ∨ loF (if lt v f = true then v else f) l ∈ v :: l
    rcases ih (if lt v f = true then v else f) with h | h
    · rw [h]
      split
      · exact .inr (by simp)
      · exact .inl rfl
    · exact .inr (List.mem_cons_of_mem _ h)
theorem lgF_ge : ∀ (l : List Nu) (f : Nu), 0 < f.2 → (∀ v ∈ l, 0 < v.2) → (f.1 * (lgF f l).2 ≤ (lgF f l).1 * f.2) ∧ ∀ v ∈ l, v.1 * (lgF f l).2 ≤ (lgF f l).1 * v.2 := by
  intro l
  induction l with
  | nil => intro f _ _; exact ⟨Int.le_refl _, fun v h => nomatch h⟩
  | cons u l ih =>
    intro f hf hl
    have hu := hl u (by simp)
    have hl' : ∀ v ∈ l, 0 < v.2 := fun v hv => hl v (by simp [hv])
    show (f.1 * (lgF (if lt f u = true then u else f) l).2 ≤ (lgF (if lt f u = true then u else f) l).1 * f.2) ∧ ∀ v ∈ u :: l, v.1 * (lgF (if lt f u = true then u else f) l).2 ≤ (lgF (if lt f u = true then u else f) l).1 * v.2
    have hpos : ∀ g : Nu, 0 < g.2 → 0 < (lgF g l).2 := fun g hg => by
      rcases lgF_mem g l with h | h
      · rw [h]; exact hg
      · exact hl' _ h
    by_cases c : lt f u = true
    · rw [if_pos c]
      obtain ⟨h1, h2⟩ := ih u hu hl'
      have c' := lt_iff.mp c
      refine ⟨le_tr hu hf (hpos u hu) (Int.le_of_lt c') h1, fun v hv => ?_⟩
      rcases List.mem_cons.mp hv with rfl | hv
      · exact h1
      · exact h2 v hv
    · rw [if_neg c]
      obtain ⟨h1, h2⟩ := ih f hf hl'
      have c' := lt_not.mp (Bool.eq_false_iff.mpr c)
      refine ⟨h1, fun v hv => ?_⟩
      rcases List.mem_cons.mp hv with rfl | hv
      · exact le_tr hf hu (hpos f hf) c' h1
      · exact h2 v hv
theorem loF_le : ∀ (l : List Nu) (f : Nu), 0 < f.2 → (∀ v ∈ l, 0 < v.2) → ((loF f l).1 * f.2 ≤ f.1 * (loF f l).2) ∧ ∀ v ∈ l, (loF f l).1 * v.2 ≤ v.1 * (loF f l).2 := by
  intro l f hf hl
  rw [← loS_eq]
  have := lgF_ge (l.map ng) (ng f) hf (fun v hv => by
    obtain ⟨u, hu, rfl⟩ := List.mem_map.mp hv
    exact hl u hu)
  obtain ⟨h1, h2⟩ := this
  unfold loS
  generalize lgF (ng f) (l.map ng) = m at *
  refine ⟨?_, fun v hv => ?_⟩
  · unfold ng at *
    simp only at *
    grind
  · have := h2 (ng v) (List.mem_map.mpr ⟨v, hv, rfl⟩)
    unfold ng at *
    simp only at *
    grind
theorem lt_ne {lo hi : Nu} (h1 : Red lo) (h2 : Red hi) (h : lo.1 * hi.2 ≤ hi.1 * lo.2) : lt lo hi = !decide (lo = hi) := by
  by_cases c : lo = hi
  · subst c
    rw [decide_eq_true rfl]
    exact lt_not.mpr (Int.le_refl _)
  · rw [decide_eq_false c]
    refine lt_iff.mpr ?_
    rcases Int.lt_or_eq_of_le h with h | h
    · exact h
    · exact absurd (red_eq h1 h2 h) c
/-! ### steps -/
theorem steps_eq : stepsL = cands := by decide +kernel
theorem cands_ok : ∀ s ∈ cands, 0 < s.1 ∧ s.1 < 2 ^ 110 ∧ 0 < s.2 ∧ s.2 < 2 ^ 110 := by
  have : cands.all (fun s => decide (0 < s.1 ∧ s.1 < 2 ^ 110 ∧ 0 < s.2 ∧ s.2 < 2 ^ 110)) = true := by decide +kernel
  intro s hs
  exact of_decide_eq_true (List.all_eq_true.mp this s hs)
theorem cands_big : ((10 : Int) ^ 30, (1 : Int)) ∈ cands := by
  have : cands.any (fun s => decide (s = ((10 : Int) ^ 30, (1 : Int)))) = true := by decide +kernel
  obtain ⟨s, h1, h2⟩ := List.any_eq_true.mp this
  rw [← of_decide_eq_true h2]
  exact h1
theorem st_some {p : Nu} {m : Int} (hp : p.1 < 2 ^ 60) (h2 : 0 < p.2) (hm : 1 ≤ m) : ∃ s, stF p m = some s := by
  unfold stF
  cases e : cands.find? (cov p m) with
  | some s => exact ⟨s, rfl⟩
  | none =>
    have := List.find?_eq_none.mp e _ cands_big
    exfalso
    apply this
    unfold cov
    rw [lt_not.mpr]
    · rfl
    · show p.1 * 1 ≤ 10 ^ 30 * m * p.2
      have h3 : (10 ^ 30 : Int) * 1 ≤ 10 ^ 30 * m := Int.mul_le_mul_of_nonneg_left hm (by decide)
      have h4 : (10 ^ 30 * m : Int) * 1 ≤ 10 ^ 30 * m * p.2 := Int.mul_le_mul_of_nonneg_left (by omega) (by omega)
      omega
theorem st_ok {p : Nu} {m : Int} {s : Nu} (h : stF p m = some s) : s ∈ cands ∧ cov p m s = true := ⟨List.mem_of_find?_eq_some h, List.find?_some h⟩
/-- the law's own choice -/
theorem good_head {p : Nu} {m : Int} {s : Nu} (h : stF p m = some s) : (stepsL.filter fun s => decide (p.1 * s.2 ≤ s.1 * m * p.2)).head? = some s := by
  rw [List.head?_filter, steps_eq, ← h]
  unfold stF
  congr 1
  funext u
  unfold cov lt
  rw [Bool.eq_iff_iff, decide_eq_true_iff, Bool.not_eq_true', decide_eq_false_iff_not]
  dsimp only
  omega
theorem bd_of {k : Nat} {v : Nu} (h1 : v.1.natAbs < 2 ^ k) (h2 : 0 < v.2) (h3 : v.2.natAbs < 2 ^ k) : Bd k v := ⟨h1, h2, h3⟩
/-! ### marks -/
def lastF (hi s : Nu) : Int := -((-hi.1 * s.2).fdiv (hi.2 * s.1))
theorem floor_le {a b : Int} (h : 0 < b) : a.fdiv b * b ≤ a ∧ a < (a.fdiv b + 1) * b := by
  rw [Int.fdiv_eq_ediv_of_nonneg _ (by omega)]
  have e := Int.mul_ediv_add_emod a b
  have r0 := Int.emod_nonneg a (show b ≠ 0 by omega)
  have r1 := Int.emod_lt_of_pos a h
  constructor <;> grind
theorem last_iff {hi s : Nu} (h1 : 0 < hi.2) (h2 : 0 < s.1) (p : Int) : p * (hi.2 * s.1) < hi.1 * s.2 ↔ p < lastF hi s := by
  have hb : 0 < hi.2 * s.1 := Int.mul_pos h1 h2
  obtain ⟨f1, f2⟩ := floor_le (a := -hi.1 * s.2) hb
  unfold lastF
  generalize (-hi.1 * s.2).fdiv (hi.2 * s.1) = q at *
  constructor
  · intro h
    have : (p + q) * (hi.2 * s.1) < 0 * (hi.2 * s.1) := by grind
    have := Int.lt_of_mul_lt_mul_right this (by omega)
    omega
  · intro h
    have : (p + q + 1) * (hi.2 * s.1) ≤ 0 * (hi.2 * s.1) := Int.mul_le_mul_of_nonneg_right (by omega) (by omega)
    grind
theorem mark_lt {lo hi s : Nu} (h1 : 0 < hi.2) (h2 : 0 < s.1) (h3 : 0 < s.2) (i : Nat) : lt (markF lo s i) hi = decide (firstF lo s + (i : Int) < lastF hi s) := by
  obtain ⟨g, g0, e1, e2, w0, _⟩ := exE (p := s.1 * (firstF lo s + (i : Int))) h3
  unfold markF
  generalize hm : ex (s.1 * (firstF lo s + (i : Int))) s.2 = m at *
  rw [Bool.eq_iff_iff, lt_iff, decide_eq_true_iff, ← last_iff h1 h2]
  generalize firstF lo s + (i : Int) = p at *
  have q1 : p * (hi.2 * s.1) = g * (m.1 * hi.2) := by
    rw [show p * (hi.2 * s.1) = hi.2 * (s.1 * p) by ac_rfl, e1]
    ac_rfl
  have q2 : hi.1 * s.2 = g * (hi.1 * m.2) := by
    rw [e2]
    ac_rfl
  rw [q1, q2]
  exact ⟨fun h => Int.mul_lt_mul_of_pos_left h g0, fun h => Int.lt_of_mul_lt_mul_left h (by omega)⟩
theorem first_le {lo hi s : Nu} (l0 : 0 < lo.2) (h1 : 0 < hi.2) (h2 : 0 < s.1) (h3 : 0 < s.2) (h : lo.1 * hi.2 ≤ hi.1 * lo.2) : firstF lo s ≤ lastF hi s := by
  have hb : 0 < lo.2 * s.1 := Int.mul_pos l0 h2
  obtain ⟨f1, f2⟩ := floor_le (a := lo.1 * s.2) hb
  have hn := last_iff h1 h2 (lastF hi s)
  unfold firstF
  generalize (lo.1 * s.2).fdiv (lo.2 * s.1) = f at *
  generalize lastF hi s = q at *
  have hq : hi.1 * s.2 ≤ q * (hi.2 * s.1) := by
    have := mt hn.mp (by omega)
    omega
  have k1 := Int.mul_le_mul_of_nonneg_right f1 (Int.le_of_lt h1)
  have k2 := Int.mul_le_mul_of_nonneg_right h (Int.le_of_lt h3)
  have k3 := Int.mul_le_mul_of_nonneg_right hq (Int.le_of_lt l0)
  have k : f * (hi.2 * s.1 * lo.2) ≤ q * (hi.2 * s.1 * lo.2) := by grind
  exact Int.le_of_mul_le_mul_right k (Int.mul_pos (Int.mul_pos h1 h2) l0)
theorem last_le {lo hi s : Nu} {m : Int} (l0 : 0 < lo.2) (h1 : 0 < hi.2) (h2 : 0 < s.1) (h3 : 0 < s.2) (h : (hi.1 * lo.2 - lo.1 * hi.2) * s.2 ≤ m * (s.1 * (hi.2 * lo.2))) : lastF hi s - firstF lo s ≤ m + 1 := by
  have hb : 0 < lo.2 * s.1 := Int.mul_pos l0 h2
  obtain ⟨f1, f2⟩ := floor_le (a := lo.1 * s.2) hb
  have hn := (last_iff h1 h2 (lastF hi s - 1)).mpr (by omega)
  unfold firstF
  generalize (lo.1 * s.2).fdiv (lo.2 * s.1) = f at *
  generalize lastF hi s = q at *
  have k1 := Int.mul_lt_mul_of_pos_right f2 h1
  have k2 := Int.mul_lt_mul_of_pos_right hn l0
  have k : (q - f - 2) * (hi.2 * s.1 * lo.2) < m * (hi.2 * s.1 * lo.2) := by grind
  have := Int.lt_of_mul_lt_mul_right k (Int.le_of_lt (Int.mul_pos (Int.mul_pos h1 h2) l0))
  omega
/-! ### heights -/
theorem fdiv_scale {a b g : Int} (hb : 0 < b) (hg : 0 < g) : (g * a).fdiv (g * b) = a.fdiv b := by
  have := Int.mul_pos hg hb
  rw [Int.fdiv_eq_ediv_of_nonneg _ (by omega), Int.fdiv_eq_ediv_of_nonneg _ (by omega)]
  exact Int.mul_ediv_mul_of_pos _ _ hg
def dueF (lo sp : Nu) (z : Int) (v : Nu) : Int := ((v.1 * lo.2 - lo.1 * v.2) * sp.2 * z).fdiv (v.2 * lo.2 * sp.1)
theorem hgt0_eq {lo hi v : Nu} {z : Int} (l0 : 0 < lo.2) (v0 : 0 < v.2) (sp0 : 0 < (mi hi lo).1) : hgt0 lo hi z v = dueF lo (mi hi lo) z v := by
  unfold hgt0 dueF
  generalize mi hi lo = sp at *
  obtain ⟨g, g0, e1, e2, w0, _⟩ := exE (p := v.1 * lo.2 - lo.1 * v.2) (w := v.2 * lo.2) (Int.mul_pos v0 l0)
  have e3 : mi v lo = ex (v.1 * lo.2 - lo.1 * v.2) (v.2 * lo.2) := rfl
  rw [e3]
  generalize ex (v.1 * lo.2 - lo.1 * v.2) (v.2 * lo.2) = m at *
  rw [e1, e2, show g * m.1 * sp.2 * z = g * (m.1 * sp.2 * z) by ac_rfl, show g * m.2 * sp.1 = g * (m.2 * sp.1) by ac_rfl]
  exact (fdiv_scale (Int.mul_pos w0 sp0) g0).symm
theorem due_in {lo hi v : Nu} {z : Int} (l0 : 0 < lo.2) (v0 : 0 < v.2) (h0 : 0 < hi.2) (hl : lt lo hi = true) (h1 : lo.1 * v.2 ≤ v.1 * lo.2) (h2 : v.1 * hi.2 ≤ hi.1 * v.2) (z0 : 0 ≤ z) : 0 ≤ dueF lo (mi hi lo) z v ∧ dueF lo (mi hi lo) z v ≤ z := by
  have sp0 := mi_pos hl l0 h0
  unfold dueF
  obtain ⟨g, g0, e1, e2, w0, _⟩ := exE (p := hi.1 * lo.2 - lo.1 * hi.2) (w := hi.2 * lo.2) (Int.mul_pos h0 l0)
  have e3 : mi hi lo = ex (hi.1 * lo.2 - lo.1 * hi.2) (hi.2 * lo.2) := rfl
  rw [e3] at sp0 ⊢
  generalize ex (hi.1 * lo.2 - lo.1 * hi.2) (hi.2 * lo.2) = sp at *
  have b0 : 0 < v.2 * lo.2 * sp.1 := Int.mul_pos (Int.mul_pos v0 l0) sp0
  obtain ⟨f1, f2⟩ := floor_le (a := (v.1 * lo.2 - lo.1 * v.2) * sp.2 * z) b0
  have p0 : 0 ≤ (v.1 * lo.2 - lo.1 * v.2) * sp.2 * z := Int.mul_nonneg (Int.mul_nonneg (by omega) (by omega)) z0
  constructor
  · rw [Int.fdiv_eq_ediv_of_nonneg _ (by omega)]
    exact Int.ediv_nonneg p0 (by omega)
  · generalize ((v.1 * lo.2 - lo.1 * v.2) * sp.2 * z).fdiv (v.2 * lo.2 * sp.1) = q at *
    have k1 : (v.1 * lo.2 - lo.1 * v.2) * sp.2 ≤ v.2 * lo.2 * sp.1 := by
      refine Int.le_of_mul_le_mul_left (a := g) ?_ g0
      have k2 := Int.mul_le_mul_of_nonneg_right h2 (show 0 ≤ lo.2 * lo.2 from Int.mul_nonneg (by omega) (by omega))
      rw [show g * ((v.1 * lo.2 - lo.1 * v.2) * sp.2) = (v.1 * lo.2 - lo.1 * v.2) * (g * sp.2) by ac_rfl, show g * (v.2 * lo.2 * sp.1) = v.2 * lo.2 * (g * sp.1) by ac_rfl, ← e1, ← e2]
      grind
    have k2 := Int.mul_le_mul_of_nonneg_right k1 z0
    have k3 : q * (v.2 * lo.2 * sp.1) ≤ z * (v.2 * lo.2 * sp.1) := by
      rw [Int.mul_comm z]
      omega
    exact Int.le_of_mul_le_mul_right k3 b0
theorem hgt_eq {lo hi v : Nu} {z : Int} (l0 : 0 < lo.2) (v0 : 0 < v.2) (h0 : 0 < hi.2) (hl : lt lo hi = true) (h1 : lo.1 * v.2 ≤ v.1 * lo.2) (h2 : v.1 * hi.2 ≤ hi.1 * v.2) (z0 : 0 ≤ z) : hgt lo hi z v = dueF lo (mi hi lo) z v := by
  obtain ⟨d1, d2⟩ := due_in l0 v0 h0 hl h1 h2 z0
  unfold hgt
  rw [hgt0_eq l0 v0 (mi_pos hl l0 h0)]
  split <;> split <;> omega
theorem far_lt {n : Nu} (n0 : 0 < n.2) : lt n (pl n (5, 1)) = true ∧ 0 < (pl n (5, 1)).2 ∧ (mi (pl n (5, 1)) n).1 = 5 * (mi (pl n (5, 1)) n).2 := by
  obtain ⟨g, g0, e1, e2, w0, _⟩ := exE (p := n.1 * 1 + 5 * n.2) (w := n.2 * 1) (by omega)
  have e3 : pl n (5, 1) = ex (n.1 * 1 + 5 * n.2) (n.2 * 1) := rfl
  rw [e3]
  generalize ex (n.1 * 1 + 5 * n.2) (n.2 * 1) = f at *
  refine ⟨lt_iff.mpr ?_, w0, ?_⟩
  · refine Int.lt_of_mul_lt_mul_left (a := g) ?_ (by omega)
    rw [show g * (n.1 * f.2) = n.1 * (g * f.2) by ac_rfl, show g * (f.1 * n.2) = g * f.1 * n.2 by ac_rfl, ← e1, ← e2]
    have := Int.mul_pos n0 n0
    grind
  · obtain ⟨k, k0, c1, c2, x0, _⟩ := exE (p := f.1 * n.2 - n.1 * f.2) (w := f.2 * n.2) (Int.mul_pos w0 n0)
    have e4 : mi f n = ex (f.1 * n.2 - n.1 * f.2) (f.2 * n.2) := rfl
    rw [e4]
    generalize ex (f.1 * n.2 - n.1 * f.2) (f.2 * n.2) = s at *
    have q : (g * k) * s.1 = (g * k) * (5 * s.2) := by
      have a1 : (g * k) * s.1 = (g * f.1) * n.2 - n.1 * (g * f.2) := by
        rw [show g * k * s.1 = g * (k * s.1) by ac_rfl, ← c1]
        grind
      have a2 : (g * k) * (5 * s.2) = 5 * ((g * f.2) * n.2) := by
        rw [show g * k * (5 * s.2) = 5 * (g * (k * s.2)) by ac_rfl, ← c2]
        ac_rfl
      rw [a1, a2, ← e1, ← e2]
      grind
    exact Int.eq_of_mul_eq_mul_left (by have := Int.mul_pos g0 k0; omega) q
theorem hgt_near {n v : Nu} {z : Int} (n0 : 0 < n.2) (v0 : 0 < v.2) : hgt0 n (pl n (5, 1)) z v = ((v.1 * n.2 - n.1 * v.2) * z).fdiv (v.2 * n.2 * 5) := by
  obtain ⟨h1, h2, h3⟩ := far_lt n0
  have sp0 := mi_pos h1 n0 h2
  rw [hgt0_eq n0 v0 sp0]
  unfold dueF
  generalize mi (pl n (5, 1)) n = s at *
  have s0 : 0 < s.2 := by omega
  rw [h3, show (v.1 * n.2 - n.1 * v.2) * s.2 * z = s.2 * ((v.1 * n.2 - n.1 * v.2) * z) by ac_rfl, show v.2 * n.2 * (5 * s.2) = s.2 * (v.2 * n.2 * 5) by ac_rfl]
  have := Int.mul_pos v0 n0
  exact fdiv_scale (by omega) s0
/-! ### lines -/
def placeF (mo : Nu) (z : Int) (v : Nu) : Int := if 0 < mo.1 then (v.1 * mo.2 * z).fdiv (v.2 * mo.1) else 0
theorem place_eq {mo v : Nu} {z : Int} (v0 : 0 < v.2) (v1 : 0 ≤ v.1) (m0 : 0 < mo.2) (m1 : 0 ≤ mo.1) (h : v.1 * mo.2 ≤ mo.1 * v.2) (z0 : 0 ≤ z) : hgt (0, 1) (topF mo) z v = placeF mo z v := by
  unfold topF placeF
  by_cases c : 0 < mo.1
  · rw [if_pos c, if_pos c]
    have hl : lt (0, 1) mo = true := lt_iff.mpr (by show 0 * mo.2 < mo.1 * 1; omega)
    have sp0 := mi_pos hl Int.one_pos m0
    rw [hgt_eq (lo := (0, 1)) Int.one_pos v0 m0 hl (by show 0 * v.2 ≤ v.1 * 1; omega) h z0]
    obtain ⟨g, g0, e1, e2, w0, _⟩ := exE (p := mo.1 * 1 - 0 * mo.2) (w := mo.2 * 1) (by omega)
    have e3 : mi mo (0, 1) = ex (mo.1 * 1 - 0 * mo.2) (mo.2 * 1) := rfl
    unfold dueF
    rw [e3] at sp0 ⊢
    generalize ex (mo.1 * 1 - 0 * mo.2) (mo.2 * 1) = s at *
    show ((v.1 * 1 - 0 * v.2) * s.2 * z).fdiv (v.2 * 1 * s.1) = _
    have e4 : mo.1 = g * s.1 := by omega
    have e5 : mo.2 = g * s.2 := by omega
    rw [e4, e5, show v.1 * (g * s.2) * z = g * (v.1 * s.2 * z) by ac_rfl, show v.2 * (g * s.1) = g * (v.2 * s.1) by ac_rfl, fdiv_scale (Int.mul_pos v0 sp0) g0]
    congr 1
    · congr 2
      omega
    · congr 1
      omega
  · rw [if_neg c, if_neg c]
    have e : mo.1 = 0 := by omega
    rw [e, Int.zero_mul] at h
    have v2 : v.1 = 0 := by
      rcases Int.lt_or_eq_of_le v1 with q | q
      · have := Int.mul_pos q m0
        omega
      · exact q.symm
    rw [hgt_eq (lo := (0, 1)) (hi := (1, 1)) Int.one_pos v0 Int.one_pos (by decide) (by show 0 * v.2 ≤ v.1 * 1; omega) (by show v.1 * 1 ≤ 1 * v.2; omega) z0]
    unfold dueF
    rw [v2]
    show ((0 * 1 - 0 * v.2) * _ * z).fdiv _ = 0
    rw [show ((0 : Int) * 1 - 0 * v.2) * (mi (1, 1) (0, 1)).2 * z = 0 by rw [Int.zero_mul, Int.zero_mul, Int.sub_self, Int.zero_mul, Int.zero_mul]]
    exact Int.zero_fdiv _
end K09

set_option Elab.async false
set_option linter.all false
set_option maxRecDepth 100000
set_option maxHeartbeats 4000000
/-! K09Q: the plain law of the shares. -/
namespace K09
open PySem PySem.Spec PyProof.Rows L2 G
/-! ### the first of the greatest -/
def bestI (ls : List Nu) (L : List Nat) (c : Nat) : Nat := L.foldl (fun b k => if lt (la ls b) (la ls k) = true then k else b) c
def FM (ls : List Nu) (M : Nat → Prop) (b : Nat) : Prop := M b ∧ (∀ p, M p → lt (la ls b) (la ls p) = false) ∧ ∀ p, M p → p < b → lt (la ls p) (la ls b) = true
theorem FM.eq {ls : List Nu} {M : Nat → Prop} {b c : Nat} (h : FM ls M b) (h' : FM ls M c) : b = c := by
  rcases Nat.lt_trichotomy b c with z | z | z
  · have := h'.2.2 b h.1 z
    rw [h.2.1 c h'.1] at this
    cases this
  · exact z
  · have := h.2.2 c h'.1 z
    rw [h'.2.1 b h.1] at this
    cases this
theorem bestI_fm {ls : List Nu} (hp : ∀ k, 0 < (la ls k).2) : ∀ (L : List Nat) (c : Nat) (M : Nat → Prop), FM ls M c → L.Pairwise (· < ·) → (∀ p, M p → ∀ q ∈ L, p < q) → FM ls (fun p => M p ∨ p ∈ L) (bestI ls L c) := by
  intro L
  induction L with
  | nil =>
    intro c M h _ _
    refine ⟨.inl h.1, fun p q => ?_, fun p q l => ?_⟩
    · rcases q with q | q
      · exact h.2.1 p q
      · cases q
    · rcases q with q | q
      · exact h.2.2 p q l
      · cases q
  | cons x t ih =>
    intro c M h hL hM
    obtain ⟨h1, h2⟩ := List.pairwise_cons.mp hL
    have step : FM ls (fun p => M p ∨ p = x) (if lt (la ls c) (la ls x) = true then x else c) := by
      by_cases z : lt (la ls c) (la ls x) = true
      · rw [if_pos z]
        have z' := lt_iff.mp z
        refine ⟨.inr rfl, fun p q => ?_, fun p q l => ?_⟩
        · rcases q with q | q
          · have := lt_not.mp (h.2.1 p q)
            exact lt_not.mpr (Int.le_of_lt (lt_tr (hp c) (hp p) (hp x) this z'))
          · rw [q]; exact lt_not.mpr (Int.le_refl _)
        · rcases q with q | q
          · have := lt_not.mp (h.2.1 p q)
            exact lt_iff.mpr (lt_tr (hp c) (hp p) (hp x) this z')
          · rw [q] at l; exact absurd l (Nat.lt_irrefl _)
      · rw [if_neg z]
        refine ⟨.inl h.1, fun p q => ?_, fun p q l => ?_⟩
        · rcases q with q | q
          · exact h.2.1 p q
          · rw [q]; exact Bool.eq_false_iff.mpr z
        · rcases q with q | q
          · exact h.2.2 p q l
          · have := hM c h.1 x (by simp)
            omega
    have := ih _ _ step h2 (fun p q r hr => by
      rcases q with q | q
      · exact hM p q r (by simp [hr])
      · rw [q]; exact h1 r hr)
    show FM ls _ (bestI ls t _)
    refine ⟨?_, fun p q => this.2.1 p ?_, fun p q l => this.2.2 p ?_ l⟩
    · rcases this.1 with (q | q) | q
      · exact .inl q
      · exact .inr (by rw [q]; simp)
      · exact .inr (by simp [q])
    · rcases q with q | q
      · exact .inl (.inl q)
      · rcases List.mem_cons.mp q with q | q
        · exact .inl (.inr q)
        · exact .inr q
    · rcases q with q | q
      · exact .inl (.inl q)
      · rcases List.mem_cons.mp q with q | q
        · exact .inl (.inr q)
        · exact .inr q
theorem best_fm {ls : List Nu} (hp : ∀ k, 0 < (la ls k).2) {x : Nat} {t : List Nat} (hL : (x :: t).Pairwise (· < ·)) : FM ls (· ∈ x :: t) (bestI ls (x :: t) x) := by
  obtain ⟨h1, h2⟩ := List.pairwise_cons.mp hL
  have h0 : FM ls (· = x) x := ⟨rfl, fun p q => by rw [q]; exact lt_not.mpr (Int.le_refl _), fun p q l => by rw [q] at l; exact absurd l (Nat.lt_irrefl _)⟩
  have := bestI_fm hp t x (· = x) h0 h2 (fun p q r hr => by rw [q]; exact h1 r hr)
  have e : bestI ls (x :: t) x = bestI ls t x := by
    show bestI ls t (if _ then _ else _) = _
    rw [if_neg (by rw [lt_not.mpr (Int.le_refl _)]; decide)]
  rw [e]
  refine ⟨?_, fun p q => this.2.1 p (List.mem_cons.mp q), fun p q l => this.2.2 p (List.mem_cons.mp q) l⟩
  exact List.mem_cons.mpr this.1
/-! ### ranking -/
def rkI (ls : List Nu) : Nat → List Nat → List Nat
  | 0, _ => []
  | _ + 1, [] => []
  | n + 1, x :: t => bestI ls (x :: t) x :: rkI ls n ((x :: t).filter fun k => k != bestI ls (x :: t) x)
theorem rkI_mem {ls : List Nu} (hp : ∀ k, 0 < (la ls k).2) : ∀ (n : Nat) (L : List Nat), L.Pairwise (· < ·) → ∀ k ∈ rkI ls n L, k ∈ L := by
  intro n
  induction n with
  | zero => intro L _ k h; cases h
  | succ n ih =>
    intro L hL k h
    match L, hL, h with
    | x :: t, hL, h =>
      rcases List.mem_cons.mp h with h | h
      · rw [h]; exact (best_fm hp hL).1
      · exact (List.mem_filter.mp (ih _ (hL.filter _) k h)).1
theorem filter_len {L : List Nat} {b : Nat} (hL : L.Pairwise (· < ·)) (hb : b ∈ L) : (L.filter fun k => k != b).length + 1 = L.length := by
  induction L with
  | nil => cases hb
  | cons x t ih =>
    obtain ⟨h1, h2⟩ := List.pairwise_cons.mp hL
    by_cases e : x = b
    · subst e
      rw [List.filter_cons_of_neg (by simp)]
      have : t.filter (fun k => k != x) = t := List.filter_eq_self.mpr fun k hk => by
        have := h1 k hk
        simp
        omega
      rw [this, List.length_cons]
    · rw [List.filter_cons_of_pos (by simpa using e), List.length_cons, List.length_cons, ih h2 ((List.mem_cons.mp hb).resolve_left (fun z => e z.symm))]
theorem sh_comm (st : List Int × List Nu) : ∀ n, shLoop (n + 1) st = shLoop n (shStep st)
  | 0 => rfl
  | n + 1 => by
    show shStep (shLoop (n + 1) st) = shStep (shLoop n (shStep st))
    rw [sh_comm st n]
structure ShInv (ls : List Nu) (n : Nat) (su : List Int × List Nu) (L : List Nat) : Prop where
  l1 : su.1.length = n
  l2 : su.2.length = n
  pw : L.Pairwise (· < ·)
  lt : ∀ k ∈ L, k < n
  inn : ∀ k ∈ L, la su.2 k = la ls k
  out : ∀ k, k < n → k ∉ L → la su.2 k = (0 - 1, 1)
theorem la_set {l : List Nu} {b k : Nat} {v : Nu} (hb : b < l.length) : la (l.set b v) k = if k = b then v else la l k := by
  unfold la
  rw [List.getD_eq_getElem?_getD, List.getD_eq_getElem?_getD]
  by_cases e : k = b
  · subst e
    rw [if_pos rfl, List.getElem?_set_self hb]
    rfl
  · rw [if_neg e, List.getElem?_set_ne (Ne.symm e)]
theorem la_pos {l : List Nu} (h : ∀ v ∈ l, 0 < v.2) (k : Nat) : 0 < (la l k).2 := by
  unfold la
  rw [List.getD_eq_getElem?_getD]
  cases e : l[k]? with
  | none => exact Int.one_pos
  | some v => exact h v (List.mem_of_getElem? e)
theorem argP_best {ls : List Nu} {n : Nat} {su : List Int × List Nu} {x : Nat} {t : List Nat} (I : ShInv ls n su (x :: t)) (hp : ∀ k, 0 < (la ls k).2) (h0 : ∀ k ∈ x :: t, 0 ≤ (la ls k).1) : argP su.2 su.2.length = bestI ls (x :: t) x := by
  have hx := I.lt x (by simp)
  have hp2 : ∀ k, 0 < (la su.2 k).2 := fun k => by
    by_cases c : k < n
    · by_cases d : k ∈ x :: t
      · rw [I.inn k d]; exact hp k
      · rw [I.out k c d]; exact Int.one_pos
    · unfold la
      rw [List.getD_eq_getElem?_getD, List.getElem?_eq_none (by rw [I.l2]; omega)]
      exact Int.one_pos
  have e1 : argP su.2 su.2.length = bestI su.2 (List.range n) 0 := by
    rw [I.l2]
    rfl
  have f1 : FM su.2 (· < n) (bestI su.2 (List.range n) 0) := by
    cases n with
    | zero => omega
    | succ m =>
      have hr := List.pairwise_lt_range (n := m + 1)
      rw [List.range_succ_eq_map] at hr ⊢
      have := best_fm hp2 hr
      refine ⟨?_, fun p q => this.2.1 p ?_, fun p q l => this.2.2 p ?_ l⟩
      · have h9 := this.1
        rw [← List.range_succ_eq_map] at h9
        rw [← List.range_succ_eq_map]
        exact List.mem_range.mp h9
      · rw [← List.range_succ_eq_map]; exact List.mem_range.mpr q
      · rw [← List.range_succ_eq_map]; exact List.mem_range.mpr q
  rw [e1]
  generalize bestI su.2 (List.range n) 0 = b at *
  have hb : b ∈ x :: t := by
    by_cases d : b ∈ x :: t
    · exact d
    · exfalso
      have := f1.2.1 x hx
      rw [I.out b f1.1 d, I.inn x (by simp)] at this
      have h9 := lt_not.mp this
      have h8 := h0 x (by simp)
      have h7 := hp x
      have h6 : (la ls x).1 * 1 ≤ (0 - 1) * (la ls x).2 := h9
      omega
  refine FM.eq (M := (· ∈ x :: t)) ⟨hb, fun p q => ?_, fun p q l => ?_⟩ (best_fm hp I.pw)
  · rw [← I.inn b hb, ← I.inn p q]
    exact f1.2.1 p (I.lt p q)
  · rw [← I.inn b hb, ← I.inn p q]
    exact f1.2.2 p (I.lt p q) l
theorem sh_rank {ls : List Nu} {n : Nat} (hp : ∀ k, 0 < (la ls k).2) (h0 : ∀ k, 0 ≤ (la ls k).1) : ∀ (j : Nat) (su : List Int × List Nu) (L : List Nat), ShInv ls n su L → j ≤ L.length → ∀ k, k < n →
    (shLoop j su).1.getD k 0 = su.1.getD k 0 + (if k ∈ (rkI ls L.length L).take j then 1 else 0) := by
  intro j
  induction j with
  | zero =>
    intro su L I hj k hk
    rw [List.take_zero, if_neg (by simp)]
    show su.1.getD k 0 = _
    omega
  | succ j ih =>
    intro su L I hj k hk
    match L, I, hj with
    | x :: t, I, hj =>
      have eb := argP_best I hp fun k _ => h0 k
      have fm := best_fm hp I.pw
      rw [sh_comm, List.length_cons]
      show _ = _ + (if k ∈ (bestI ls (x :: t) x :: rkI ls t.length ((x :: t).filter fun k => k != bestI ls (x :: t) x)).take (j + 1) then 1 else 0)
      have hs : shStep su = (su.1.set (bestI ls (x :: t) x) (su.1.getD (bestI ls (x :: t) x) 0 + 1), su.2.set (bestI ls (x :: t) x) (0 - 1, 1)) := by
        unfold shStep
        rw [eb]
      generalize bestI ls (x :: t) x = b at *
      have hbn := I.lt b fm.1
      have flen := filter_len I.pw fm.1
      rw [List.length_cons] at flen
      have I2 : ShInv ls n (shStep su) ((x :: t).filter fun k => k != b) := by
        rw [hs]
        refine ⟨by rw [List.length_set]; exact I.l1, by rw [List.length_set]; exact I.l2, I.pw.filter _, fun k hk => I.lt k (List.mem_filter.mp hk).1, fun k hk => ?_, fun k hk hn => ?_⟩
        · obtain ⟨h1, h2⟩ := List.mem_filter.mp hk
          rw [la_set (by rw [I.l2]; exact hbn), if_neg (by simpa using h2)]
          exact I.inn k h1
        · rw [la_set (by rw [I.l2]; exact hbn)]
          by_cases e : k = b
          · rw [if_pos e]
          · rw [if_neg e]
            exact I.out k hk fun z => hn (List.mem_filter.mpr ⟨z, by simpa using e⟩)
      have hle : j ≤ ((x :: t).filter fun k => k != b).length := by
        rw [List.length_cons] at hj
        omega
      have := ih _ _ I2 hle k hk
      rw [this, show ((x :: t).filter fun k => k != b).length = t.length by omega, List.take_succ_cons, hs]
      have nb : b ∉ rkI ls t.length ((x :: t).filter fun k => k != b) := fun z => by
        have := (List.mem_filter.mp (rkI_mem hp _ _ (I.pw.filter _) b z)).2
        simp at this
      have get : (su.1.set b (su.1.getD b 0 + 1)).getD k 0 = if k = b then su.1.getD b 0 + 1 else su.1.getD k 0 := by
        rw [List.getD_eq_getElem?_getD]
        by_cases e : k = b
        · subst e
          rw [if_pos rfl, List.getElem?_set_self (by rw [I.l1]; exact hbn)]
          rfl
        · rw [if_neg e, List.getElem?_set_ne (Ne.symm e), List.getD_eq_getElem?_getD]
      show (su.1.set b (su.1.getD b 0 + 1)).getD k 0 + _ = _
      rw [get]
      by_cases e : k = b
      · subst e
        rw [if_pos rfl, if_neg (fun z => nb (List.mem_of_mem_take z)), if_pos (by simp)]
        omega
      · rw [if_neg e]
        have : (k ∈ b :: (rkI ls t.length ((x :: t).filter fun k => k != b)).take j) ↔ k ∈ (rkI ls t.length ((x :: t).filter fun k => k != b)).take j := by
          rw [List.mem_cons]
          exact ⟨fun z => z.resolve_left e, .inr⟩
        by_cases c : k ∈ (rkI ls t.length ((x :: t).filter fun k => k != b)).take j
        · rw [if_pos c, if_pos (this.mpr c)]
        · rw [if_neg c, if_neg (mt this.mp c)]
theorem sum_set (l : List Int) : ∀ b, b < l.length → (l.set b (l.getD b 0 + 1)).sum = l.sum + 1 := by
  induction l with
  | nil => intro b h; exact absurd h (Nat.not_lt_zero _)
  | cons x t ih =>
    intro b h
    cases b with
    | zero =>
      show (x + 1) + t.sum = x + t.sum + 1
      omega
    | succ b =>
      have := ih b (by rw [List.length_cons] at h; omega)
      show x + (t.set b (t.getD b 0 + 1)).sum = x + t.sum + 1
      omega
theorem sh_sum (st : List Int × List Nu) (h : st.1.length = st.2.length) (h0 : 0 < st.2.length) : ∀ j : Nat, (shLoop j st).1.sum = st.1.sum + (j : Int) := by
  intro j
  induction j with
  | zero => show st.1.sum = st.1.sum + ((0 : Nat) : Int); omega
  | succ j ih =>
    show (shStep (shLoop j st)).1.sum = _
    obtain ⟨a, b⟩ := sh_len st j
    unfold shStep
    have := argP_lt (shLoop j st).2 (n := (shLoop j st).2.length) (by omega) _ (Nat.le_refl _)
    rw [sum_set _ _ (by omega), ih]
    omega
/-! ### parts of a whole -/
theorem comden : ∀ (xs : List Nu), (∀ v ∈ xs, 0 < v.2) → ∃ N : Int, 0 < N ∧ ∀ v ∈ xs, ∃ a : Int, v.1 * N = a * v.2 := by
  intro xs
  induction xs with
  | nil => intro _; exact ⟨1, by decide, fun v h => nomatch h⟩
  | cons x t ih =>
    intro h
    obtain ⟨N, n0, hN⟩ := ih fun v hv => h v (by simp [hv])
    refine ⟨N * x.2, Int.mul_pos n0 (h x (by simp)), fun v hv => ?_⟩
    rcases List.mem_cons.mp hv with rfl | hv
    · exact ⟨v.1 * N, by ac_rfl⟩
    · obtain ⟨a, ha⟩ := hN v hv
      exact ⟨a * x.2, by rw [show v.1 * (N * x.2) = (v.1 * N) * x.2 by ac_rfl, ha]; ac_rfl⟩
def af (N : Int) (v : Nu) : Int := v.1 * N / v.2
theorem pl_step {T v : Nu} {N A a : Int} (T0 : 0 < T.2) (v0 : 0 < v.2) (h : T.1 * N = A * T.2) (h' : v.1 * N = a * v.2) : (pl T v).1 * N = (A + a) * (pl T v).2 ∧ 0 < (pl T v).2 := by
  obtain ⟨g, g0, e1, e2, w0, _⟩ := exE (p := T.1 * v.2 + v.1 * T.2) (w := T.2 * v.2) (Int.mul_pos T0 v0)
  have e3 : pl T v = ex (T.1 * v.2 + v.1 * T.2) (T.2 * v.2) := rfl
  rw [e3]
  generalize ex (T.1 * v.2 + v.1 * T.2) (T.2 * v.2) = m at *
  refine ⟨?_, w0⟩
  refine Int.eq_of_mul_eq_mul_left (a := g) (by omega) ?_
  rw [show g * (m.1 * N) = (g * m.1) * N by ac_rfl, show g * ((A + a) * m.2) = (A + a) * (g * m.2) by ac_rfl, ← e1, ← e2]
  rw [show (T.1 * v.2 + v.1 * T.2) * N = (T.1 * N) * v.2 + (v.1 * N) * T.2 by grind, h, h']
  grind
theorem tot_com {N : Int} : ∀ (xs : List Nu) (T : Nu) (A : Int), (∀ v ∈ xs, 0 < v.2 ∧ v.1 * N = af N v * v.2) → 0 < T.2 → T.1 * N = A * T.2 → (xs.foldl pl T).1 * N = (A + (xs.map (af N)).sum) * (xs.foldl pl T).2 ∧ 0 < (xs.foldl pl T).2 := by
  intro xs
  induction xs with
  | nil =>
    intro T A _ h0 h
    refine ⟨?_, h0⟩
    show T.1 * N = (A + 0) * T.2
    rw [Int.add_zero]
    exact h
  | cons v t ih =>
    intro T A hv h0 h
    obtain ⟨v0, va⟩ := hv v (by simp)
    obtain ⟨s1, s2⟩ := pl_step h0 v0 h va
    have := ih (pl T v) (A + af N v) (fun u hu => hv u (by simp [hu])) s2 s1
    rw [List.foldl_cons, List.map_cons, List.sum_cons, ← Int.add_assoc]
    exact this
theorem part_in {T v : Nu} {N A a w : Int} (T0 : 0 < T.2) (T1 : 0 < T.1) (v0 : 0 < v.2) (N0 : 0 < N) (h : T.1 * N = A * T.2) (h' : v.1 * N = a * v.2) : fl (shr w T v) * A ≤ a * w ∧ a * w < (fl (shr w T v) + 1) * A := by
  have w1 : 0 < v.2 * T.1 := Int.mul_pos v0 T1
  obtain ⟨g, g0, e1, e2, w0, _⟩ := exE (p := v.1 * w * T.2) (w := v.2 * T.1) w1
  have e3 : shr w T v = ex (v.1 * w * T.2) (v.2 * T.1) := rfl
  have ef : fl (shr w T v) = (v.1 * w * T.2).fdiv (v.2 * T.1) := by
    unfold fl
    rw [e3]
    generalize ex (v.1 * w * T.2) (v.2 * T.1) = m at *
    rw [e1, e2]
    exact (fdiv_scale w0 g0).symm
  obtain ⟨f1, f2⟩ := floor_le (a := v.1 * w * T.2) w1
  rw [ef]
  generalize (v.1 * w * T.2).fdiv (v.2 * T.1) = f at *
  have c0 : 0 < v.2 * T.2 := Int.mul_pos v0 T0
  constructor
  · refine Int.le_of_mul_le_mul_right (a := v.2 * T.2) ?_ c0
    have := Int.mul_le_mul_of_nonneg_right f1 (Int.le_of_lt N0)
    rw [show f * (v.2 * T.1) * N = f * v.2 * (T.1 * N) by ac_rfl, h, show v.1 * w * T.2 * N = (v.1 * N) * w * T.2 by ac_rfl, h'] at this
    grind
  · refine Int.lt_of_mul_lt_mul_right (a := v.2 * T.2) ?_ (Int.le_of_lt c0)
    have := Int.mul_lt_mul_of_pos_right f2 N0
    rw [show (f + 1) * (v.2 * T.1) * N = (f + 1) * v.2 * (T.1 * N) by ac_rfl, h, show v.1 * w * T.2 * N = (v.1 * N) * w * T.2 by ac_rfl, h'] at this
    grind
theorem sum_in {f a : Nu → Int} {A w : Int} : ∀ (xs : List Nu), (∀ v ∈ xs, f v * A ≤ a v * w ∧ a v * w < (f v + 1) * A) → (xs.map f).sum * A ≤ (xs.map a).sum * w ∧ (xs ≠ [] → (xs.map a).sum * w < ((xs.map f).sum + (xs.length : Int)) * A) := by
  intro xs
  induction xs with
  | nil =>
    intro _
    exact ⟨by show 0 * A ≤ 0 * w; rw [Int.zero_mul, Int.zero_mul]; exact Int.le_refl _, fun z => absurd rfl z⟩
  | cons v t ih =>
    intro h
    obtain ⟨h1, h2⟩ := h v (by simp)
    obtain ⟨i1, i2⟩ := ih fun u hu => h u (by simp [hu])
    rw [List.map_cons, List.map_cons, List.sum_cons, List.sum_cons, List.length_cons]
    refine ⟨by grind, fun _ => ?_⟩
    by_cases c : t = []
    · subst c
      show (a v + 0) * w < (f v + 0 + ((0 + 1 : Nat) : Int)) * A
      rw [Int.add_zero, Int.add_zero]
      exact h2
    · have := i2 c
      rw [show ((t.length + 1 : Nat) : Int) = (t.length : Int) + 1 by omega]
      grind
theorem left_in {xs : List Nu} {w : Int} (h : ∀ v ∈ xs, 0 < v.2) (hT : 0 < (totF xs).1) (hn : xs ≠ []) : 0 ≤ w - (xs.map fun v => fl (shr w (totF xs) v)).sum ∧ w - (xs.map fun v => fl (shr w (totF xs) v)).sum < (xs.length : Int) := by
  obtain ⟨N, n0, hN⟩ := comden xs h
  have ha : ∀ v ∈ xs, 0 < v.2 ∧ v.1 * N = af N v * v.2 := fun v hv => by
    obtain ⟨a, e⟩ := hN v hv
    refine ⟨h v hv, ?_⟩
    unfold af
    rw [e, Int.mul_ediv_cancel _ (by have := h v hv; omega)]
  obtain ⟨t1, t2⟩ := tot_com (N := N) xs (0, 1) 0 ha Int.one_pos (by show 0 * N = 0 * 1; omega)
  have t1 : (totF xs).1 * N = (0 + (xs.map (af N)).sum) * (totF xs).2 := t1
  have t2 : 0 < (totF xs).2 := t2
  rw [Int.zero_add] at t1
  generalize totF xs = T at *
  have A0 : 0 < (xs.map (af N)).sum := by
    have q := Int.mul_pos hT n0
    rw [t1] at q
    exact Int.pos_of_mul_pos_left q (by omega)
  obtain ⟨s1, s2⟩ := sum_in (f := fun v => fl (shr w T v)) (a := af N) (A := (xs.map (af N)).sum) (w := w) xs fun v hv => part_in t2 hT (ha v hv).1 n0 t1 (ha v hv).2
  have s2 := s2 hn
  generalize (xs.map (af N)).sum = A at *
  generalize (xs.map fun v => fl (shr w T v)).sum = F at *
  rw [Int.mul_comm A w] at s1 s2
  have k1 := Int.le_of_mul_le_mul_right s1 A0
  have k2 := Int.lt_of_mul_lt_mul_right s2 (Int.le_of_lt A0)
  omega
theorem loss_ok {s : Nu} (h : 0 < s.2) : 0 ≤ (lossF s).1 ∧ 0 < (lossF s).2 := by
  obtain ⟨g, g0, e1, e2, w0, _⟩ := exE (p := s.1 * 1 - fl s * s.2) (w := s.2 * 1) (by omega)
  have e3 : lossF s = ex (s.1 * 1 - fl s * s.2) (s.2 * 1) := rfl
  rw [e3]
  generalize ex (s.1 * 1 - fl s * s.2) (s.2 * 1) = m at *
  refine ⟨?_, w0⟩
  have := (floor_le (a := s.1) h).1
  have h0 : 0 ≤ g * m.1 := by
    rw [← e1]
    unfold fl
    omega
  exact Int.nonneg_of_mul_nonneg_right h0 g0
end K09

set_option Elab.async false
set_option linter.all false
set_option maxRecDepth 100000
set_option maxHeartbeats 4000000
namespace K09
open PySem PySem.Spec PyProof.Rows L2 G
theorem iff_ {A B : Prop} (k : B) : if false = true then A else B := (if_neg (by decide)).mpr k
theorem ite_no {c : Bool} {A B : Prop} (h : c = true) (k : B) : if (!c) = true then A else B := by rw [h]; exact (if_neg (by decide)).mpr k
theorem ite_eq {A B : Prop} {p : Prop} [Decidable p] (h : p) (k : B) : if (!decide p) = true then A else B := ite_no (decide_eq_true h) k
theorem okD_nD (v : Nu) : okD 60 (nD v) = true := rfl
theorem okDs_nD (xs : List Nu) : okDs 60 (xs.map nD) = true := okDs_of fun x hx => by
  obtain ⟨v, _, rfl⟩ := List.mem_map.mp hx
  rfl
theorem okDs_int (xs : List Int) : okDs 60 (xs.map D.int) = true := okDs_of fun x hx => by
  obtain ⟨v, _, rfl⟩ := List.mem_map.mp hx
  rfl
theorem cut_take {α : Type} (xs : List α) (n : Nat) : G.cutD xs none (some (n : Int)) = xs.take n := by
  unfold G.cutD
  rw [HT.sIx_none, HT.sIx_nat]
  show (xs.drop 0).take (min n xs.length - 0) = _
  rw [List.drop_zero, Nat.sub_zero]
  by_cases c : n ≤ xs.length
  · rw [Nat.min_eq_left c]
  · rw [Nat.min_eq_right (by omega), List.take_length, List.take_of_length_le (by omega)]
/-- the dice have been thrown, lists have been made -/
def Wk (S : DS) (q : Addr) (S' : DS) : Prop := ∃ a b d : Int, Sub (put S q (.lst [.int a, .int b, .int d])) S'
theorem Wk.at {S S' : DS} {q : Addr} (h : Wk S q S') : ∃ a b d : Int, S' q = some (.lst [.int a, .int b, .int d]) := by
  obtain ⟨a, b, d, h⟩ := h
  exact ⟨a, b, d, h q _ put_same⟩
theorem Wk.new {S S' : DS} {q l : Addr} {o : O} (h : Wk S q S') (hl : S' l = none) : Wk S q (put S' l o) := by
  obtain ⟨a, b, d, h⟩ := h
  exact ⟨a, b, d, h.trans (Sub.new hl)⟩
theorem Wk.dice {S S' : DS} {q : Addr} (h : Wk S q S') (a b d : Int) : Wk S q (put S' q (.lst [.int a, .int b, .int d])) := by
  obtain ⟨a1, b1, d1, h⟩ := h
  refine ⟨a, b, d, ?_⟩
  have := Sub.put h q (.lst [.int a, .int b, .int d])
  rw [put_put] at this
  exact this
theorem Wk.fin {S S' : DS} {q : Addr} {Q : QD} (hQ : ∀ a b d : Int, Q (.bl true) (put S q (.lst [.int a, .int b, .int d]))) (h : Wk S q S') : ∃ S0, Sub S0 S' ∧ Q (.bl true) S0 := by
  obtain ⟨a, b, d, h⟩ := h
  exact ⟨_, h, hQ a b d⟩
theorem keepN {S : DS} {a l : Addr} {o : O} {x : Option O} (h : S a = some o) (hl : S l = none) (u : O) : put S l u a = some o := keep_put h hl
def lostD (ls : List Nu) (k : Nat) : D := .tup [.int (k : Nat), nD (la ls k)]
theorem okDs_lost (ls : List Nu) (L : List Nat) : okDs 60 (L.map (lostD ls)) = true := okDs_of fun x hx => by
  obtain ⟨v, _, rfl⟩ := List.mem_map.mp hx
  rfl
theorem inD_int (k : Nat) (L : List Nat) : inD (.int (k : Int)) (L.map fun j => D.int ((j : Nat) : Int)) = decide (k ∈ L) := by
  unfold inD
  rw [List.any_map, Bool.eq_iff_iff, List.any_eq_true, decide_eq_true_iff]
  constructor
  · rintro ⟨j, hj, h⟩
    have h : ((j : Int) == (k : Int)) = true := h
    rw [beq_iff_eq] at h
    have : j = k := by omega
    rw [← this]
    exact hj
  · intro h
    exact ⟨k, h, by show ((k : Int) == (k : Int)) = true; simp⟩
theorem flat_ints (L : List Nat) : (L.map fun j => D.int ((j : Nat) : Int)).all flatD = true := by
  rw [List.all_map, List.all_eq_true]
  intro j _
  rfl

/-- what is known of the parts -/
structure PK (ys : List Nu) (w : Int) : Prop where
  bd : ∀ v ∈ ys, Bd 30 v
  nn : ∀ v ∈ ys, 0 ≤ v.1
  ne : ys ≠ []
  le : ys.length ≤ 20
  T0 : 0 < (totF ys).1
  w0 : 0 ≤ w
  w1 : w < 50
def stF0 (ys : List Nu) (w : Int) : List Int × List Nu := (ys.map fun v => fl (shr w (totF ys) v), ys.map fun v => lossF (shr w (totF ys) v))
def leftF (ys : List Nu) (w : Int) : Int := w - (stF0 ys w).1.sum
theorem PK.left {ys : List Nu} {w : Int} (h : PK ys w) : 0 ≤ leftF ys w ∧ leftF ys w < (ys.length : Int) := left_in (fun v hv => (h.bd v hv).p) h.T0 h.ne
theorem PK.Tp {ys : List Nu} {w : Int} (h : PK ys w) : Bd 621 (totF ys) := by
  have := totF_bd h.bd ys.length (Nat.le_refl _)
  rw [List.take_length] at this
  exact this.mono (by have := h.le; omega)
theorem PK.loss {ys : List Nu} {w : Int} (h : PK ys w) (k : Nat) : 0 ≤ (la (stF0 ys w).2 k).1 ∧ 0 < (la (stF0 ys w).2 k).2 := by
  unfold la stF0
  rw [List.getD_eq_getElem?_getD, List.getElem?_map]
  cases e : ys[k]? with
  | none => exact ⟨Int.le_refl _, Int.one_pos⟩
  | some v =>
    have := h.bd v (List.mem_of_getElem? e)
    exact loss_ok (exE (Int.mul_pos this.p h.T0)).choose_spec.2.2.2.1
def rankF (ys : List Nu) (w : Int) : List Nat := rkI (stF0 ys w).2 ys.length (List.range ys.length)
def dueL (ys : List Nu) (w : Int) : List Int := (shLoop (leftF ys w).toNat (stF0 ys w)).1
theorem PK.sum {ys : List Nu} {w : Int} (h : PK ys w) : (dueL ys w).sum = w := by
  obtain ⟨a, b⟩ := h.left
  have hn := List.length_pos_iff.mpr h.ne
  unfold dueL
  rw [sh_sum _ (by unfold stF0; rw [List.length_map, List.length_map]) (by unfold stF0; rw [List.length_map]; exact hn), Int.toNat_of_nonneg a]
  unfold leftF
  omega
theorem dueL_len (ys : List Nu) (w : Int) : (dueL ys w).length = ys.length := by
  unfold dueL
  rw [(sh_len _ _).1]
  unfold stF0
  rw [List.length_map]
theorem PK.due {ys : List Nu} {w : Int} (h : PK ys w) {k : Nat} (hk : k < ys.length) : (dueL ys w)[k]? = some (fl (shr w (totF ys) (ys.getD k (0, 1))) + (if k ∈ (rankF ys w).take (leftF ys w).toNat then 1 else 0)) := by
  obtain ⟨a, b⟩ := h.left
  have I : ShInv (stF0 ys w).2 ys.length (stF0 ys w) (List.range ys.length) := ⟨by unfold stF0; rw [List.length_map], by unfold stF0; rw [List.length_map], List.pairwise_lt_range, fun k hk => List.mem_range.mp hk, fun _ _ => rfl, fun k hk hn => absurd (List.mem_range.mpr hk) hn⟩
  have := sh_rank (fun k => (h.loss k).2) (fun k => (h.loss k).1) (leftF ys w).toNat _ _ I (by rw [List.length_range]; omega) k hk
  have hl : k < (dueL ys w).length := by rw [dueL_len]; exact hk
  rw [List.length_range] at this
  rw [List.getElem?_eq_getElem hl]
  have e : (dueL ys w).getD k 0 = (dueL ys w)[k] := by rw [List.getD_eq_getElem?_getD, List.getElem?_eq_getElem hl]; rfl
  have e2 : (stF0 ys w).1.getD k 0 = fl (shr w (totF ys) (ys.getD k (0, 1))) := by
    unfold stF0
    rw [List.getD_eq_getElem?_getD, List.getElem?_map, List.getD_eq_getElem?_getD, List.getElem?_eq_getElem hk]
    rfl
  rw [← e, ← e2]
  exact congrArg some this

theorem P14 {Z : Zt} {Q : QD} {E : XD} {S0 S : DS} {q : Addr} (hQ : ∀ a b d : Int, Q (.bl true) (put S0 q (.lst [.int a, .int b, .int d]))) {u1 u2 u4 u5 u6 u7 u8 u9 u11 u12 u13 u14 u15 u16 u18 u19 u20 : Option D} {l3 ld : Addr} {ys : List Nu} {w : Int} (pk : PK ys w) (hW : Wk S0 q S) (h3 : S l3 = some (.lst (ys.map nD))) (hd : S ld = some (.lst ((dueL ys w).map D.int))) :
    t__law_parts_14 Z (fin Q E) [some (.ref q), u1, u2, some (.ref l3), u4, u5, u6, u7, u8, u9, some (.int w), u11, u12, u13, u14, u15, u16, some (.ref ld), u18, u19, u20] S := by
  obtain ⟨lo, hi⟩ := pk.left
  have le := pk.le
  refine ⟨_, rfl, ⟨by decide, by decide, by decide, rfl⟩, _, rfl, _, rfl, l3, ys, w, rfl, h3, pk.bd, pk.le, by unfold Lt; have := pk.w0; have := pk.w1; omega, .inr ⟨pk.nn, pk.T0, pk.w0, List.length_pos_iff.mpr pk.ne, ?_, lo, ?_⟩⟩
  · show leftF ys w ≤ 1000
    omega
  refine fun g hg => ?_
  refine ⟨_, rfl, _, _, put_same, keep_put hd hg, okDs_int _, okDs_int _, ?_⟩
  refine ite_no (deqs_refl 60 _ (okDs_int _)) ?_
  refine ⟨_, rfl, _, keep_put hd hg, _, rfl, ?_⟩
  exact ite_eq pk.sum ((hW.new hg).fin hQ)

theorem P13 {Z : Zt} {Q : QD} {E : XD} {S0 S : DS} {q : Addr} (hQ : ∀ a b d : Int, Q (.bl true) (put S0 q (.lst [.int a, .int b, .int d]))) {u1 u2 u4 u5 u6 u7 u8 u9 u13 u14 u15 u17 u18 u19 u20 : Option D} {l3 lp lf lr : Addr} {ys : List Nu} {w : Int} (pk : PK ys w) (hW : Wk S0 q S) (h3 : S l3 = some (.lst (ys.map nD))) (hp : S lp = some (.lst ((ys.map fun v => shr w (totF ys) v).map nD))) (hf : S lf = some (.lst ((stF0 ys w).1.map D.int))) (hr : S lr = some (.lst ((rankF ys w).map fun j => D.int ((j : Nat) : Int)))) :
    t__law_parts_13 Z (fin Q E) [some (.ref q), u1, u2, some (.ref l3), u4, u5, u6, u7, u8, u9, some (.int w), some (.ref lp), some (.ref lf), u13, u14, u15, some (.ref lr), u17, u18, u19, u20] S := by
  obtain ⟨lo, hi⟩ := pk.left
  have le := pk.le
  refine ⟨_, rfl, _, hp, ?_⟩
  rw [List.length_map, List.length_map]
  refine ⟨⟨by omega, by omega⟩, by rw [rngD_len, Int.toNat_natCast, sizeLine_eq]; omega, fun i acc S' => acc = ((dueL ys w).take i).map D.int ∧ S = S', ⟨rfl, rfl⟩, fun _ _ _ _ => trivial, ?_, ?_⟩
  · rintro i d acc S' h ⟨rfl, rfl⟩
    obtain ⟨hi', hd⟩ := rngD_get h
    have hi' : i < ys.length := by omega
    have hd2 : d = .int (i : Int) := by rw [hd]; congr 1 <;> omega
    subst hd2
    have hfa : ((stF0 ys w).1.map D.int)[i]? = some (.int (fl (shr w (totF ys) (ys.getD i (0, 1))))) := by
      unfold stF0
      rw [List.getElem?_map, List.getElem?_map, List.getD_eq_getElem?_getD, List.getElem?_eq_getElem hi']
      rfl
    refine ⟨_, rfl, _, rfl, _, _, hf, G.atI_nat hfa, _, rfl, _, rfl, _, rfl, _, rfl, _, hf, ?_⟩
    refine ⟨_, hr, fun p hp' => ?_⟩
    have el : w - (stF0 ys w).1.sum = (((leftF ys w).toNat : Nat) : Int) := by rw [Int.toNat_of_nonneg lo]; rfl
    rw [el, cut_take, ← List.map_take]
    refine ⟨_, put_same, rfl, flat_ints _, ?_⟩
    rw [if_neg Bool.false_ne_true, inD_int]
    refine ⟨_, Sub.new hp', ?_, rfl⟩
    rw [List.take_succ, pk.due hi', List.map_append]
    by_cases c : i ∈ (rankF ys w).take (leftF ys w).toNat
    · rw [if_pos c, decide_eq_true c]
      rfl
    · rw [if_neg c, decide_eq_false c]
      rfl
  · rintro acc S' g ⟨rfl, rfl⟩ hg
    have e : (rngD 0 ((ys.length : Nat) : Int).toNat).length = (dueL ys w).length := by rw [rngD_len, Int.toNat_natCast, dueL_len]
    rw [e, List.take_length]
    exact P14 hQ pk (hW.new hg) (keep_put h3 hg) put_same

theorem filt1 {k b : Nat} (c : (k != b) = true) : [k].filter (fun k => k != b) = [k] := by simp [List.filter, c]
theorem filt0 {k b : Nat} (c : ¬ (k != b) = true) : [k].filter (fun k => k != b) = [] := by simp [List.filter, Bool.eq_false_iff.mpr c]
theorem lostD_lt (ls : List Nu) (a b : Nat) : decide ((la ls a).1 * (la ls b).2 < (la ls b).1 * (la ls a).2) = lt (la ls a) (la ls b) := rfl
theorem la_sz {ys : List Nu} {w : Int} (pk : PK ys w) (k : Nat) : Sz (la (stF0 ys w).2 k).1 ∧ Sz (la (stF0 ys w).2 k).2 := by
  unfold la stF0
  rw [List.getD_eq_getElem?_getD, List.getElem?_map]
  cases e : ys[k]? with
  | none => exact ⟨(show Lt 1 0 by unfold Lt; decide).sz (by decide), (show Lt 1 1 by unfold Lt; decide).sz (by decide)⟩
  | some v =>
    have hv := pk.bd v (List.mem_of_getElem? e)
    have bT := pk.Tp
    have hw : Lt 20 w := by unfold Lt; have := pk.w0; have := pk.w1; omega
    have bs : Bd 671 (shr w (totF ys) v) := ex_bd (Int.mul_pos hv.p pk.T0) (((hv.a.mul hw).mul bT.b).mono (by decide)) ((hv.b.mul bT.a).mono (by decide))
    have bf : Bd 671 (fl (shr w (totF ys) v), 1) := ⟨fdiv_lt bs.p bs.a, Int.one_pos, (show Lt 1 1 by unfold Lt; decide).mono (by decide)⟩
    have := mi_bd bs bf
    exact ⟨this.a.sz (by decide), this.b.sz (by decide)⟩
theorem bestI_take {ls : List Nu} {L : List Nat} {c i k : Nat} (h : L[i]? = some k) : bestI ls (L.take (i + 1)) c = if lt (la ls (bestI ls (L.take i) c)) (la ls k) = true then k else bestI ls (L.take i) c := by
  rw [List.take_succ, h]
  show List.foldl _ _ (L.take i ++ [k]) = _
  rw [List.foldl_append]
  rfl

theorem P12 {Z : Zt} {Q : QD} {E : XD} {S0 S : DS} {q : Addr} (hQ : ∀ a b d : Int, Q (.bl true) (put S0 q (.lst [.int a, .int b, .int d]))) {u1 u2 u4 u5 u6 u7 u8 u9 u14 u15 u17 u18 u19 u20 : Option D} {l3 lp lf ll lr : Addr} {ys : List Nu} {w : Int} (pk : PK ys w) (hW : Wk S0 q S) (h3 : S l3 = some (.lst (ys.map nD))) (hp : S lp = some (.lst ((ys.map fun v => shr w (totF ys) v).map nD))) (hf : S lf = some (.lst ((stF0 ys w).1.map D.int))) (hl : S ll = some (.lst ((List.range ys.length).map (lostD (stF0 ys w).2)))) (hr : S lr = some (.lst [])) :
    t__law_parts_12 Z (fin Q E) [some (.ref q), u1, u2, some (.ref l3), u4, u5, u6, u7, u8, u9, some (.int w), some (.ref lp), some (.ref lf), some (.ref ll), u14, u15, some (.ref lr), u17, u18, u19, u20] S := by
  have le := pk.le
  refine ⟨fun m r S' => ∃ (L R : List Nat) (ll lr : Addr) (u19 u20 : Option D), m = L.length ∧ L.length ≤ ys.length ∧ L.Pairwise (· < ·) ∧ (∀ k ∈ L, k < ys.length) ∧ R.length ≤ 20 - L.length ∧ R ++ rkI (stF0 ys w).2 L.length L = rankF ys w ∧ Wk S0 q S' ∧ S' l3 = some (.lst (ys.map nD)) ∧ S' lp = some (.lst ((ys.map fun v => shr w (totF ys) v).map nD)) ∧ S' lf = some (.lst ((stF0 ys w).1.map D.int)) ∧ S' ll = some (.lst (L.map (lostD (stF0 ys w).2))) ∧ S' lr = some (.lst (R.map fun j => D.int ((j : Nat) : Int))) ∧ r = [some (.ref q), u1, u2, some (.ref l3), u4, u5, u6, u7, u8, u9, some (.int w), some (.ref lp), some (.ref lf), some (.ref ll), u14, u15, some (.ref lr), u17, u18, u19, u20], ⟨ys.length, List.range ys.length, [], ll, lr, u19, u20, by rw [List.length_range], by rw [List.length_range]; exact Nat.le_refl _, List.pairwise_lt_range, fun k hk => List.mem_range.mp hk, by rw [List.length_range]; show 0 ≤ _; omega, by rw [List.length_range]; rfl, hW, h3, hp, hf, hl, hr, rfl⟩, ?_⟩
  clear hW h3 hp hf hl hr
  rintro m r S' ⟨L, R, ll, lr, u19, u20, rfl, hLl, hLp, hLn, hRl, hR, hW, h3, hp, hf, hl, hr, rfl⟩
  refine ⟨_, rfl, by show 0 ≤ sizeLine; decide, fun g hg => ?_⟩
  refine ⟨_, _, keep_put hl hg, put_same, okDs_lost _ _, rfl, ?_⟩
  replace hW := hW.new (o := .lst []) hg
  replace h3 := keep_put (u := .lst []) h3 hg
  replace hp := keep_put (u := .lst []) hp hg
  replace hf := keep_put (u := .lst []) hf hg
  replace hl := keep_put (u := .lst []) hl hg
  replace hr := keep_put (u := .lst []) hr hg
  generalize put S' g (.lst []) = S2 at *
  match L, hLl, hLp, hLn, hRl, hR, hl with
  | [], hLl, hLp, hLn, hRl, hR, hl =>
    refine ite_no rfl ?_
    have hR : R ++ [] = rankF ys w := hR
    rw [List.append_nil] at hR
    subst hR
    exact P13 hQ pk hW h3 hp hf hr
  | x :: t, hLl, hLp, hLn, hRl, hR, hl =>
    have fm := best_fm (fun k => (pk.loss k).2) hLp
    have hlen : t.length + 1 ≤ 20 := by rw [List.length_cons] at hLl; omega
    show if (!false) = true then _ else _
    refine (if_pos rfl).mpr ?_
    refine ⟨_, rfl, _, _, hl, at0, ?_⟩
    refine ⟨_, rfl, _, hl, fun i r S' => (∃ u20, r = [some (.ref q), u1, u2, some (.ref l3), u4, u5, u6, u7, u8, u9, some (.int w), some (.ref lp), some (.ref lf), some (.ref ll), u14, u15, some (.ref lr), u17, u18, some (lostD (stF0 ys w).2 (bestI (stF0 ys w).2 ((x :: t).take i) x)), u20]) ∧ S2 = S', ⟨⟨_, rfl⟩, rfl⟩, ?_, ?_, ?_⟩
    · rintro i r S' ⟨_, rfl⟩
      exact hl
    · rintro i d r S' hd ⟨⟨u20, rfl⟩, rfl⟩
      rw [List.getElem?_map] at hd
      cases hk : (x :: t)[i]? with
      | none => rw [hk] at hd; cases hd
      | some k =>
        rw [hk] at hd
        cases hd
        obtain ⟨a1, a2⟩ := la_sz pk (bestI (stF0 ys w).2 ((x :: t).take i) x)
        obtain ⟨b1, b2⟩ := la_sz pk k
        refine ⟨_, rfl, _, rfl, _, rfl, _, rfl, _, rfl, _, rfl, mul_sz a1 b2, _, rfl, _, rfl, _, rfl, _, rfl, _, rfl, _, rfl, mul_sz b1 a2, ?_⟩
        refine itd (fun c => ?_) (fun c => ?_)
        · refine ⟨_, rfl, _, Sub.refl _, ⟨some (lostD (stF0 ys w).2 k), ?_⟩, rfl⟩
          rw [bestI_take hk, if_pos (lt_iff.mpr c)]
          rfl
        · refine ⟨_, rfl, _, Sub.refl _, ⟨some (lostD (stF0 ys w).2 k), ?_⟩, rfl⟩
          rw [bestI_take hk, if_neg (fun z => c (lt_iff.mp z))]
          rfl
    · rintro r S' ⟨⟨u20, rfl⟩, rfl⟩
      rw [List.length_map, List.take_length]
      have hR2 : R ++ bestI (stF0 ys w).2 (x :: t) x :: rkI (stF0 ys w).2 t.length ((x :: t).filter fun k => k != bestI (stF0 ys w).2 (x :: t) x) = rankF ys w := hR
      generalize bestI (stF0 ys w).2 (x :: t) x = b at *
      have flen := filter_len hLp fm.1
      rw [List.length_cons] at flen
      refine ⟨_, rfl, _, rfl, _, rfl, by show 1 ≤ sizeLine; decide, fun p1 hp1 => ?_⟩
      refine ⟨_, _, keep_put hr hp1, put_same, by rw [List.length_map, sizeLine_eq]; show R.length + 1 ≤ _; omega, fun p2 hp2 => ?_⟩
      replace hW := (hW.new (o := .lst [.int (b : Int)]) hp1).new (o := .lst (R.map (fun j => D.int ((j : Nat) : Int)) ++ [.int (b : Int)])) hp2
      replace h3 := keep_put (u := .lst (R.map (fun j => D.int ((j : Nat) : Int)) ++ [.int (b : Int)])) (keep_put (u := .lst [.int (b : Int)]) h3 hp1) hp2
      replace hp := keep_put (u := .lst (R.map (fun j => D.int ((j : Nat) : Int)) ++ [.int (b : Int)])) (keep_put (u := .lst [.int (b : Int)]) hp hp1) hp2
      replace hf := keep_put (u := .lst (R.map (fun j => D.int ((j : Nat) : Int)) ++ [.int (b : Int)])) (keep_put (u := .lst [.int (b : Int)]) hf hp1) hp2
      replace hl := keep_put (u := .lst (R.map (fun j => D.int ((j : Nat) : Int)) ++ [.int (b : Int)])) (keep_put (u := .lst [.int (b : Int)]) hl hp1) hp2
      have hr2 : put (put S2 p1 (.lst [.int (b : Int)])) p2 (.lst (R.map (fun j => D.int ((j : Nat) : Int)) ++ [.int (b : Int)])) p2 = some (.lst (R.map (fun j => D.int ((j : Nat) : Int)) ++ [.int (b : Int)])) := put_same
      generalize put (put S2 p1 (.lst [.int (b : Int)])) p2 (.lst (R.map (fun j => D.int ((j : Nat) : Int)) ++ [.int (b : Int)])) = S3 at *
      refine ⟨_, rfl, _, hl, by rw [List.length_map, sizeLine_eq, List.length_cons]; omega, fun i acc S' => acc = (((x :: t).take i).filter fun k => k != b).map (lostD (stF0 ys w).2) ∧ S3 = S', ⟨rfl, rfl⟩, ?_, ?_, ?_⟩
      · rintro i acc S' ⟨rfl, rfl⟩
        exact hl
      · rintro i d acc S' hd ⟨rfl, rfl⟩
        rw [List.getElem?_map] at hd
        cases hk : (x :: t)[i]? with
        | none => rw [hk] at hd; cases hd
        | some k =>
          rw [hk] at hd
          cases hd
          have ef : ((x :: t).take (i + 1)).filter (fun k => k != b) = ((x :: t).take i).filter (fun k => k != b) ++ [k].filter (fun k => k != b) := by
            rw [List.take_succ, hk, List.filter_append]
            rfl
          refine ⟨_, rfl, _, rfl, _, rfl, _, rfl, ?_⟩
          refine itn (fun c => ?_) (fun c => ?_)
          · have c' : (k != b) = true := by simp; omega
            refine ⟨_, rfl, _, Sub.refl _, ?_, rfl⟩
            rw [ef, filt1 c', List.map_append]
            rfl
          · have c' : ¬ (k != b) = true := by simp; omega
            refine ⟨_, Sub.refl _, ?_, rfl⟩
            rw [ef, filt0 c', List.append_nil]
      · rintro acc S' p3 ⟨rfl, rfl⟩ hp3
        rw [List.length_map, List.take_length]
        refine ⟨i2, rfl, rfl, ?_⟩
        refine ⟨_, t.length, Sub.refl _, by rw [List.length_cons]; omega, (x :: t).filter fun k => k != b, R ++ [b], p3, p2, _, _, by omega, by rw [List.length_cons] at hLl; omega, hLp.filter _, fun k hk => hLn k (List.mem_filter.mp hk).1, ?_, ?_, hW.new hp3, keep_put h3 hp3, keep_put hp hp3, keep_put hf hp3, put_same, ?_, rfl⟩
        · rw [List.length_append, List.length_singleton]
          rw [List.length_cons] at hRl
          omega
        · rw [List.append_assoc, ← hR2, show ((x :: t).filter fun k => k != b).length = t.length by omega]
          rfl
        · rw [List.map_append]
          exact keep_put hr2 hp3

theorem P11 {Z : Zt} {Q : QD} {E : XD} {S0 S : DS} {q : Addr} (hQ : ∀ a b d : Int, Q (.bl true) (put S0 q (.lst [.int a, .int b, .int d]))) {u1 u2 u4 u5 u6 u7 u8 u9 u14 u15 u16 u17 u18 u19 u20 : Option D} {l3 lp lf ll : Addr} {ys : List Nu} {w : Int} (pk : PK ys w) (hW : Wk S0 q S) (h3 : S l3 = some (.lst (ys.map nD))) (hp : S lp = some (.lst ((ys.map fun v => shr w (totF ys) v).map nD))) (hf : S lf = some (.lst ((stF0 ys w).1.map D.int))) (hl : S ll = some (.lst ((List.range ys.length).map (lostD (stF0 ys w).2)))) :
    t__law_parts_11 Z (fin Q E) [some (.ref q), u1, u2, some (.ref l3), u4, u5, u6, u7, u8, u9, some (.int w), some (.ref lp), some (.ref lf), some (.ref ll), u14, u15, u16, u17, u18, u19, u20] S := by
  refine ⟨by show 0 ≤ sizeLine; decide, fun g hg => ?_⟩
  exact P12 hQ pk (hW.new hg) (keep_put h3 hg) (keep_put hp hg) (keep_put hf hg) (keep_put hl hg) put_same

theorem PK.bs {ys : List Nu} {w : Int} (pk : PK ys w) {v : Nu} (hm : v ∈ ys) : Bd 671 (shr w (totF ys) v) := by
  have hv := pk.bd v hm
  have bT := pk.Tp
  have hw : Lt 20 w := by unfold Lt; have := pk.w0; have := pk.w1; omega
  exact ex_bd (Int.mul_pos hv.p pk.T0) (((hv.a.mul hw).mul bT.b).mono (by decide)) ((hv.b.mul bT.a).mono (by decide))
theorem loss_ex (s : Nu) : ex (s.1 - fl s * s.2) s.2 = lossF s := by
  unfold lossF mi
  rw [Int.mul_one, Int.mul_one]
theorem la_loss {ys : List Nu} {w : Int} {i : Nat} {v : Nu} (h : ys[i]? = some v) : la (stF0 ys w).2 i = lossF (shr w (totF ys) v) := by
  unfold la stF0
  rw [List.getD_eq_getElem?_getD, List.getElem?_map, h]
  rfl

theorem P10 {Z : Zt} {Q : QD} {E : XD} {S0 S : DS} {q : Addr} (hQ : ∀ a b d : Int, Q (.bl true) (put S0 q (.lst [.int a, .int b, .int d]))) {u1 u2 u4 u5 u6 u7 u8 u9 u14 u15 u16 u17 u18 u19 u20 : Option D} {l3 lp lf ll : Addr} {ys : List Nu} {w : Int} (pk : PK ys w) (hW : Wk S0 q S) (h3 : S l3 = some (.lst (ys.map nD))) (hp : S lp = some (.lst ((ys.map fun v => shr w (totF ys) v).map nD))) (hf : S lf = some (.lst ((stF0 ys w).1.map D.int))) (hl : S ll = some (.lst [])) :
    t__law_parts_10 Z (fin Q E) [some (.ref q), u1, u2, some (.ref l3), u4, u5, u6, u7, u8, u9, some (.int w), some (.ref lp), some (.ref lf), some (.ref ll), u14, u15, u16, u17, u18, u19, u20] S := by
  have le := pk.le
  refine ⟨_, rfl, _, (show SideD S (.ref lp) _ from hp), ?_⟩
  refine ⟨fun i r S' => ∃ (ll : Addr) (u14 u15 : Option D), Wk S0 q S' ∧ S' l3 = some (.lst (ys.map nD)) ∧ S' lp = some (.lst ((ys.map fun v => shr w (totF ys) v).map nD)) ∧ S' lf = some (.lst ((stF0 ys w).1.map D.int)) ∧ S' ll = some (.lst ((List.range i).map (lostD (stF0 ys w).2))) ∧ r = [some (.ref q), u1, u2, some (.ref l3), u4, u5, u6, u7, u8, u9, some (.int w), some (.ref lp), some (.ref lf), some (.ref ll), u14, u15, u16, u17, u18, u19, u20], ⟨ll, u14, u15, hW, h3, hp, hf, hl, rfl⟩, ?_, ?_, ?_⟩
  · rintro i r S' ⟨ll, u14, u15, hW, h3, hp, hf, hl, rfl⟩
    exact hp
  · rintro i d r S' hd ⟨ll, u14, u15, hW, h3, hp, hf, hl, rfl⟩
    obtain ⟨e, he, rfl⟩ := numD_at hd
    rw [List.getElem?_map, List.getElem?_map] at he
    cases hv : ys[i]? with
    | none => rw [hv] at he; cases he
    | some v =>
      rw [hv] at he
      cases he
      have hm := List.mem_of_getElem? hv
      have hi := (List.getElem?_eq_some_iff.mp hv).1
      have bs := pk.bs hm
      have bf : Lt 671 (fl (shr w (totF ys) v)) := fdiv_lt bs.p bs.a
      have hfa : ((stF0 ys w).1.map D.int)[i]? = some (.int (fl (shr w (totF ys) v))) := by
        unfold stF0
        rw [List.getElem?_map, List.getElem?_map, hv]
        rfl
      have sp := bs.p
      refine ⟨rfl, rfl, ?_⟩
      refine ⟨_, rfl, _, rfl, _, rfl, ⟨by decide, by decide, by decide, rfl⟩, _, rfl, _, rfl, _, rfl, _, rfl, _, _, hf, G.atI_nat hfa, _, rfl, _, rfl, mul_sz (bf.sz (by decide)) (bs.b.sz (by decide)), _, rfl, _, rfl, (shr w (totF ys) v).1 - fl (shr w (totF ys) v) * (shr w (totF ys) v).2, (shr w (totF ys) v).2, rfl, by omega, (((bs.a.mono (by decide)).sub (bf.mul bs.b))).sz (by decide), bs.b.sz (by decide), fun z => absurd z (by omega), i2, by show 1 ≤ sizeLine; decide, fun g hg => ?_⟩
      rw [loss_ex]
      refine ⟨_, _, keep_put hl hg, put_same, by rw [List.length_map, List.length_range, sizeLine_eq]; show i + 1 ≤ _; omega, fun g2 hg2 => ?_⟩
      refine ⟨_, Sub.refl _, g2, _, _, (hW.new hg).new hg2, keep_put (keep_put h3 hg) hg2, keep_put (keep_put hp hg) hg2, keep_put (keep_put hf hg) hg2, ?_, rfl⟩
      rw [put_same, List.range_succ, List.map_append]
      unfold lostD
      rw [List.map_singleton, la_loss hv]
  · rintro r S' ⟨ll, u14, u15, hW, h3, hp, hf, hl, rfl⟩
    rw [numD_len, List.length_map, List.length_map] at hl
    exact P11 hQ pk hW h3 hp hf hl

theorem P9 {Z : Zt} {Q : QD} {E : XD} {S0 S : DS} {q : Addr} (hQ : ∀ a b d : Int, Q (.bl true) (put S0 q (.lst [.int a, .int b, .int d]))) {u1 u2 u4 u5 u6 u7 u8 u9 u12 u13 u14 u15 u16 u17 u18 u19 u20 : Option D} {l3 lp : Addr} {ys : List Nu} {w : Int} (pk : PK ys w) (hW : Wk S0 q S) (h3 : S l3 = some (.lst (ys.map nD))) (hp : S lp = some (.lst ((ys.map fun v => shr w (totF ys) v).map nD)))  :
    t__law_parts_9 Z (fin Q E) [some (.ref q), u1, u2, some (.ref l3), u4, u5, u6, u7, u8, u9, some (.int w), some (.ref lp), u12, u13, u14, u15, u16, u17, u18, u19, u20] S := by
  have le := pk.le
  refine ⟨_, rfl, _, hp, by rw [List.length_map, List.length_map, sizeLine_eq]; omega, fun i acc S' => acc = ((ys.take i).map fun v => fl (shr w (totF ys) v)).map D.int ∧ S = S', ⟨rfl, rfl⟩, ?_, ?_, ?_⟩
  · rintro i acc S' ⟨rfl, rfl⟩
    exact hp
  · rintro i d acc S' hd ⟨rfl, rfl⟩
    rw [List.getElem?_map, List.getElem?_map] at hd
    cases hv : ys[i]? with
    | none => rw [hv] at hd; cases hd
    | some v =>
      rw [hv] at hd
      cases hd
      have bs := pk.bs (List.mem_of_getElem? hv)
      refine ⟨_, rfl, _, rfl, _, rfl, _, rfl, div_pos bs.p (bs.b.sz (by decide)), ?_⟩
      exact ⟨_, Sub.refl _, by rw [take_snoc (fun v => fl (shr w (totF ys) v)) hv, List.map_append] <;> rfl, rfl⟩
  · rintro acc S' g ⟨rfl, rfl⟩ hg
    rw [List.length_map, List.length_map, List.take_length]
    refine ⟨by show 0 ≤ sizeLine; decide, fun g2 hg2 => ⟨i2, rfl, rfl, ?_⟩⟩
    exact P10 hQ pk ((hW.new hg).new hg2) (keep_put (keep_put h3 hg) hg2) (keep_put (keep_put hp hg) hg2) (keep_put put_same hg2) put_same

theorem P8 {Z : Zt} {Q : QD} {E : XD} {S0 S : DS} {q : Addr} (hQ : ∀ a b d : Int, Q (.bl true) (put S0 q (.lst [.int a, .int b, .int d]))) {u1 u2 u4 u5 u6 u7 u8 u11 u12 u13 u14 u15 u16 u17 u18 u19 u20 : Option D} {l3 : Addr} {ys : List Nu} {w : Int} (pk : PK ys w) (hW : Wk S0 q S) (h3 : S l3 = some (.lst (ys.map nD)))  :
    t__law_parts_8 Z (fin Q E) [some (.ref q), u1, u2, some (.ref l3), u4, u5, u6, u7, u8, some (nD (totF ys)), some (.int w), u11, u12, u13, u14, u15, u16, u17, u18, u19, u20] S := by
  have le := pk.le
  have bT := pk.Tp
  have hw : Lt 20 w := by unfold Lt; have := pk.w0; have := pk.w1; omega
  refine ⟨_, rfl, _, h3, by rw [List.length_map, sizeLine_eq]; omega, fun i acc S' => acc = ((ys.take i).map fun v => shr w (totF ys) v).map nD ∧ S = S', ⟨rfl, rfl⟩, ?_, ?_, ?_⟩
  · rintro i acc S' ⟨rfl, rfl⟩
    exact h3
  · rintro i d acc S' hd ⟨rfl, rfl⟩
    rw [List.getElem?_map] at hd
    cases hv : ys[i]? with
    | none => rw [hv] at hd; cases hd
    | some v =>
      rw [hv] at hd
      cases hd
      have bv := pk.bd v (List.mem_of_getElem? hv)
      have w1 : 0 < v.2 * (totF ys).1 := Int.mul_pos bv.p pk.T0
      refine ⟨_, rfl, ⟨by decide, by decide, by decide, rfl⟩, _, rfl, _, rfl, _, rfl, mul_sz (bv.a.sz (by decide)) (hw.sz (by decide)), _, rfl, _, rfl, mul_sz ((bv.a.mul hw).sz (by decide)) (bT.b.sz (by decide)), _, rfl, _, rfl, _, rfl, _, rfl, mul_sz (bv.b.sz (by decide)) (bT.a.sz (by decide)), v.1 * w * (totF ys).2, v.2 * (totF ys).1, rfl, by omega, ((bv.a.mul hw).mul bT.b).sz (by decide), (bv.b.mul bT.a).sz (by decide), fun z => absurd z (by omega), ?_⟩
      exact ⟨_, Sub.refl _, by rw [take_snoc (fun v => shr w (totF ys) v) hv, List.map_append] <;> rfl, rfl⟩
  · rintro acc S' g ⟨rfl, rfl⟩ hg
    rw [List.length_map, List.take_length]
    exact P9 hQ pk (hW.new hg) (keep_put h3 hg) put_same

theorem totF_nn {ys : List Nu} (hb : ∀ v ∈ ys, 0 < v.2) (h : ∀ v ∈ ys, 0 ≤ v.1) : 0 ≤ (totF ys).1 := by
  have key : ∀ (l : List Nu) (T : Nu), (∀ v ∈ l, 0 < v.2 ∧ 0 ≤ v.1) → 0 < T.2 → 0 ≤ T.1 → 0 ≤ (l.foldl pl T).1 := by
    intro l
    induction l with
    | nil => intro T _ _ h; exact h
    | cons v l ih =>
      intro T hv h0 h1
      obtain ⟨v0, v1⟩ := hv v (by simp)
      obtain ⟨g, g0, e1, e2, w0, _⟩ := exE (p := T.1 * v.2 + v.1 * T.2) (w := T.2 * v.2) (Int.mul_pos h0 v0)
      refine ih (pl T v) (fun u hu => hv u (by simp [hu])) w0 ?_
      have q : 0 ≤ T.1 * v.2 + v.1 * T.2 := Int.add_nonneg (Int.mul_nonneg h1 (Int.le_of_lt v0)) (Int.mul_nonneg v1 (Int.le_of_lt h0))
      rw [e1] at q
      exact Int.nonneg_of_mul_nonneg_right q g0
  exact key ys (0, 1) (fun v hv => ⟨hb v hv, h v hv⟩) Int.one_pos (Int.le_refl _)
/-- what is known of the plain numbers -/
structure PB (ys : List Nu) : Prop where
  bd : ∀ v ∈ ys, Bd 30 v
  nn : ∀ v ∈ ys, 0 ≤ v.1
  ne : ys ≠ []
  le : ys.length ≤ 20

theorem P7 {Z : Zt} {Q : QD} {E : XD} {S0 S : DS} {q : Addr} (hQ : ∀ a b d : Int, Q (.bl true) (put S0 q (.lst [.int a, .int b, .int d]))) {u1 u2 u4 u5 u6 u7 u8 u11 u12 u13 u14 u15 u16 u17 u18 u19 u20 : Option D} {l3 : Addr} {ys : List Nu} {w : Int} (pb : PB ys) (w0 : 0 ≤ w) (w1 : w < 50) (hW : Wk S0 q S) (h3 : S l3 = some (.lst (ys.map nD)))  :
    t__law_parts_7 Z (fin Q E) [some (.ref q), u1, u2, some (.ref l3), u4, u5, u6, u7, u8, some (nD (totF ys)), some (.int w), u11, u12, u13, u14, u15, u16, u17, u18, u19, u20] S := by
  refine ⟨_, rfl, _, rfl, ?_⟩
  refine itd (fun c => ?_) (fun c => ?_)
  · exact hW.fin hQ
  · have := totF_nn (fun v hv => (pb.bd v hv).p) pb.nn
    have c' : (totF ys).1 ≠ 0 := c
    exact P8 hQ ⟨pb.bd, pb.nn, pb.ne, pb.le, by omega, w0, w1⟩ hW h3

theorem P6 {Z : Zt} {Q : QD} {E : XD} {S0 S : DS} {q : Addr} (hQ : ∀ a b d : Int, Q (.bl true) (put S0 q (.lst [.int a, .int b, .int d]))) {u1 u2 u4 u5 u6 u7 u8 u11 u12 u13 u14 u15 u16 u17 u18 u19 u20 : Option D} {l3 : Addr} {ys : List Nu} {w : Int} (pb : PB ys) (w0 : 0 ≤ w) (w1 : w < 50) (hW : Wk S0 q S) (h3 : S l3 = some (.lst (ys.map nD)))  :
    t__law_parts_6 Z (fin Q E) [some (.ref q), u1, u2, some (.ref l3), u4, u5, u6, u7, u8, some (nD (0, 1)), some (.int w), u11, u12, u13, u14, u15, u16, u17, u18, u19, u20] S := by
  have le := pb.le
  refine ⟨_, rfl, _, h3, fun i r S' => (∃ u8, r = [some (.ref q), u1, u2, some (.ref l3), u4, u5, u6, u7, u8, some (nD (totF (ys.take i))), some (.int w), u11, u12, u13, u14, u15, u16, u17, u18, u19, u20]) ∧ S = S', ⟨⟨u8, rfl⟩, rfl⟩, ?_, ?_, ?_⟩
  · rintro i r S' ⟨_, rfl⟩
    exact h3
  · rintro i d r S' hd ⟨⟨u8, rfl⟩, rfl⟩
    rw [List.getElem?_map] at hd
    cases hv : ys[i]? with
    | none => rw [hv] at hd; cases hd
    | some v =>
      rw [hv] at hd
      cases hd
      have hi := (List.getElem?_eq_some_iff.mp hv).1
      have bT := (totF_bd pb.bd i (by omega)).mono (show 1 + 31 * i ≤ 621 by omega)
      have bv := pb.bd v (List.mem_of_getElem? hv)
      have w2 := Int.mul_pos bT.p bv.p
      refine ⟨_, rfl, ⟨by decide, by decide, by decide, rfl⟩, _, rfl, _, rfl, _, rfl, _, rfl, mul_sz (bT.a.sz (by decide)) (bv.b.sz (by decide)), _, rfl, _, rfl, _, rfl, _, rfl, mul_sz (bv.a.sz (by decide)) (bT.b.sz (by decide)), _, rfl, _, rfl, _, rfl, _, rfl, mul_sz (bT.b.sz (by decide)) (bv.b.sz (by decide)), (totF (ys.take i)).1 * v.2 + v.1 * (totF (ys.take i)).2, (totF (ys.take i)).2 * v.2, rfl, by omega, ((bT.a.mul bv.b).add ((bv.a.mul bT.b).mono (by decide))).sz (by decide), (bT.b.mul bv.b).sz (by decide), fun z => absurd z (by omega), ?_⟩
      exact ⟨_, Sub.refl _, ⟨some (nD v), by rw [totF_take hv] <;> rfl⟩, rfl⟩
  · rintro r S' ⟨⟨u8, rfl⟩, rfl⟩
    rw [List.length_map, List.take_length]
    exact P7 hQ pb w0 w1 hW h3

theorem ne_q {S : DS} {q l : Addr} {a b d : Int} {ys : List Nu} (hq : S q = some (.lst [.int a, .int b, .int d])) (h : S l = some (.lst (ys.map nD))) (hn : ys ≠ []) : l ≠ q := by
  intro e
  rw [e, hq] at h
  match ys, hn, h with
  | y :: t, _, h =>
    have h := Option.some.inj h
    injection h with h
    injection h with h _
    cases h

theorem P5 {Z : Zt} {Q : QD} {E : XD} {S0 S : DS} {q : Addr} (hQ : ∀ a b d : Int, Q (.bl true) (put S0 q (.lst [.int a, .int b, .int d]))) {u1 u2 u4 u5 u6 u7 u8 u9 u10 u11 u12 u13 u14 u15 u16 u17 u18 u19 u20 : Option D} {l3 : Addr} {ys : List Nu} (pb : PB ys) (hW : Wk S0 q S) (h3 : S l3 = some (.lst (ys.map nD)))  :
    t__law_parts_5 Z (fin Q E) [some (.ref q), u1, u2, some (.ref l3), u4, u5, u6, u7, u8, u9, u10, u11, u12, u13, u14, u15, u16, u17, u18, u19, u20] S := by
  obtain ⟨a, b, d, hq⟩ := hW.at
  have n3 := ne_q hq h3 pb.ne
  refine ⟨i2, _, rfl, ⟨by decide, by decide, by decide, rfl⟩, _, rfl, q, 50, a, b, d, rfl, by decide, by decide, hq, fun v a b d v0 v1 => ?_⟩
  refine ⟨i2, rfl, rfl, ?_⟩
  exact P6 hQ pb v0 v1 (hW.dice a b d) (by rw [put_ne n3]; exact h3)

/-- labels of one sign -/
structure LB (ls : List (List Nat)) (n : Nat) : Prop where
  len : ls.length = n
  le : ∀ l ∈ ls, l.length ≤ 1000
  ok : ∀ l ∈ ls, ∀ c ∈ l, c < 1114112
theorem strOk_mk {l : List Nat} (h : ∀ c ∈ l, c < 1114112) : PyData.strOk ⟨l.toArray⟩ = true := by
  show l.toArray.all (· < 0x110000) = true
  rw [List.all_toArray, List.all_eq_true]
  intro c hc
  exact decide_eq_true (h c hc)
theorem okDs_lines {ls : List (List Nat)} {n : Nat} (h : LB ls n) (xs : List Nu) (top : Nu) (w : Nat) (z : Int) : okDs 60 (linesF ls xs top w z) = true := okDs_of fun x hx => by
  unfold linesF at hx
  obtain ⟨i, hi, e⟩ := List.getElem_of_mem hx
  have e2 := List.getElem?_eq_getElem hi
  rw [List.getElem?_zipWith] at e2
  cases hl : ls[i]? with
  | none => rw [hl] at e2; cases e2
  | some l =>
    cases hv : xs[i]? with
    | none => rw [hl, hv] at e2; cases e2
    | some v =>
      rw [hl, hv] at e2
      have e3 : sD (lineF l w (hgt (0, 1) top z v)) = x := by rw [← e]; exact Option.some.inj e2
      rw [← e3]
      refine strOk_mk fun c hc => ?_
      unfold lineF at hc
      rw [List.mem_append, List.mem_append, List.mem_append] at hc
      rcases hc with ((hc | hc) | hc) | hc
      · exact h.ok l (List.mem_of_getElem? hl) c hc
      · rw [List.eq_of_mem_replicate hc]; decide
      · rw [List.mem_singleton.mp hc]; decide
      · rw [List.eq_of_mem_replicate hc]; decide
theorem maxLen : ∀ (ls : List (List Nat)), ls ≠ [] → ∃ w : Nat, w ∈ ls.map List.length ∧ ∀ l ∈ ls, l.length ≤ w := by
  intro ls
  induction ls with
  | nil => intro h; exact absurd rfl h
  | cons x t ih =>
    intro _
    by_cases c : t = []
    · subst c
      exact ⟨x.length, by simp, fun l hl => by rw [List.mem_singleton.mp hl]; exact Nat.le_refl _⟩
    · obtain ⟨w, h1, h2⟩ := ih c
      by_cases d : x.length ≤ w
      · refine ⟨w, by simp [List.mem_map.mp h1], fun l hl => ?_⟩
        rcases List.mem_cons.mp hl with rfl | hl
        · exact d
        · exact h2 l hl
      · refine ⟨x.length, by simp, fun l hl => ?_⟩
        rcases List.mem_cons.mp hl with rfl | hl
        · exact Nat.le_refl _
        · have := h2 l hl
          omega
theorem maxLen_eq {ls : List (List Nat)} {w w' : Nat} (h1 : w ∈ ls.map List.length) (h2 : ∀ l ∈ ls, l.length ≤ w) (h1' : w' ∈ ls.map List.length) (h2' : ∀ l ∈ ls, l.length ≤ w') : w' = w := by
  obtain ⟨a, ha, rfl⟩ := List.mem_map.mp h1
  obtain ⟨b, hb, rfl⟩ := List.mem_map.mp h1'
  have := h2 b hb
  have := h2' a ha
  omega
def hdF (ys : List Nu) : Nu := ys.headD (0, 1)
theorem hdF_mem {ys : List Nu} (h : ys ≠ []) : hdF ys ∈ ys := by
  match ys, h with
  | y :: t, _ => exact List.mem_cons_self

theorem P4 {Z : Zt} {Q : QD} {E : XD} {S0 S : DS} {q : Addr} (hQ : ∀ a b d : Int, Q (.bl true) (put S0 q (.lst [.int a, .int b, .int d]))) {u1 u5 u7 u8 u9 u10 u11 u12 u13 u14 u15 u16 u17 u18 u19 u20 : Option D} {l3 l4 l6 : Addr} {ys : List Nu} {ls : List (List Nat)} {wd : Nat} {z : Int} (pb : PB ys) (lb : LB ls ys.length) (z1 : 1 ≤ z) (z2 : z ≤ 200) (hw1 : wd ∈ ls.map List.length) (hw2 : ∀ l ∈ ls, l.length ≤ wd) (hW : Wk S0 q S) (h3 : S l3 = some (.lst (ys.map nD))) (h4 : S l4 = some (.lst (ls.map sD))) (h6 : S l6 = some (.lst (linesF ls ys (topF (lgF (hdF ys) ys)) wd z))) :
    t__law_parts_4 Z (fin Q E) [some (.ref q), u1, some (.int z), some (.ref l3), some (.ref l4), u5, some (.ref l6), u7, u8, u9, u10, u11, u12, u13, u14, u15, u16, u17, u18, u19, u20] S := by
  have le := pb.le
  refine ⟨_, rfl, ⟨by decide, by decide, by decide, rfl⟩, _, rfl, _, rfl, _, rfl, l4, l3, ls, ys, z, rfl, h4, h3, .inr ⟨lb.len, pb.nn, fun v hv => (pb.bd v hv).mono (by decide), lb.le, by omega, z1, z2, ?_⟩⟩
  match ys, pb, lb, h3, h6 with
  | [], pb, _, _, _ => exact absurd rfl pb.ne
  | y :: t, pb, lb, h3, h6 =>
    refine ⟨y, t, rfl, fun w' a1 a2 => ?_⟩
    rw [maxLen_eq hw1 hw2 a1 a2]
    refine fun g hg => ?_
    refine ⟨_, rfl, _, _, put_same, keep_put h6 hg, okDs_lines lb _ _ _ _, okDs_lines lb _ _ _ _, ?_⟩
    exact ite_no (deqs_refl 60 _ (okDs_lines lb _ _ _ _)) (P5 hQ pb (hW.new hg) (keep_put h3 hg))

theorem P3 {Z : Zt} {Q : QD} {E : XD} {S0 S : DS} {q : Addr} (hQ : ∀ a b d : Int, Q (.bl true) (put S0 q (.lst [.int a, .int b, .int d]))) {u1 u7 u8 u9 u10 u11 u12 u13 u14 u15 u16 u17 u18 u19 u20 : Option D} {l3 l4 l6 : Addr} {ys : List Nu} {ls : List (List Nat)} {wd : Nat} {z : Int} (pb : PB ys) (lb : LB ls ys.length) (z1 : 1 ≤ z) (z2 : z ≤ 200) (hw1 : wd ∈ ls.map List.length) (hw2 : ∀ l ∈ ls, l.length ≤ wd) (hW : Wk S0 q S) (h3 : S l3 = some (.lst (ys.map nD))) (h4 : S l4 = some (.lst (ls.map sD))) (h6 : S l6 = some (.lst [])) :
    t__law_parts_3 Z (fin Q E) [some (.ref q), u1, some (.int z), some (.ref l3), some (.ref l4), some (nD (lgF (hdF ys) ys)), some (.ref l6), u7, u8, u9, u10, u11, u12, u13, u14, u15, u16, u17, u18, u19, u20] S := by
  have le := pb.le
  have ll := lb.len
  refine ⟨_, rfl, _, rfl, ls.map sD, ys.map nD, h4, h3, ?_⟩
  refine ⟨fun i r S' => ∃ (l6 : Addr) (u7 u8 u18 u20 : Option D), Wk S0 q S' ∧ S' l3 = some (.lst (ys.map nD)) ∧ S' l4 = some (.lst (ls.map sD)) ∧ S' l6 = some (.lst ((linesF ls ys (topF (lgF (hdF ys) ys)) wd z).take i)) ∧ r = [some (.ref q), u1, some (.int z), some (.ref l3), some (.ref l4), some (nD (lgF (hdF ys) ys)), some (.ref l6), u7, u8, u9, u10, u11, u12, u13, u14, u15, u16, u17, u18, u19, u20], ⟨l6, u7, u8, u18, u20, hW, h3, h4, h6, rfl⟩, ?_, ?_, ?_⟩
  · rintro i r S' ⟨l6, u7, u8, u18, u20, hW, h3, h4, h6, rfl⟩
    exact ⟨h4, h3⟩
  · rintro i d r S' hd ⟨l6, u7, u8, u18, u20, hW, h3, h4, h6, rfl⟩
    obtain ⟨a, b, ha, hb', rfl⟩ := zipD_at hd
    rw [List.getElem?_map] at ha hb'
    cases hl : ls[i]? with
    | none => rw [hl] at ha; cases ha
    | some l =>
      cases hv : ys[i]? with
      | none => rw [hv] at hb'; cases hb'
      | some v =>
        rw [hl] at ha
        rw [hv] at hb'
        cases ha
        cases hb'
        have hvm := List.mem_of_getElem? hv
        have hlm := List.mem_of_getElem? hl
        have bv := pb.bd v hvm
        have bm : Bd 30 (lgF (hdF ys) ys) := lgF_bd (pb.bd _ (hdF_mem pb.ne)) pb.bd
        have mge := (lgF_ge ys (hdF ys) (pb.bd _ (hdF_mem pb.ne)).p (fun u hu => (pb.bd u hu).p)).2 v hvm
        have mnn : 0 ≤ (lgF (hdF ys) ys).1 := by
          rcases lgF_mem (hdF ys) ys with e | e
          · rw [e]; exact pb.nn _ (hdF_mem pb.ne)
          · exact pb.nn _ e
        have pe := place_eq (z := z) bv.p (pb.nn v hvm) bm.p mnn mge (by omega)
        have hin := hgt_in (lo := (0, 1)) (hi := (topF (lgF (hdF ys) ys))) (v := v) (z := z) (by omega)
        have hi := (List.getElem?_eq_some_iff.mp hv).1
        have tail : ∀ (D1 : EndsD), (∀ g : Addr, ∀ (S2 : DS), Wk S0 q S2 → S2 l3 = some (.lst (ys.map nD)) → S2 l4 = some (.lst (ls.map sD)) → S2 g = some (.lst ((linesF ls ys (topF (lgF (hdF ys) ys)) wd z).take (i + 1))) → D1.nx [some (.ref q), u1, some (.int z), some (.ref l3), some (.ref l4), some (nD (lgF (hdF ys) ys)), some (.ref g), some (sD l), some (nD v), u9, u10, u11, u12, u13, u14, u15, u16, u17, some (.int (placeF (lgF (hdF ys) ys) z v)), u19, u20] S2) → t__law_parts_3_1 Z D1 [some (.ref q), u1, some (.int z), some (.ref l3), some (.ref l4), some (nD (lgF (hdF ys) ys)), some (.ref l6), some (sD l), some (nD v), u9, u10, u11, u12, u13, u14, u15, u16, u17, some (.int (placeF (lgF (hdF ys) ys) z v)), u19, u20] S' := fun D1 hD1 => by
          have lel := lb.le l hlm
          have lew : wd ≤ 1000 := by
            obtain ⟨l', hl', rfl⟩ := List.mem_map.mp hw1
            exact lb.le l' hl'
          have esp : (" " : Str) = ⟨[32].toArray⟩ := rfl
          have esh : ("#" : Str) = ⟨[35].toArray⟩ := rfl
          refine ⟨_, rfl, _, rfl, _, rfl, _, h4, by rw [List.length_map, sizeLine_eq]; omega, fun j acc S'' => acc = ((ls.take j).map fun l => ((l.length : Nat) : Int)).map D.int ∧ S' = S'', ⟨rfl, rfl⟩, ?_, ?_, ?_⟩
          · rintro j acc S'' ⟨rfl, rfl⟩
            exact h4
          · rintro j d acc S'' hd ⟨rfl, rfl⟩
            rw [List.getElem?_map] at hd
            cases hk : ls[j]? with
            | none => rw [hk] at hd; cases hd
            | some k =>
              rw [hk] at hd
              cases hd
              have := lb.le k (List.mem_of_getElem? hk)
              refine ⟨_, rfl, sh (by omega), ?_⟩
              rw [len_mk]
              exact ⟨_, Sub.refl _, by rw [take_snoc (fun l : List Nat => ((l.length : Nat) : Int)) hk, List.map_append] <;> rfl, rfl⟩
          · rintro acc S'' g ⟨rfl, rfl⟩ hg
            rw [List.length_map, List.take_length]
            refine ⟨_, put_same, ?_, fun m hm hy => ?_⟩
            · intro e
              have e := List.map_eq_nil_iff.mp e
              rw [e] at hl
              cases hl
            obtain ⟨l', hl', rfl⟩ := List.mem_map.mp hm
            have hmw : l'.length = wd := by
              have q1 := hw2 l' hl'
              obtain ⟨l2, hl2, e2⟩ := List.mem_map.mp hw1
              have q2 := hy ((l2.length : Nat) : Int) (List.mem_map.mpr ⟨l2, hl2, rfl⟩)
              omega
            rw [hmw]
            have lelw := hw2 l hlm
            refine ⟨_, rfl, sh (by omega), ?_⟩
            rw [len_mk, esp, esh]
            refine ⟨rep1_ok (by omega), ?_⟩
            rw [rep1]
            refine ⟨sh2 (by rw [List.length_replicate]; omega), ?_⟩
            rw [cat_mk]
            refine ⟨sh2 (by rw [List.length_append, List.length_replicate, List.length_singleton]; omega), ?_⟩
            rw [cat_mk]
            rw [pe] at hin
            refine ⟨_, rfl, rep1_ok (by omega), ?_⟩
            rw [rep1]
            refine ⟨sh2 (by rw [List.length_append, List.length_append, List.length_replicate, List.length_replicate, List.length_singleton]; omega), ?_⟩
            rw [cat_mk]
            refine ⟨by show 1 ≤ sizeLine; decide, fun g2 hg2 => ?_⟩
            refine ⟨_, _, keep_put (keep_put h6 hg) hg2, put_same, by rw [List.length_take, sizeLine_eq]; show _ + 1 ≤ _; omega, fun g3 hg3 => ?_⟩
            refine hD1 g3 _ (((hW.new hg).new hg2).new hg3) (keep_put (keep_put (keep_put h3 hg) hg2) hg3) (keep_put (keep_put (keep_put h4 hg) hg2) hg3) ?_
            rw [put_same, List.take_succ]
            unfold linesF
            rw [List.getElem?_zipWith, hl, hv]
            unfold lineF
            rw [← pe, show ((wd : Int) - (l.length : Int)).toNat = wd - l.length by omega]
            rfl
        refine ⟨rfl, rfl, ?_⟩
        refine ⟨_, rfl, _, rfl, ?_⟩
        unfold placeF at tail
        refine itd (fun c => ?_) (fun c => ?_)
        · have c' : 0 < (lgF (hdF ys) ys).1 := c
          rw [if_pos c'] at tail
          have bz : Lt 100 z := by unfold Lt; omega
          refine ⟨_, rfl, _, rfl, _, rfl, _, rfl, mul_sz (bv.a.sz (by decide)) (bm.b.sz (by decide)), _, rfl, mul_sz ((bv.a.mul bm.b).sz (by decide)) (bz.sz (by decide)), _, rfl, _, rfl, _, rfl, _, rfl, mul_sz (bv.b.sz (by decide)) (bm.a.sz (by decide)), div_pos (Int.mul_pos bv.p c') ((bv.b.mul bm.a).sz (by decide)), ?_⟩
          exact tail _ fun g S2 a1 a2 a3 a4 => ⟨_, Sub.refl _, g, _, _, _, _, a1, a2, a3, a4, rfl⟩
        · have c' : ¬ 0 < (lgF (hdF ys) ys).1 := c
          rw [if_neg c'] at tail
          exact tail _ fun g S2 a1 a2 a3 a4 => ⟨_, Sub.refl _, g, _, _, _, _, a1, a2, a3, a4, rfl⟩
  · rintro r S' ⟨l6, u7, u8, u18, u20, hW, h3, h4, h6, rfl⟩
    have e : (zipD (ls.map sD) (ys.map nD)).length = (linesF ls ys (topF (lgF (hdF ys) ys)) wd z).length := by
      unfold zipD linesF
      rw [List.length_zipWith, List.length_zipWith, List.length_map, List.length_map]
    rw [e, List.take_length] at h6
    exact P4 hQ pb lb z1 z2 hw1 hw2 hW h3 h4 h6

theorem P2 {Z : Zt} {Q : QD} {E : XD} {S0 S : DS} {q : Addr} (hQ : ∀ a b d : Int, Q (.bl true) (put S0 q (.lst [.int a, .int b, .int d]))) {u1 u6 u7 u8 u9 u10 u11 u12 u13 u14 u15 u16 u17 u18 u19 u20 : Option D} {l3 l4 : Addr} {ys : List Nu} {ls : List (List Nat)} {wd : Nat} {z : Int} (pb : PB ys) (lb : LB ls ys.length) (z1 : 1 ≤ z) (z2 : z ≤ 200) (hw1 : wd ∈ ls.map List.length) (hw2 : ∀ l ∈ ls, l.length ≤ wd) (hW : Wk S0 q S) (h3 : S l3 = some (.lst (ys.map nD))) (h4 : S l4 = some (.lst (ls.map sD)))  :
    t__law_parts_2 Z (fin Q E) [some (.ref q), u1, some (.int z), some (.ref l3), some (.ref l4), some (nD (lgF (hdF ys) ys)), u6, u7, u8, u9, u10, u11, u12, u13, u14, u15, u16, u17, u18, u19, u20] S := by
  refine ⟨by show 0 ≤ sizeLine; decide, fun g hg => ?_⟩
  exact P3 hQ pb lb z1 z2 hw1 hw2 (hW.new hg) (keep_put h3 hg) (keep_put h4 hg) put_same

theorem P1 {Z : Zt} {Q : QD} {E : XD} {S0 S : DS} {q : Addr} (hQ : ∀ a b d : Int, Q (.bl true) (put S0 q (.lst [.int a, .int b, .int d]))) {u4 u5 u6 u7 u8 u9 u10 u11 u12 u13 u14 u15 u16 u17 u18 u19 u20 : Option D} {pr l3 : Addr} {xs ys : List Nu} {z : Int} (pb : PB ys) (z1 : 1 ≤ z) (z2 : z ≤ 200) (hx : xs.length = ys.length) (hW : Wk S0 q S) (h3 : S l3 = some (.lst (ys.map nD))) (hr : S pr = some (.lst (xs.map nD))) :
    t__law_parts_1 Z (fin Q E) [some (.ref q), some (.ref pr), some (.int z), some (.ref l3), u4, u5, u6, u7, u8, u9, u10, u11, u12, u13, u14, u15, u16, u17, u18, u19, u20] S := by
  have le := pb.le
  have npr : pr ≠ q := by
    obtain ⟨a, b, d, hq⟩ := hW.at
    exact ne_q hq hr (fun e => by rw [e] at hx; exact pb.ne (List.length_eq_zero_iff.mp hx.symm))
  have n3 : l3 ≠ q := by
    obtain ⟨a, b, d, hq⟩ := hW.at
    exact ne_q hq h3 pb.ne
  refine ⟨_, rfl, _, hr, by rw [List.length_map, sizeLine_eq]; omega, fun i acc S' => ∃ ls : List (List Nat), acc = ls.map sD ∧ LB ls i ∧ Wk S0 q S' ∧ S' l3 = some (.lst (ys.map nD)) ∧ S' pr = some (.lst (xs.map nD)), ⟨[], rfl, ⟨rfl, (fun l h => nomatch h), (fun l h => nomatch h)⟩, hW, h3, hr⟩, ?_, ?_, ?_⟩
  · rintro i acc S' ⟨ls, rfl, lb, hW, h3, hr⟩
    exact hr
  · rintro i d acc S' hd ⟨ls, rfl, lb, hW, h3, hr⟩
    obtain ⟨a, b, d, hq⟩ := hW.at
    have el : ("l" : Str) = ⟨[108].toArray⟩ := rfl
    refine ⟨_, rfl, ⟨by decide, by decide, by decide, rfl⟩, _, rfl, q, 4, a, b, d, rfl, by decide, by decide, hq, fun v a b d v0 v1 => ?_⟩
    rw [el]
    refine ⟨rep1_ok (by omega), ?_⟩
    rw [rep1]
    refine ⟨_, Sub.refl _, ls ++ [List.replicate v.toNat 108], by rw [List.map_append] <;> rfl, ⟨by rw [List.length_append, lb.len]; rfl, fun l hl => ?_, fun l hl c hc => ?_⟩, hW.dice a b d, by rw [put_ne n3]; exact h3, by rw [put_ne npr]; exact hr⟩
    · rcases List.mem_append.mp hl with hl | hl
      · exact lb.le l hl
      · rw [List.mem_singleton.mp hl, List.length_replicate]
        omega
    · rcases List.mem_append.mp hl with hl | hl
      · exact lb.ok l hl c hc
      · rw [List.mem_singleton.mp hl] at hc
        rw [List.eq_of_mem_replicate hc]
        decide
  · rintro acc S' g ⟨ls, rfl, lb, hW, h3, hr⟩ hg
    rw [List.length_map, hx] at lb
    obtain ⟨wd, hw1, hw2⟩ := maxLen ls (fun e => by
      have := lb.len
      rw [e] at this
      exact pb.ne (List.length_eq_zero_iff.mp this.symm))
    refine ⟨_, rfl, ⟨by decide, by decide, by decide, rfl⟩, _, rfl, l3, ys, rfl, keep_put h3 hg, fun v hv => (pb.bd v hv).mono (by decide), fun x t e => ?_, fun e => absurd e pb.ne⟩
    have ex' : hdF ys = x := by rw [e]; rfl
    rw [← ex']
    exact P2 hQ pb lb z1 z2 hw1 hw2 (hW.new hg) (keep_put h3 hg) put_same

def absN (v : Nu) : Nu := (if v.1 < 0 then -v.1 else v.1, v.2)
theorem absN_pb {xs : List Nu} (hb : ∀ v ∈ xs, Bd 30 v) (hn : xs ≠ []) (hl : xs.length ≤ 20) : PB (xs.map absN) := by
  refine ⟨fun v hv => ?_, fun v hv => ?_, fun e => hn (List.map_eq_nil_iff.mp e), by rw [List.length_map]; exact hl⟩
  · obtain ⟨u, hu, rfl⟩ := List.mem_map.mp hv
    have := hb u hu
    refine ⟨?_, this.p, this.b⟩
    have h := this.a
    unfold absN Lt at *
    dsimp only
    split <;> omega
  · obtain ⟨u, hu, rfl⟩ := List.mem_map.mp hv
    unfold absN
    dsimp only
    split <;> omega

theorem P0 {Z : Zt} {Q : QD} {E : XD} {S0 S : DS} {q : Addr} (hQ : ∀ a b d : Int, Q (.bl true) (put S0 q (.lst [.int a, .int b, .int d]))) {u3 u4 u5 u6 u7 u8 u9 u10 u11 u12 u13 u14 u15 u16 u17 u18 u19 u20 : Option D} {pr : Addr} {xs : List Nu} {z : Int} (hb : ∀ v ∈ xs, Bd 30 v) (hn : xs ≠ []) (hl : xs.length ≤ 20) (z1 : 1 ≤ z) (z2 : z ≤ 200) (hW : Wk S0 q S) (hr : S pr = some (.lst (xs.map nD))) :
    t__law_parts_0 Z (fin Q E) [some (.ref q), some (.ref pr), some (.int z), u3, u4, u5, u6, u7, u8, u9, u10, u11, u12, u13, u14, u15, u16, u17, u18, u19, u20] S := by
  refine ⟨_, rfl, _, hr, by rw [List.length_map, sizeLine_eq]; omega, fun i acc S' => acc = ((xs.take i).map absN).map nD ∧ S = S', ⟨rfl, rfl⟩, ?_, ?_, ?_⟩
  · rintro i acc S' ⟨rfl, rfl⟩
    exact hr
  · rintro i d acc S' hd ⟨rfl, rfl⟩
    rw [List.getElem?_map] at hd
    cases hv : xs[i]? with
    | none => rw [hv] at hd; cases hd
    | some v =>
      rw [hv] at hd
      cases hd
      exact ⟨_, rfl, _, rfl, _, rfl, _, rfl, i2, _, Sub.refl _, by rw [take_snoc absN hv, List.map_append] <;> rfl, rfl⟩
  · rintro acc S' g ⟨rfl, rfl⟩ hg
    rw [List.length_map, List.take_length]
    exact P1 hQ (absN_pb hb hn hl) z1 z2 (by rw [List.length_map]) (hW.new hg) put_same (keep_put hr hg)

theorem parts_read {Z : Zt} (ds : List D) (S : DS) (Q : QD) (E : XD) (h : sp__law_parts ds S Q E) : t__law_parts_0 Z (fin Q E) (startD ["dice", "rows", "size", "plain", "labels", "most_of", "lines", "label", "value", "total", "whole", "parts", "found", "lost", "k", "part", "ranked", "due", "place", "best", "one"] ds) S := by
  obtain ⟨q, pr, xs, z, a, b, d, rfl, hq, hr, hn, hl, hb, z1, z2, hQ⟩ := h
  refine P0 hQ hb hn hl z1 z2 ⟨a, b, d, ?_⟩ hr
  rw [put_eta hq]
  exact Sub.refl _

end K09

set_option Elab.async false
set_option linter.all false
set_option maxRecDepth 100000
set_option maxHeartbeats 4000000
namespace K09
open PySem PySem.Spec PyProof.Rows L2 G
/-! ### the rows -/
structure RW (xs : List Nu) : Prop where
  red : ∀ v ∈ xs, Red v
  a : ∀ v ∈ xs, Lt 20 v.1
  b : ∀ v ∈ xs, Lt 7 v.2
  ne : xs ≠ []
  le : xs.length ≤ 8
theorem RW.bd {xs : List Nu} (h : RW xs) {v : Nu} (hv : v ∈ xs) {k : Nat} (hk : 20 ≤ k) : Bd k v := ⟨(h.a v hv).mono hk, (h.red v hv).1, (h.b v hv).mono (by omega)⟩
abbrev loX (xs : List Nu) : Nu := loF (hdF xs) xs
abbrev hiX (xs : List Nu) : Nu := lgF (hdF xs) xs
theorem RW.lo {xs : List Nu} (h : RW xs) : loX xs ∈ xs := by
  rcases loF_mem (hdF xs) xs with e | e
  · show loF _ _ ∈ _
    rw [e]; exact hdF_mem h.ne
  · exact e
theorem RW.hi {xs : List Nu} (h : RW xs) : hiX xs ∈ xs := by
  rcases lgF_mem (hdF xs) xs with e | e
  · show lgF _ _ ∈ _
    rw [e]; exact hdF_mem h.ne
  · exact e
theorem RW.lo_le {xs : List Nu} (h : RW xs) {v : Nu} (hv : v ∈ xs) : (loX xs).1 * v.2 ≤ v.1 * (loX xs).2 := (loF_le xs (hdF xs) (h.red _ (hdF_mem h.ne)).1 (fun u hu => (h.red u hu).1)).2 v hv
theorem RW.le_hi {xs : List Nu} (h : RW xs) {v : Nu} (hv : v ∈ xs) : v.1 * (hiX xs).2 ≤ (hiX xs).1 * v.2 := (lgF_ge xs (hdF xs) (h.red _ (hdF_mem h.ne)).1 (fun u hu => (h.red u hu).1)).2 v hv
theorem hd_at {xs : List Nu} (h : xs ≠ []) : atI (xs.map nD) 0 = some (nD (hdF xs)) := by
  match xs, h with
  | y :: t, _ => exact at0
theorem loF_take (f : Nu) {l : List Nu} {i : Nat} {v : Nu} (h : l[i]? = some v) : loF f (l.take (i + 1)) = if lt v (loF f (l.take i)) = true then v else loF f (l.take i) := by
  rw [List.take_succ, h]
  show List.foldl _ _ (l.take i ++ [v]) = _
  rw [List.foldl_append]
  rfl
theorem loF_in {f : Nu} {l : List Nu} {P : Nu → Prop} (hf : P f) (hl : ∀ v ∈ l, P v) (i : Nat) : P (loF f (l.take i)) := by
  rcases loF_mem f (l.take i) with e | e
  · rw [e]; exact hf
  · exact hl _ (List.mem_of_mem_take e)
theorem lgF_in {f : Nu} {l : List Nu} {P : Nu → Prop} (hf : P f) (hl : ∀ v ∈ l, P v) (i : Nat) : P (lgF f (l.take i)) := by
  rcases lgF_mem f (l.take i) with e | e
  · rw [e]; exact hf
  · exact hl _ (List.mem_of_mem_take e)
theorem deq_nD (a b : Nu) : deq (nD a) (nD b) = decide (a = b) := by
  obtain ⟨a1, a2⟩ := a
  obtain ⟨b1, b2⟩ := b
  show ((a1 == b1) && ((a2 == b2) && true)) = _
  rw [Bool.eq_iff_iff]
  simp
/-! ### the step -/
structure SK (xs : List Nu) (m : Int) (s : Nu) : Prop where
  ok : StepOk (mi (hiX xs) (loX xs)) m s
  s1 : 0 < s.1
  bs : Bd 110 s
  cv : ((hiX xs).1 * (loX xs).2 - (loX xs).1 * (hiX xs).2) * s.2 ≤ m * (s.1 * ((hiX xs).2 * (loX xs).2))
  sm : s.2 ≤ 327680 * s.1
theorem span_in {xs : List Nu} (h : RW xs) : ∃ g : Int, 0 < g ∧ (hiX xs).1 * (loX xs).2 - (loX xs).1 * (hiX xs).2 = g * (mi (hiX xs) (loX xs)).1 ∧ (hiX xs).2 * (loX xs).2 = g * (mi (hiX xs) (loX xs)).2 ∧ 0 < (mi (hiX xs) (loX xs)).2 ∧ 0 ≤ (mi (hiX xs) (loX xs)).1 ∧ (mi (hiX xs) (loX xs)).1 < 2 ^ 60 ∧ (mi (hiX xs) (loX xs)).2 < 2 ^ 14 := by
  have hh := h.red _ h.hi
  have hl := h.red _ h.lo
  have le := h.le_hi h.lo
  have ba := (h.a _ h.hi).mul (h.b _ h.lo)
  have bb := (h.a _ h.lo).mul (h.b _ h.hi)
  have bc := (h.b _ h.hi).mul (h.b _ h.lo)
  obtain ⟨g, g0, e1, e2, w0, _⟩ := exE (p := (hiX xs).1 * (loX xs).2 - (loX xs).1 * (hiX xs).2) (w := (hiX xs).2 * (loX xs).2) (Int.mul_pos hh.1 hl.1)
  have e3 : mi (hiX xs) (loX xs) = ex ((hiX xs).1 * (loX xs).2 - (loX xs).1 * (hiX xs).2) ((hiX xs).2 * (loX xs).2) := rfl
  rw [e3]
  have bx : Bd 28 (ex ((hiX xs).1 * (loX xs).2 - (loX xs).1 * (hiX xs).2) ((hiX xs).2 * (loX xs).2)) := ex_bd (Int.mul_pos hh.1 hl.1) (ba.sub bb) (bc.mono (by decide))
  generalize ex ((hiX xs).1 * (loX xs).2 - (loX xs).1 * (hiX xs).2) ((hiX xs).2 * (loX xs).2) = s at *
  refine ⟨g, g0, e1, e2, w0, ?_, ?_, ?_⟩
  · have : 0 ≤ g * s.1 := by rw [← e1]; omega
    exact Int.nonneg_of_mul_nonneg_right this g0
  · have := bx.a
    unfold Lt at this
    omega
  · have k : 1 * s.2 ≤ g * s.2 := Int.mul_le_mul_of_nonneg_right (by omega) (by omega)
    unfold Lt at bc
    omega
theorem sk_one {xs : List Nu} (h : RW xs) {m : Int} (hm : 1 ≤ m) (h0 : (mi (hiX xs) (loX xs)).1 = 0) : SK xs m (1, 1) := by
  obtain ⟨g, g0, e1, e2, w0, _⟩ := span_in h
  have hh := h.red _ h.hi
  have hl := h.red _ h.lo
  rw [h0, Int.mul_zero] at e1
  refine ⟨by unfold StepOk; rw [if_pos h0], by decide, bdl (by decide) (by decide) (by decide) (by decide), ?_, by decide⟩
  rw [e1, Int.zero_mul]
  exact Int.mul_nonneg (by omega) (Int.mul_nonneg (by decide) (Int.le_of_lt (Int.mul_pos hh.1 hl.1)))
theorem sk_st {xs : List Nu} (h : RW xs) {m : Int} {s : Nu} (hm : 1 ≤ m) (hm2 : m ≤ 20) (h0 : 0 < (mi (hiX xs) (loX xs)).1) (hs : stF (mi (hiX xs) (loX xs)) m = some s) : SK xs m s := by
  obtain ⟨g, g0, e1, e2, w0, _, _, b2⟩ := span_in h
  obtain ⟨hc, hcov⟩ := st_ok hs
  obtain ⟨c1, c2, c3, c4⟩ := cands_ok s hc
  have hcov : lt (s.1 * m, s.2) (mi (hiX xs) (loX xs)) = false := by
    unfold cov at hcov
    rw [Bool.not_eq_true'] at hcov
    exact hcov
  have hcv := lt_not.mp hcov
  have c5 : s.1.natAbs < 2 ^ 110 := by omega
  have c6 : s.2.natAbs < 2 ^ 110 := by omega
  have ok : StepOk (mi (hiX xs) (loX xs)) m s := by unfold StepOk; rw [if_neg (by omega)]; exact ⟨h0, hm, hm2, hs⟩
  refine ⟨ok, c1, ⟨c5, c3, c6⟩, ?_, ?_⟩
  · rw [e1, e2]
    generalize mi (hiX xs) (loX xs) = sp at *
    have hcv : sp.1 * s.2 ≤ s.1 * m * sp.2 := hcv
    have := Int.mul_le_mul_of_nonneg_left hcv (Int.le_of_lt g0)
    rw [show g * sp.1 * s.2 = g * (sp.1 * s.2) by ac_rfl, show m * (s.1 * (g * sp.2)) = g * (s.1 * m * sp.2) by ac_rfl]
    exact this
  · generalize mi (hiX xs) (loX xs) = sp at *
    have hcv : sp.1 * s.2 ≤ s.1 * m * sp.2 := hcv
    have k1 : 1 * s.2 ≤ sp.1 * s.2 := Int.mul_le_mul_of_nonneg_right (by omega) (by omega)
    have k2 : s.1 * m ≤ s.1 * 20 := Int.mul_le_mul_of_nonneg_left hm2 (by omega)
    have k3 : s.1 * m * sp.2 ≤ s.1 * 20 * sp.2 := Int.mul_le_mul_of_nonneg_right k2 (by omega)
    have k4 : s.1 * 20 * sp.2 ≤ s.1 * 20 * 16384 := Int.mul_le_mul_of_nonneg_left (by omega) (by omega)
    omega
theorem first_bd {xs : List Nu} {m : Int} {s : Nu} (h : RW xs) (k : SK xs m s) : -(2 ^ 50) ≤ firstF (loX xs) s ∧ firstF (loX xs) s ≤ 2 ^ 50 := by
  have hl := h.red _ h.lo
  have ba := h.a _ h.lo
  have b0 : 0 < (loX xs).2 * s.1 := Int.mul_pos hl.1 k.s1
  obtain ⟨f1, f2⟩ := floor_le (a := (loX xs).1 * s.2) b0
  have hs := k.sm
  have s0 := k.bs.p
  have s1 := k.s1
  unfold firstF
  unfold Lt at ba
  have hd := hl.1
  clear k hl
  generalize (loX xs).1 = p at *
  generalize (loX xs).2 = d at *
  generalize (p * s.2).fdiv (d * s.1) = f at *
  have k1 : p * s.2 ≤ 1048576 * s.2 := Int.mul_le_mul_of_nonneg_right (by omega) (by omega)
  have k2 : -1048576 * s.2 ≤ p * s.2 := Int.mul_le_mul_of_nonneg_right (by omega) (by omega)
  have k3 : 1 * s.1 ≤ d * s.1 := Int.mul_le_mul_of_nonneg_right (by omega) (by omega)
  constructor
  · have : -(2 ^ 50) * (d * s.1) < (f + 1) * (d * s.1) := by omega
    have := Int.lt_of_mul_lt_mul_right this (by omega)
    omega
  · have : f * (d * s.1) ≤ 2 ^ 50 * (d * s.1) := by omega
    exact Int.le_of_mul_le_mul_right this b0
def nX (xs : List Nu) (s : Nu) : Nat := (lastF (hiX xs) s - firstF (loX xs) s).toNat
theorem nX_ok {xs : List Nu} {m : Int} {s : Nu} (h : RW xs) (k : SK xs m s) : firstF (loX xs) s + (nX xs s : Int) = lastF (hiX xs) s ∧ (nX xs s : Int) ≤ m + 1 := by
  have hh := h.red _ h.hi
  have hl := h.red _ h.lo
  have a := first_le hl.1 hh.1 k.s1 k.bs.p (h.le_hi h.lo)
  have b := last_le hl.1 hh.1 k.s1 k.bs.p k.cv
  unfold nX
  omega
/-! ### the round -/
def Inv (kq q : Addr) (S : DS) : Prop := S kq = some (.lst [.ref q]) ∧ ∃ a b d : Int, S q = some (.lst [.int a, .int b, .int d])
theorem Inv.new {kq q l : Addr} {S : DS} {o : O} (h : Inv kq q S) (hl : S l = none) : Inv kq q (put S l o) := by
  obtain ⟨h1, a, b, d, h2⟩ := h
  exact ⟨keep_put h1 hl, a, b, d, keep_put h2 hl⟩
theorem Inv.ne {kq q : Addr} {S : DS} (h : Inv kq q S) : kq ≠ q := by
  obtain ⟨h1, a, b, d, h2⟩ := h
  intro e
  rw [e, h2] at h1
  cases h1
theorem Inv.dice {kq q : Addr} {S : DS} (h : Inv kq q S) (a b d : Int) : Inv kq q (put S q (.lst [.int a, .int b, .int d])) :=
  ⟨(put_ne h.ne).trans h.1, a, b, d, put_same⟩
theorem Inv.at {kq q : Addr} {S : DS} (h : Inv kq q S) : ∃ a b d : Int, S q = some (.lst [.int a, .int b, .int d]) := h.2
def End (D : EndsD) (kq q : Addr) : Prop := ∀ r S, r.length = 22 → Inv kq q S → D.nx r S
def EndN (D : EndsD) (kq q lr : Addr) (xs : List Nu) (z : Int) : Prop := ∀ r S, r.length = 22 → r[2]? = some (some (.ref q)) → r[4]? = some (some (.ref lr)) → r[14]? = some (some (.int z)) → Inv kq q S → S lr = some (.lst (xs.map nD)) → D.nx r S

theorem L14 {Z : Zt} {D0 : EndsD} {S : DS} {kq q lr : Addr} {xs : List Nu} {z : Int} {r : Env_} (hD : End D0 kq q) (hI : Inv kq q S) (rw : RW xs) (z1 : 1 ≤ z) (z2 : z ≤ 200) (hl : r.length = 22) (r2 : r[2]? = some (some (.ref q))) (r4 : r[4]? = some (some (.ref lr))) (r14 : r[14]? = some (some (.int z))) (hr : S lr = some (.lst (xs.map nD))) : t_law_1_14 Z D0 r S := by
  obtain ⟨a, b, d, hq⟩ := hI.at
  have le := rw.le
  refine ⟨_, rfl, ⟨by decide, by decide, by decide, rfl⟩, _, r2, _, r4, _, r14, q, lr, xs, z, a, b, d, rfl, hq, hr, rw.ne, by omega, fun v hv => rw.bd hv (by decide), z1, z2, fun a b d => ?_⟩
  exact hD _ _ hl (hI.dice a b d)

theorem hgt_near' {n v : Nu} {z : Int} (n0 : 0 < n.2) (v0 : 0 < v.2) : hgt n (pl n (5, 1)) z v = if (if ((v.1 * n.2 - n.1 * v.2) * z).fdiv (v.2 * n.2 * 5) < z then ((v.1 * n.2 - n.1 * v.2) * z).fdiv (v.2 * n.2 * 5) else z) > 0 then (if ((v.1 * n.2 - n.1 * v.2) * z).fdiv (v.2 * n.2 * 5) < z then ((v.1 * n.2 - n.1 * v.2) * z).fdiv (v.2 * n.2 * 5) else z) else 0 := by
  unfold hgt
  rw [hgt_near n0 v0]

theorem L13_3 {Z : Zt} {D0 : EndsD} {S : DS} {kq q lr : Addr} {xs : List Nu} {z : Int} (hN : EndN D0 kq q lr xs z) (hI : Inv kq q S) {u0 u1 u3 u5 u8 u10 u11 u12 u13 u15 u16 u18 u19 u20 u21 : Option D} {n : Nu} (bn : Bd 30 n) (rw_ : RW xs) (z1 : 1 ≤ z) (z2 : z ≤ 200) (hlt : lt (loX xs) (hiX xs) = true) (hr : S lr = some (.lst (xs.map nD)))  :
    t_law_1_13_3 Z D0 [u0, u1, some (.ref q), u3, some (.ref lr), u5, some (nD (loX xs)), some (nD (hiX xs)), u8, some (nD (mi (hiX xs) (loX xs))), u10, u11, u12, u13, some (.int z), u15, u16, some (nD n), u18, u19, u20, u21] S := by
  have le := rw_.le
  obtain ⟨f1, f2, f3⟩ := far_lt bn.p
  have b5 : Bd 8 (5, 1) := bdl (by decide) (by decide) (by decide) (by decide)
  have bf : Bd 39 (pl n (5, 1)) := pl_bd bn b5
  have bz : Lt 100 z := by unfold Lt; omega
  refine ⟨_, rfl, ⟨by decide, by decide, by decide, rfl⟩, _, rfl, _, rfl, _, rfl, ⟨by decide, by decide, by decide, rfl⟩, _, rfl, i2, n, (5, 1), rfl, bn.mono (by decide), b5.mono (by decide), _, rfl, lr, xs, n, pl n (5, 1), z, rfl, hr, fun v hv => rw_.bd hv (by decide), by omega, bn.mono (by decide), bf.mono (by decide), fun _ _ _ => ?_, fun y => absurd ⟨f1, z1, z2⟩ y⟩
  refine ⟨_, rfl, ?_⟩
  refine ⟨by rw [numD_len, List.length_map, sizeLine_eq]; omega, fun i acc S' => acc = [] ∧ S = S', ⟨rfl, rfl⟩, fun _ _ _ _ => rfl, ?_, ?_⟩
  · rintro i d acc S' hd ⟨rfl, rfl⟩
    obtain ⟨e, he, rfl⟩ := numD_at hd
    rw [List.getElem?_map] at he
    cases hv : xs[i]? with
    | none => rw [hv] at he; cases he
    | some v =>
      rw [hv] at he
      cases he
      have bv := rw_.bd (List.mem_of_getElem? hv) (k := 30) (by decide)
      have hra : (xs.map nD)[i]? = some (nD v) := by rw [List.getElem?_map, hv] <;> rfl
      have w0 : 0 < v.2 * n.2 * 5 := Int.mul_pos (Int.mul_pos bv.p bn.p) (by decide)
      refine ⟨rfl, rfl, ?_⟩
      refine ⟨_, rfl, _, rfl, _, rfl, _, rfl, _, _, hr, G.atI_nat hra, _, rfl, _, rfl, _, rfl, mul_sz (bv.a.sz (by decide)) (bn.b.sz (by decide)), _, rfl, _, rfl, _, rfl, _, rfl, _, _, hr, G.atI_nat hra, _, rfl, mul_sz (bn.a.sz (by decide)) (bv.b.sz (by decide)), _, rfl, mul_sz (((bv.a.mul bn.b).sub (bn.a.mul bv.b)).sz (by decide)) (bz.sz (by decide)), _, rfl, _, rfl, _, _, hr, G.atI_nat hra, _, rfl, _, rfl, _, rfl, mul_sz (bv.b.sz (by decide)) (bn.b.sz (by decide)), mulR (by decide), div_pos w0 (((bv.b.mul bn.b).mul (show Lt 3 5 by unfold Lt; decide)).sz (by decide)), ?_⟩
      exact ite_eq (hgt_near' bn.p bv.p) ⟨_, Sub.refl _, rfl, rfl⟩
  · rintro acc S' g ⟨rfl, rfl⟩ hg
    refine ⟨by show 0 ≤ sizeLine; decide, fun g2 hg2 => ⟨_, _, keep_put put_same hg2, put_same, rfl, rfl, ?_⟩⟩
    exact ite_no rfl (hN _ _ rfl rfl rfl rfl ((hI.new hg).new hg2) (keep_put (keep_put hr hg) hg2))

theorem L13_2 {Z : Zt} {D0 : EndsD} {S : DS} {kq q lr : Addr} {xs : List Nu} {z : Int} (hN : EndN D0 kq q lr xs z) (hI : Inv kq q S) {u0 u1 u3 u5 u8 u10 u11 u12 u13 u15 u16 u17 u18 u19 u20 u21 : Option D} (rw_ : RW xs) (z1 : 1 ≤ z) (z2 : z ≤ 200) (hlt : lt (loX xs) (hiX xs) = true) (hr : S lr = some (.lst (xs.map nD)))  :
    t_law_1_13_2 Z D0 [u0, u1, some (.ref q), u3, some (.ref lr), u5, some (nD (loX xs)), some (nD (hiX xs)), u8, some (nD (mi (hiX xs) (loX xs))), u10, u11, u12, u13, some (.int z), u15, u16, u17, u18, u19, u20, u21] S := by
  have bl := rw_.bd rw_.lo (k := 20) (by decide)
  have l0 := bl.p
  refine ⟨_, rfl, ⟨by decide, by decide, by decide, rfl⟩, _, rfl, _, rfl, _, rfl, _, rfl, _, rfl, _, rfl, (loX xs).1 + (loX xs).2, (loX xs).2, rfl, by omega, (bl.a.add bl.b).sz (by decide), bl.b.sz (by decide), fun y => absurd y (by omega), ?_⟩
  exact L13_3 hN hI ((ex_bd l0 (bl.a.add bl.b) (bl.b.mono (by decide))).mono (by decide)) rw_ z1 z2 hlt hr

theorem L13_1 {Z : Zt} {D0 : EndsD} {S : DS} {kq q lr : Addr} {xs : List Nu} {z : Int} (hN : EndN D0 kq q lr xs z) (hI : Inv kq q S) {u0 u1 u3 u5 u8 u10 u11 u12 u13 u15 u17 u18 u19 u20 u21 : Option D} {ld : Addr} (rw_ : RW xs) (z1 : 1 ≤ z) (z2 : z ≤ 200) (hlt : lt (loX xs) (hiX xs) = true) (hr : S lr = some (.lst (xs.map nD))) (hd : S ld = some (.lst ((xs.map (dueF (loX xs) (mi (hiX xs) (loX xs)) z)).map D.int))) :
    t_law_1_13_1 Z D0 [u0, u1, some (.ref q), u3, some (.ref lr), u5, some (nD (loX xs)), some (nD (hiX xs)), u8, some (nD (mi (hiX xs) (loX xs))), u10, u11, u12, u13, some (.int z), u15, some (.ref ld), u17, u18, u19, u20, u21] S := by
  have le := rw_.le
  have bl := rw_.bd rw_.lo (k := 20) (by decide)
  have bh := rw_.bd rw_.hi (k := 20) (by decide)
  refine ⟨_, rfl, ⟨by decide, by decide, by decide, rfl⟩, _, rfl, _, rfl, _, rfl, _, rfl, lr, xs, loX xs, hiX xs, z, rfl, hr, fun v hv => rw_.bd hv (by decide), by omega, bl.mono (by decide), bh.mono (by decide), fun _ _ _ => ?_, fun y => absurd ⟨hlt, z1, z2⟩ y⟩
  have e : (xs.map fun v => D.int (hgt (loX xs) (hiX xs) z v)) = (xs.map (dueF (loX xs) (mi (hiX xs) (loX xs)) z)).map D.int := by
    rw [List.map_map]
    refine List.map_congr_left fun v hv => ?_
    rw [hgt_eq bl.p (rw_.red v hv).1 bh.p hlt (rw_.lo_le hv) (rw_.le_hi hv) (by omega)]
    rfl
  rw [e]
  refine fun g hg => ?_
  refine ⟨_, rfl, _, _, put_same, keep_put hd hg, okDs_int _, okDs_int _, ?_⟩
  refine ite_no (deqs_refl 60 _ (okDs_int _)) ?_
  have hI2 := hI.new (o := .lst ((xs.map (dueF (loX xs) (mi (hiX xs) (loX xs)) z)).map D.int)) hg
  have hr2 := keep_put (u := .lst ((xs.map (dueF (loX xs) (mi (hiX xs) (loX xs)) z)).map D.int)) hr hg
  have hd2 := keep_put (u := .lst ((xs.map (dueF (loX xs) (mi (hiX xs) (loX xs)) z)).map D.int)) hd hg
  generalize put S g (.lst ((xs.map (dueF (loX xs) (mi (hiX xs) (loX xs)) z)).map D.int)) = S2 at *
  refine ⟨_, rfl, _, hd2, by rw [List.length_map, List.length_map, sizeLine_eq]; omega, fun i acc S' => acc = [] ∧ S2 = S', ⟨rfl, rfl⟩, ?_, ?_, ?_⟩
  · rintro i acc S' ⟨rfl, rfl⟩
    exact hd2
  · rintro i d acc S' h ⟨rfl, rfl⟩
    rw [List.getElem?_map, List.getElem?_map] at h
    cases hv : xs[i]? with
    | none => rw [hv] at h; cases h
    | some v =>
      rw [hv] at h
      cases h
      have hm := List.mem_of_getElem? hv
      obtain ⟨d1, d2⟩ := due_in (z := z) bl.p (rw_.red v hm).1 bh.p hlt (rw_.lo_le hm) (rw_.le_hi hm) (by omega)
      refine ⟨_, rfl, ?_⟩
      refine itd (fun c1 => ?_) (fun c1 => absurd d1 c1)
      refine ⟨_, rfl, ?_⟩
      refine itn (fun c2 => absurd d2 c2) (fun c2 => ?_)
      exact ⟨_, Sub.refl _, rfl, rfl⟩
  · rintro acc S' g2 ⟨rfl, rfl⟩ hg2
    refine ⟨by show 0 ≤ sizeLine; decide, fun g3 hg3 => ⟨_, _, keep_put put_same hg3, put_same, rfl, rfl, ?_⟩⟩
    exact ite_no rfl (L13_2 hN ((hI2.new hg2).new hg3) rw_ z1 z2 hlt (keep_put (keep_put hr2 hg2) hg3))

theorem L13_0 {Z : Zt} {D0 : EndsD} {S : DS} {kq q lr : Addr} {xs : List Nu} {z : Int} (hN : EndN D0 kq q lr xs z) (hI : Inv kq q S) {u0 u1 u3 u5 u8 u10 u11 u12 u13 u15 u16 u17 u18 u19 u20 u21 : Option D} (rw_ : RW xs) (z1 : 1 ≤ z) (z2 : z ≤ 200) (hlt : lt (loX xs) (hiX xs) = true) (hr : S lr = some (.lst (xs.map nD)))  :
    t_law_1_13_0 Z D0 [u0, u1, some (.ref q), u3, some (.ref lr), u5, some (nD (loX xs)), some (nD (hiX xs)), u8, some (nD (mi (hiX xs) (loX xs))), u10, u11, u12, u13, some (.int z), u15, u16, u17, u18, u19, u20, u21] S := by
  have le := rw_.le
  have bl := rw_.bd rw_.lo (k := 20) (by decide)
  have bh := rw_.bd rw_.hi (k := 20) (by decide)
  have bz : Lt 100 z := by unfold Lt; omega
  have bsp : Bd 41 (mi (hiX xs) (loX xs)) := mi_bd bh bl
  have sp0 := mi_pos hlt bl.p bh.p
  refine ⟨_, rfl, _, hr, by rw [List.length_map, sizeLine_eq]; omega, fun i acc S' => acc = ((xs.take i).map (dueF (loX xs) (mi (hiX xs) (loX xs)) z)).map D.int ∧ S = S', ⟨rfl, rfl⟩, ?_, ?_, ?_⟩
  · rintro i acc S' ⟨rfl, rfl⟩
    exact hr
  · rintro i d acc S' h ⟨rfl, rfl⟩
    rw [List.getElem?_map] at h
    cases hv : xs[i]? with
    | none => rw [hv] at h; cases h
    | some v =>
      rw [hv] at h
      cases h
      have bv := rw_.bd (List.mem_of_getElem? hv) (k := 20) (by decide)
      have w0 : 0 < v.2 * (loX xs).2 * (mi (hiX xs) (loX xs)).1 := Int.mul_pos (Int.mul_pos bv.p bl.p) sp0
      refine ⟨_, rfl, _, rfl, _, rfl, _, rfl, mul_sz (bv.a.sz (by decide)) (bl.b.sz (by decide)), _, rfl, _, rfl, _, rfl, _, rfl, mul_sz (bl.a.sz (by decide)) (bv.b.sz (by decide)), _, rfl, _, rfl, mul_sz (((bv.a.mul bl.b).sub (bl.a.mul bv.b)).sz (by decide)) (bsp.b.sz (by decide)), _, rfl, mul_sz ((((bv.a.mul bl.b).sub (bl.a.mul bv.b)).mul bsp.b).sz (by decide)) (bz.sz (by decide)), _, rfl, _, rfl, _, rfl, _, rfl, mul_sz (bv.b.sz (by decide)) (bl.b.sz (by decide)), _, rfl, _, rfl, mul_sz ((bv.b.mul bl.b).sz (by decide)) (bsp.a.sz (by decide)), div_pos w0 (((bv.b.mul bl.b).mul bsp.a).sz (by decide)), ?_⟩
      exact ⟨_, Sub.refl _, by rw [take_snoc (dueF (loX xs) (mi (hiX xs) (loX xs)) z) hv, List.map_append] <;> rfl, rfl⟩
  · rintro acc S' g ⟨rfl, rfl⟩ hg
    rw [List.length_map, List.take_length]
    exact L13_1 hN (hI.new hg) rw_ z1 z2 hlt (keep_put hr hg) put_same

theorem L13 {Z : Zt} {D0 : EndsD} {S : DS} {kq q : Addr} (hD : End D0 kq q) (hI : Inv kq q S) {u0 u1 u3 u5 u8 u10 u11 u12 u13 u15 u16 u17 u18 u19 u20 u21 : Option D} {lr : Addr} {xs : List Nu} {z : Int} (rw_ : RW xs) (z1 : 1 ≤ z) (z2 : z ≤ 200) (hr : S lr = some (.lst (xs.map nD)))  :
    t_law_1_13 Z D0 [u0, u1, some (.ref q), u3, some (.ref lr), u5, some (nD (loX xs)), some (nD (hiX xs)), u8, some (nD (mi (hiX xs) (loX xs))), u10, u11, u12, u13, some (.int z), u15, u16, u17, u18, u19, u20, u21] S := by
  refine ⟨_, rfl, _, rfl, rfl, rfl, ?_⟩
  rw [deq_nD]
  have hlh := rw_.le_hi rw_.lo
  refine itn (fun c => ?_) (fun c => ?_)
  · refine L13_0 (fun r S a b c d e f => L14 hD e rw_ z1 z2 a b c d f) hI rw_ z1 z2 ?_ hr
    rw [lt_ne (rw_.red _ rw_.lo) (rw_.red _ rw_.hi) hlh, decide_eq_false c]
    rfl
  · exact L14 hD hI rw_ z1 z2 rfl rfl rfl rfl hr

theorem L12 {Z : Zt} {D0 : EndsD} {S : DS} {kq q : Addr} (hD : End D0 kq q) (hI : Inv kq q S) {u0 u1 u3 u5 u8 u10 u11 u12 u13 u14 u15 u16 u17 u18 u19 u20 u21 : Option D} {lr : Addr} {xs : List Nu} (rw_ : RW xs) (hr : S lr = some (.lst (xs.map nD)))  :
    t_law_1_12 Z D0 [u0, u1, some (.ref q), u3, some (.ref lr), u5, some (nD (loX xs)), some (nD (hiX xs)), u8, some (nD (mi (hiX xs) (loX xs))), u10, u11, u12, u13, u14, u15, u16, u17, u18, u19, u20, u21] S := by
  obtain ⟨a, b, d, hq⟩ := hI.at
  have nr := ne_q hq hr rw_.ne
  refine ⟨_, rfl, ⟨by decide, by decide, by decide, rfl⟩, _, rfl, q, 200, a, b, d, rfl, by decide, by decide, hq, fun v a b d v0 v1 => ?_⟩
  exact L13 hD (hI.dice a b d) rw_ (by omega) (by omega) (by rw [put_ne nr]; exact hr)

theorem L11 {Z : Zt} {D0 : EndsD} {S : DS} {kq q : Addr} (hD : End D0 kq q) (hI : Inv kq q S) {u0 u1 u3 u8 u14 u15 u16 u17 u18 u19 u20 u21 : Option D} {lr : Addr} {xs : List Nu} (rw_ : RW xs) (hr : S lr = some (.lst (xs.map nD))) {m : Int} {s : Nu} (m1 : 1 ≤ m) (m2 : m ≤ 20) (sk : SK xs m s)  :
    t_law_1_11 Z D0 [u0, u1, some (.ref q), u3, some (.ref lr), some (.int m), some (nD (loX xs)), some (nD (hiX xs)), u8, some (nD (mi (hiX xs) (loX xs))), some (nD s), some (.tup (marksF (loX xs) s (nX xs s + 1))), some (.int (firstF (loX xs) s)), some (.int (lastF (hiX xs) s)), u14, u15, u16, u17, u18, u19, u20, u21] S := by
  obtain ⟨n1, n2⟩ := nX_ok rw_ sk
  obtain ⟨f1, f2⟩ := first_bd rw_ sk
  have bs := sk.bs
  have sp := bs.p
  have okm : okDs 60 (marksF (loX xs) s (nX xs s + 1)) = true := okDs_of fun x hx => by
    unfold marksF at hx
    obtain ⟨i, _, rfl⟩ := List.mem_map.mp hx
    rfl
  refine ⟨_, rfl, fun g hg => ?_⟩
  refine ⟨_, rfl, _, rfl, ⟨by omega, by omega⟩, ⟨by omega, by omega⟩, by rw [rngD_len, sizeLine_eq]; omega, fun i acc S' => acc = marksF (loX xs) s i ∧ put S g (.lst (marksF (loX xs) s (nX xs s + 1))) = S', ⟨rfl, rfl⟩, fun _ _ _ _ => trivial, ?_, ?_⟩
  · rintro i d acc S' h ⟨rfl, rfl⟩
    obtain ⟨hi, rfl⟩ := rngD_get h
    have bp : Lt 60 (firstF (loX xs) s + (i : Int)) := by unfold Lt; omega
    refine ⟨_, rfl, ⟨by decide, by decide, by decide, rfl⟩, _, rfl, _, rfl, _, rfl, mul_sz (bs.a.sz (by decide)) (bp.sz (by decide)), _, rfl, _, rfl, s.1 * (firstF (loX xs) s + (i : Int)), s.2, rfl, by omega, (bs.a.mul bp).sz (by decide), bs.b.sz (by decide), fun y => absurd y (by omega), ?_⟩
    exact ⟨_, Sub.refl _, by rw [marksF_succ] <;> rfl, rfl⟩
  · rintro acc S' g2 ⟨rfl, rfl⟩ hg2
    have e : (rngD (firstF (loX xs) s) (lastF (hiX xs) s + 1 - firstF (loX xs) s).toNat).length = nX xs s + 1 := by rw [rngD_len]; omega
    rw [e]
    refine ⟨_, _, keep_put put_same hg2, put_same, okm, okm, ?_⟩
    refine ite_no (deqs_refl 60 _ okm) ?_
    refine ⟨_, rfl, _, rfl, ?_⟩
    rw [marksF_len]
    refine itd (fun c => absurd c (by omega)) (fun c => ?_)
    exact L12 hD ((hI.new hg).new hg2) rw_ (keep_put (keep_put hr hg) hg2)

theorem L10 {Z : Zt} {D0 : EndsD} {S : DS} {kq q : Addr} (hD : End D0 kq q) (hI : Inv kq q S) {u0 u1 u3 u8 u13 u14 u15 u16 u17 u18 u19 u20 u21 : Option D} {lr : Addr} {xs : List Nu} (rw_ : RW xs) (hr : S lr = some (.lst (xs.map nD))) {m : Int} {s : Nu} (m1 : 1 ≤ m) (m2 : m ≤ 20) (sk : SK xs m s)  :
    t_law_1_10 Z D0 [u0, u1, some (.ref q), u3, some (.ref lr), some (.int m), some (nD (loX xs)), some (nD (hiX xs)), u8, some (nD (mi (hiX xs) (loX xs))), some (nD s), some (.tup (marksF (loX xs) s (nX xs s + 1))), some (.int (firstF (loX xs) s)), u13, u14, u15, u16, u17, u18, u19, u20, u21] S := by
  have bh := rw_.bd rw_.hi (k := 20) (by decide)
  have bs := sk.bs
  have w0 : 0 < (hiX xs).2 * s.1 := Int.mul_pos bh.p sk.s1
  have bn : Lt 20 (-(hiX xs).1) := by have := bh.a; unfold Lt at *; omega
  refine ⟨_, rfl, _, rfl, _, rfl, _, rfl, mul_sz (bn.sz (by decide)) (bs.b.sz (by decide)), _, rfl, _, rfl, _, rfl, _, rfl, mul_sz (bh.b.sz (by decide)) (bs.a.sz (by decide)), div_pos w0 ((bh.b.mul bs.a).sz (by decide)), ?_⟩
  exact L11 hD hI rw_ hr m1 m2 sk

theorem L9 {Z : Zt} {D0 : EndsD} {S : DS} {kq q : Addr} (hD : End D0 kq q) (hI : Inv kq q S) {u0 u1 u3 u8 u12 u13 u14 u15 u16 u17 u18 u19 u20 u21 : Option D} {lr : Addr} {xs : List Nu} (rw_ : RW xs) (hr : S lr = some (.lst (xs.map nD))) {m : Int} {s : Nu} (m1 : 1 ≤ m) (m2 : m ≤ 20) (sk : SK xs m s)  :
    t_law_1_9 Z D0 [u0, u1, some (.ref q), u3, some (.ref lr), some (.int m), some (nD (loX xs)), some (nD (hiX xs)), u8, some (nD (mi (hiX xs) (loX xs))), some (nD s), some (.tup (marksF (loX xs) s (nX xs s + 1))), u12, u13, u14, u15, u16, u17, u18, u19, u20, u21] S := by
  have bl := rw_.bd rw_.lo (k := 20) (by decide)
  have bs := sk.bs
  have w0 : 0 < (loX xs).2 * s.1 := Int.mul_pos bl.p sk.s1
  refine ⟨_, rfl, _, rfl, _, rfl, _, rfl, mul_sz (bl.a.sz (by decide)) (bs.b.sz (by decide)), _, rfl, _, rfl, _, rfl, _, rfl, mul_sz (bl.b.sz (by decide)) (bs.a.sz (by decide)), div_pos w0 ((bl.b.mul bs.a).sz (by decide)), ?_⟩
  exact L10 hD hI rw_ hr m1 m2 sk

theorem L8 {Z : Zt} {D0 : EndsD} {S : DS} {kq q : Addr} (hD : End D0 kq q) (hI : Inv kq q S) {u0 u1 u3 u8 u11 u12 u13 u14 u15 u16 u17 u18 u19 u20 u21 : Option D} {lr : Addr} {xs : List Nu} (rw_ : RW xs) (hr : S lr = some (.lst (xs.map nD))) {m : Int} {s : Nu} (m1 : 1 ≤ m) (m2 : m ≤ 20) (sk : SK xs m s)  :
    t_law_1_8 Z D0 [u0, u1, some (.ref q), u3, some (.ref lr), some (.int m), some (nD (loX xs)), some (nD (hiX xs)), u8, some (nD (mi (hiX xs) (loX xs))), some (nD s), u11, u12, u13, u14, u15, u16, u17, u18, u19, u20, u21] S := by
  have le := rw_.le
  obtain ⟨n1, n2⟩ := nX_ok rw_ sk
  have hh := rw_.red _ rw_.hi
  refine ⟨_, rfl, ⟨by decide, by decide, by decide, rfl⟩, _, rfl, _, rfl, lr, xs, m, rfl, hr, by omega, fun v hv => rw_.bd hv (by decide), fun e => absurd e rw_.ne, fun x t e => ?_⟩
  have ex' : hdF xs = x := by rw [e]; rfl
  rw [← ex', loS_eq]
  refine ⟨s, nX xs s, sk.ok, sk.bs.mono (by decide), sk.s1, by omega, fun i hi => ?_, ?_⟩
  · rw [mark_lt hh.1 sk.s1 sk.bs.p]
    rw [Bool.eq_iff_iff, decide_eq_true_iff, decide_eq_true_iff]
    show firstF (loX xs) s + (i : Int) < lastF (hiX xs) s ↔ i < nX xs s
    omega
  · exact L9 hD hI rw_ hr m1 m2 sk

theorem steps_len : stepsL.length = 183 := flat_len 61

theorem L7 {Z : Zt} {D0 : EndsD} {S : DS} {kq q : Addr} (hD : End D0 kq q) (hI : Inv kq q S) {u0 u3 u8 u11 u12 u13 u14 u15 u16 u17 u18 u19 u20 u21 : Option D} {ls : Addr} {lr : Addr} {xs : List Nu} (rw_ : RW xs) (hr : S lr = some (.lst (xs.map nD))) {m : Int} (m1 : 1 ≤ m) (m2 : m ≤ 20) (hs : S ls = some (.lst (stepsL.map nD)))  :
    t_law_1_7 Z D0 [u0, some (.ref ls), some (.ref q), u3, some (.ref lr), some (.int m), some (nD (loX xs)), some (nD (hiX xs)), u8, some (nD (mi (hiX xs) (loX xs))), some (nD (1, 1)), u11, u12, u13, u14, u15, u16, u17, u18, u19, u20, u21] S := by
  obtain ⟨g, g0, e1, e2, w0, s0, s1, s2⟩ := span_in rw_
  refine ⟨_, rfl, _, rfl, ?_⟩
  refine itd (fun c => ?_) (fun c => ?_)
  · have c' : 0 < (mi (hiX xs) (loX xs)).1 := c
    obtain ⟨s, hst⟩ := st_some (m := m) s1 w0 m1
    have sk := sk_st rw_ m1 m2 c' hst
    have bsp : Bd 60 (mi (hiX xs) (loX xs)) := ⟨by unfold Lt; omega, w0, by unfold Lt; omega⟩
    have hm : Lt 100 m := by unfold Lt; omega
    refine ⟨_, rfl, _, hs, by rw [List.length_map, steps_len, sizeLine_eq]; decide, fun i acc S' => acc = ((stepsL.take i).filter fun s => decide ((mi (hiX xs) (loX xs)).1 * s.2 ≤ s.1 * m * (mi (hiX xs) (loX xs)).2)).map nD ∧ S = S', ⟨rfl, rfl⟩, ?_, ?_, ?_⟩
    · rintro i acc S' ⟨rfl, rfl⟩
      exact hs
    · rintro i d acc S' h ⟨rfl, rfl⟩
      rw [List.getElem?_map] at h
      cases hv : stepsL[i]? with
      | none => rw [hv] at h; cases h
      | some u =>
        rw [hv] at h
        cases h
        have hu := List.mem_of_getElem? hv
        rw [steps_eq] at hu
        obtain ⟨c1, c2, c3, c4⟩ := cands_ok u hu
        have bu1 : Lt 110 u.1 := by unfold Lt; omega
        have bu2 : Lt 110 u.2 := by unfold Lt; omega
        have ef : (stepsL.take (i + 1)).filter (fun s => decide ((mi (hiX xs) (loX xs)).1 * s.2 ≤ s.1 * m * (mi (hiX xs) (loX xs)).2)) = (stepsL.take i).filter (fun s => decide ((mi (hiX xs) (loX xs)).1 * s.2 ≤ s.1 * m * (mi (hiX xs) (loX xs)).2)) ++ [u].filter (fun s => decide ((mi (hiX xs) (loX xs)).1 * s.2 ≤ s.1 * m * (mi (hiX xs) (loX xs)).2)) := by
          rw [List.take_succ, hv, List.filter_append]
          rfl
        refine ⟨_, rfl, _, rfl, _, rfl, mul_sz (bu1.sz (by decide)) (hm.sz (by decide)), _, rfl, _, rfl, mul_sz ((bu1.mul hm).sz (by decide)) (bsp.b.sz (by decide)), _, rfl, _, rfl, _, rfl, _, rfl, mul_sz (bsp.a.sz (by decide)) (bu2.sz (by decide)), ?_⟩
        refine itd (fun c5 => ?_) (fun c5 => ?_)
        · have c6 : (mi (hiX xs) (loX xs)).1 * u.2 ≤ u.1 * m * (mi (hiX xs) (loX xs)).2 := c5
          refine ⟨_, rfl, _, Sub.refl _, ?_, rfl⟩
          rw [ef, List.map_append]
          simp [List.filter, c6]
        · have c6 : ¬ (mi (hiX xs) (loX xs)).1 * u.2 ≤ u.1 * m * (mi (hiX xs) (loX xs)).2 := c5
          refine ⟨_, Sub.refl _, ?_, rfl⟩
          rw [ef]
          simp [List.filter, c6]
    · rintro acc S' gd ⟨rfl, rfl⟩ hg
      rw [List.length_map, List.take_length]
      have hgh := good_head hst
      generalize hgl : stepsL.filter (fun s => decide ((mi (hiX xs) (loX xs)).1 * s.2 ≤ s.1 * m * (mi (hiX xs) (loX xs)).2)) = gl at *
      match gl, hgh with
      | u :: rest, hgh =>
        cases hgh
        refine ⟨_, rfl, _, _, put_same, at0, ?_⟩
        refine ⟨_, rfl, ⟨by decide, by decide, by decide, rfl⟩, _, rfl, _, rfl, mi (hiX xs) (loX xs), m, rfl, bsp.mono (by decide), fun _ _ _ s' e => ?_, fun z => ?_⟩
        · rw [hst] at e
          cases e
          refine ⟨_, rfl, rfl, rfl, ?_⟩
          refine ite_no (deq_refl 60 _ rfl) ?_
          refine ⟨_, rfl, ⟨by decide, by decide, by decide, rfl⟩, _, rfl, _, rfl, _, rfl, s, mi (hiX xs) (loX xs), m, rfl, sk.bs.mono (by decide), bsp.mono (by decide), hm, ?_⟩
          have hcov : (!lt (s.1 * m, s.2) (mi (hiX xs) (loX xs))) = true := (st_ok hst).2
          rw [hcov]
          exact L8 hD (hI.new hg) rw_ (keep_put hr hg) m1 m2 sk
        · rcases z with z | z
          · exact absurd ⟨c', m1, m2⟩ z
          · rw [hst] at z; cases z
  · have c' : ¬ 0 < (mi (hiX xs) (loX xs)).1 := c
    exact L8 hD hI rw_ hr m1 m2 (sk_one rw_ m1 (by omega))

theorem L6 {Z : Zt} {D0 : EndsD} {S : DS} {kq q : Addr} (hD : End D0 kq q) (hI : Inv kq q S) {u0 u3 u8 u10 u11 u12 u13 u14 u15 u16 u17 u18 u19 u20 u21 : Option D} {ls : Addr} {lr : Addr} {xs : List Nu} (rw_ : RW xs) (hr : S lr = some (.lst (xs.map nD))) {m : Int} (m1 : 1 ≤ m) (m2 : m ≤ 20) (hs : S ls = some (.lst (stepsL.map nD)))  :
    t_law_1_6 Z D0 [u0, some (.ref ls), some (.ref q), u3, some (.ref lr), some (.int m), some (nD (loX xs)), some (nD (hiX xs)), u8, some (nD (mi (hiX xs) (loX xs))), u10, u11, u12, u13, u14, u15, u16, u17, u18, u19, u20, u21] S := by
  refine ⟨i2, ?_⟩
  exact L7 hD hI rw_ hr m1 m2 hs

theorem L5 {Z : Zt} {D0 : EndsD} {S : DS} {kq q : Addr} (hD : End D0 kq q) (hI : Inv kq q S) {u0 u3 u8 u9 u10 u11 u12 u13 u14 u15 u16 u17 u18 u19 u20 u21 : Option D} {ls : Addr} {lr : Addr} {xs : List Nu} (rw_ : RW xs) (hr : S lr = some (.lst (xs.map nD))) {m : Int} (m1 : 1 ≤ m) (m2 : m ≤ 20) (hs : S ls = some (.lst (stepsL.map nD)))  :
    t_law_1_5 Z D0 [u0, some (.ref ls), some (.ref q), u3, some (.ref lr), some (.int m), some (nD (loX xs)), some (nD (hiX xs)), u8, u9, u10, u11, u12, u13, u14, u15, u16, u17, u18, u19, u20, u21] S := by
  have bl := rw_.bd rw_.lo (k := 20) (by decide)
  have bh := rw_.bd rw_.hi (k := 20) (by decide)
  have w0 := Int.mul_pos bh.p bl.p
  refine ⟨_, rfl, ⟨by decide, by decide, by decide, rfl⟩, _, rfl, _, rfl, _, rfl, _, rfl, mul_sz (bh.a.sz (by decide)) (bl.b.sz (by decide)), _, rfl, _, rfl, _, rfl, _, rfl, mul_sz (bl.a.sz (by decide)) (bh.b.sz (by decide)), _, rfl, _, rfl, _, rfl, _, rfl, mul_sz (bh.b.sz (by decide)) (bl.b.sz (by decide)), (hiX xs).1 * (loX xs).2 - (loX xs).1 * (hiX xs).2, (hiX xs).2 * (loX xs).2, rfl, by omega, ((bh.a.mul bl.b).sub (bl.a.mul bh.b)).sz (by decide), (bh.b.mul bl.b).sz (by decide), fun y => absurd y (by omega), ?_⟩
  exact L6 hD hI rw_ hr m1 m2 hs

theorem L4 {Z : Zt} {D0 : EndsD} {S : DS} {kq q : Addr} (hD : End D0 kq q) (hI : Inv kq q S) {u0 u3 u8 u9 u10 u11 u12 u13 u14 u15 u16 u17 u18 u19 u20 u21 : Option D} {ls : Addr} {lr : Addr} {xs : List Nu} (rw_ : RW xs) (hr : S lr = some (.lst (xs.map nD))) {m : Int} (m1 : 1 ≤ m) (m2 : m ≤ 20) (hs : S ls = some (.lst (stepsL.map nD)))  :
    t_law_1_4 Z D0 [u0, some (.ref ls), some (.ref q), u3, some (.ref lr), some (.int m), some (nD (loX xs)), some (nD (hiX xs)), u8, u9, u10, u11, u12, u13, u14, u15, u16, u17, u18, u19, u20, u21] S := by
  have le := rw_.le
  have bl := rw_.bd rw_.lo (k := 20) (by decide)
  have bh := rw_.bd rw_.hi (k := 20) (by decide)
  have w0 := Int.mul_pos bl.p bh.p
  have hlh := rw_.le_hi rw_.lo
  refine ⟨_, rfl, ⟨by decide, by decide, by decide, rfl⟩, _, rfl, lr, xs, rfl, hr, fun v hv => rw_.bd hv (by decide), fun x t e => ?_, fun e => absurd e rw_.ne⟩
  have ex' : hdF xs = x := by rw [e]; rfl
  rw [← ex']
  refine ⟨_, rfl, rfl, rfl, ?_⟩
  refine ite_no (deq_refl 60 _ rfl) ?_
  refine ⟨_, rfl, ⟨by decide, by decide, by decide, rfl⟩, _, rfl, .ref lr, xs, rfl, hr, by omega, fun v hv => rw_.bd hv (by decide), fun x t e => ?_, fun e => absurd e rw_.ne⟩
  have ex' : hdF xs = x := by rw [e]; rfl
  rw [← ex']
  have els : ng (lgF (ng (hdF xs)) (xs.map ng)) = loX xs := loS_eq xs (hdF xs)
  rw [els]
  refine ⟨_, rfl, rfl, rfl, ?_⟩
  refine ite_no (deq_refl 60 _ rfl) ?_
  refine ⟨_, rfl, ⟨by decide, by decide, by decide, rfl⟩, _, rfl, _, rfl, loX xs, hiX xs, rfl, bl.mono (by decide), bh.mono (by decide), ?_⟩
  refine ⟨_, rfl, _, rfl, rfl, rfl, ?_⟩
  refine ite_eq (by rw [deq_nD]; exact lt_ne (rw_.red _ rw_.lo) (rw_.red _ rw_.hi) hlh) ?_
  refine ⟨_, rfl, ⟨by decide, by decide, by decide, rfl⟩, _, rfl, _, rfl, loX xs, hiX xs, rfl, bl.mono (by decide), bh.mono (by decide), ?_⟩
  refine ⟨_, rfl, ⟨by decide, by decide, by decide, rfl⟩, _, rfl, _, rfl, _, rfl, _, rfl, mul_sz (bl.a.sz (by decide)) (bh.b.sz (by decide)), _, rfl, _, rfl, _, rfl, _, rfl, mul_sz (bh.a.sz (by decide)) (bl.b.sz (by decide)), _, rfl, _, rfl, _, rfl, _, rfl, mul_sz (bl.b.sz (by decide)) (bh.b.sz (by decide)), (loX xs).1 * (hiX xs).2 + (hiX xs).1 * (loX xs).2, (loX xs).2 * (hiX xs).2, rfl, by omega, ((bl.a.mul bh.b).add (bh.a.mul bl.b)).sz (by decide), (bl.b.mul bh.b).sz (by decide), fun y => absurd y (by omega), ?_⟩
  refine ⟨rfl, rfl, ?_⟩
  refine ite_no (deq_refl 60 (nD (pl (loX xs) (hiX xs))) rfl) ?_
  refine ⟨_, rfl, ⟨by decide, by decide, by decide, rfl⟩, _, rfl, _, rfl, loX xs, hiX xs, rfl, bl.mono (by decide), bh.mono (by decide), ?_⟩
  refine ⟨_, rfl, ⟨by decide, by decide, by decide, rfl⟩, _, rfl, _, rfl, _, rfl, _, rfl, mul_sz (bl.a.sz (by decide)) (bh.b.sz (by decide)), _, rfl, _, rfl, _, rfl, _, rfl, mul_sz (bh.a.sz (by decide)) (bl.b.sz (by decide)), _, rfl, _, rfl, _, rfl, _, rfl, mul_sz (bl.b.sz (by decide)) (bh.b.sz (by decide)), (loX xs).1 * (hiX xs).2 - (hiX xs).1 * (loX xs).2, (loX xs).2 * (hiX xs).2, rfl, by omega, ((bl.a.mul bh.b).sub (bh.a.mul bl.b)).sz (by decide), (bl.b.mul bh.b).sz (by decide), fun y => absurd y (by omega), ?_⟩
  refine ⟨rfl, rfl, ?_⟩
  exact ite_no (deq_refl 60 (nD (mi (loX xs) (hiX xs))) rfl) (L5 hD hI rw_ hr m1 m2 hs)

theorem L3 {Z : Zt} {D0 : EndsD} {S : DS} {kq q : Addr} (hD : End D0 kq q) (hI : Inv kq q S) {u0 u3 u8 u9 u10 u11 u12 u13 u14 u15 u16 u17 u18 u19 u20 u21 : Option D} {ls : Addr} {lr : Addr} {xs : List Nu} (rw_ : RW xs) (hr : S lr = some (.lst (xs.map nD))) {m : Int} (m1 : 1 ≤ m) (m2 : m ≤ 20) (hs : S ls = some (.lst (stepsL.map nD)))  :
    t_law_1_3 Z D0 [u0, some (.ref ls), some (.ref q), u3, some (.ref lr), some (.int m), some (nD (hdF xs)), some (nD (hdF xs)), u8, u9, u10, u11, u12, u13, u14, u15, u16, u17, u18, u19, u20, u21] S := by
  refine ⟨_, rfl, _, hr, fun i r S' => (∃ u8, r = [u0, some (.ref ls), some (.ref q), u3, some (.ref lr), some (.int m), some (nD (loF (hdF xs) (xs.take i))), some (nD (lgF (hdF xs) (xs.take i))), u8, u9, u10, u11, u12, u13, u14, u15, u16, u17, u18, u19, u20, u21]) ∧ S = S', ⟨⟨u8, rfl⟩, rfl⟩, ?_, ?_, ?_⟩
  · rintro i r S' ⟨_, rfl⟩
    exact hr
  · rintro i d r S' h ⟨⟨u8, rfl⟩, rfl⟩
    rw [List.getElem?_map] at h
    cases hv : xs[i]? with
    | none => rw [hv] at h; cases h
    | some v =>
      rw [hv] at h
      cases h
      have bv := rw_.bd (List.mem_of_getElem? hv) (k := 20) (by decide)
      have b1 : Bd 20 (loF (hdF xs) (xs.take i)) := loF_in (P := Bd 20) (rw_.bd (hdF_mem rw_.ne) (by decide)) (fun u hu => rw_.bd hu (by decide)) i
      have b2 : Bd 20 (lgF (hdF xs) (xs.take i)) := lgF_in (P := Bd 20) (rw_.bd (hdF_mem rw_.ne) (by decide)) (fun u hu => rw_.bd hu (by decide)) i
      have t2 : ∀ D1 : EndsD, (∀ u : Option D, D1.nx [u0, some (.ref ls), some (.ref q), u3, some (.ref lr), some (.int m), some (nD (loF (hdF xs) (xs.take (i + 1)))), some (nD (lgF (hdF xs) (xs.take (i + 1)))), some (nD v), u9, u10, u11, u12, u13, u14, u15, u16, u17, u18, u19, u20, u21] S) → t_law_1_3_1 Z D1 [u0, some (.ref ls), some (.ref q), u3, some (.ref lr), some (.int m), some (nD (loF (hdF xs) (xs.take (i + 1)))), some (nD (lgF (hdF xs) (xs.take i))), some (nD v), u9, u10, u11, u12, u13, u14, u15, u16, u17, u18, u19, u20, u21] S := fun D1 hD1 => by
        refine ⟨_, rfl, _, rfl, _, rfl, _, rfl, mul_sz (b2.a.sz (by decide)) (bv.b.sz (by decide)), _, rfl, _, rfl, _, rfl, _, rfl, mul_sz (bv.a.sz (by decide)) (b2.b.sz (by decide)), ?_⟩
        rw [lgF_take _ _ i v hv] at hD1
        refine itd (fun c => ?_) (fun c => ?_)
        · rw [if_pos (lt_iff.mpr c)] at hD1
          exact ⟨_, rfl, hD1 (some (nD v))⟩
        · rw [if_neg (fun z => c (lt_iff.mp z))] at hD1
          exact ⟨_, rfl, hD1 (some (nD v))⟩
      refine ⟨_, rfl, _, rfl, _, rfl, _, rfl, mul_sz (bv.a.sz (by decide)) (b1.b.sz (by decide)), _, rfl, _, rfl, _, rfl, _, rfl, mul_sz (b1.a.sz (by decide)) (bv.b.sz (by decide)), ?_⟩
      rw [loF_take _ hv] at t2
      refine itd (fun c => ?_) (fun c => ?_)
      · rw [if_pos (lt_iff.mpr c)] at t2
        exact ⟨_, rfl, t2 _ fun u => ⟨_, Sub.refl _, ⟨some (nD v), by rw [loF_take _ hv, if_pos (lt_iff.mpr c)]⟩, rfl⟩⟩
      · rw [if_neg (fun z => c (lt_iff.mp z))] at t2
        exact ⟨_, rfl, t2 _ fun u => ⟨_, Sub.refl _, ⟨some (nD v), by rw [loF_take _ hv, if_neg (fun z => c (lt_iff.mp z))]⟩, rfl⟩⟩
  · rintro r S' ⟨⟨u8, rfl⟩, rfl⟩
    rw [List.length_map, List.take_length]
    exact L4 hD hI rw_ hr m1 m2 hs

theorem L2_ {Z : Zt} {D0 : EndsD} {S : DS} {kq q : Addr} (hD : End D0 kq q) (hI : Inv kq q S) {u0 u3 u6 u7 u8 u9 u10 u11 u12 u13 u14 u15 u16 u17 u18 u19 u20 u21 : Option D} {ls : Addr} {lr : Addr} {xs : List Nu} (rw_ : RW xs) (hr : S lr = some (.lst (xs.map nD))) {m : Int} (m1 : 1 ≤ m) (m2 : m ≤ 20) (hs : S ls = some (.lst (stepsL.map nD)))  :
    t_law_1_2 Z D0 [u0, some (.ref ls), some (.ref q), u3, some (.ref lr), some (.int m), u6, u7, u8, u9, u10, u11, u12, u13, u14, u15, u16, u17, u18, u19, u20, u21] S := by
  refine ⟨_, rfl, _, _, hr, hd_at rw_.ne, _, rfl, _, _, hr, hd_at rw_.ne, i2, rfl, rfl, ?_⟩
  exact L3 hD hI rw_ hr m1 m2 hs

theorem L1 {Z : Zt} {D0 : EndsD} {S : DS} {kq q : Addr} (hD : End D0 kq q) (hI : Inv kq q S) {u0 u3 u5 u6 u7 u8 u9 u10 u11 u12 u13 u14 u15 u16 u17 u18 u19 u20 u21 : Option D} {ls : Addr} {lr : Addr} {xs : List Nu} (rw_ : RW xs) (hr : S lr = some (.lst (xs.map nD))) (hs : S ls = some (.lst (stepsL.map nD)))  :
    t_law_1_1 Z D0 [u0, some (.ref ls), some (.ref q), u3, some (.ref lr), u5, u6, u7, u8, u9, u10, u11, u12, u13, u14, u15, u16, u17, u18, u19, u20, u21] S := by
  obtain ⟨a, b, d, hq⟩ := hI.at
  have nr := ne_q hq hr rw_.ne
  have nss := ne_q hq hs (fun e => by have := steps_len; rw [e] at this; cases this)
  refine ⟨_, rfl, ⟨by decide, by decide, by decide, rfl⟩, _, rfl, q, 20, a, b, d, rfl, by decide, by decide, hq, fun v a b d v0 v1 => ?_⟩
  exact L2_ hD (hI.dice a b d) rw_ (by rw [put_ne nr]; exact hr) (by omega) (by omega) (by rw [put_ne nss]; exact hs)

theorem rw_ex {P W : Int} (hP : Lt 20 P) (h0 : 0 < W) (hW : W ≤ 100) : Red (ex P W) ∧ Lt 20 (ex P W).1 ∧ Lt 7 (ex P W).2 := by
  obtain ⟨g, g0, e1, e2, w0, _⟩ := exE (p := P) h0
  have b := ex_bd (k := 20) h0 hP (by unfold Lt; omega)
  refine ⟨ex_red h0, b.a, ?_⟩
  have : 1 * (ex P W).2 ≤ g * (ex P W).2 := Int.mul_le_mul_of_nonneg_right (by omega) (by omega)
  unfold Lt
  omega

theorem L0 {Z : Zt} {D0 : EndsD} {S : DS} {kq q : Addr} (hD : End D0 kq q) (hI : Inv kq q S) {u0 u3 u4 u5 u6 u7 u8 u9 u10 u11 u12 u13 u14 u15 u16 u17 u18 u19 u20 u21 : Option D} {ls : Addr} (hs : S ls = some (.lst (stepsL.map nD)))  :
    t_law_1_0 Z D0 [u0, some (.ref ls), some (.ref q), u3, u4, u5, u6, u7, u8, u9, u10, u11, u12, u13, u14, u15, u16, u17, u18, u19, u20, u21] S := by
  obtain ⟨a, b, d, hq⟩ := hI.at
  have sne : stepsL ≠ [] := fun e => by have := steps_len; rw [e] at this; cases this
  have nss := ne_q hq hs sne
  refine ⟨_, rfl, ⟨by decide, by decide, by decide, rfl⟩, _, rfl, q, 8, a, b, d, rfl, by decide, by decide, hq, fun v a b d v0 v1 => ?_⟩
  have hI1 := hI.dice a b d
  have hs1 : put S q (.lst [.int a, .int b, .int d]) ls = some (.lst (stepsL.map nD)) := by rw [put_ne nss]; exact hs
  generalize put S q (.lst [.int a, .int b, .int d]) = S1 at *
  clear hI hs hq a b d
  refine ⟨⟨by omega, by omega⟩, by rw [rngD_len, sizeLine_eq]; omega, fun i acc S' => ∃ xs : List Nu, acc = xs.map nD ∧ xs.length = i ∧ (∀ v ∈ xs, Red v ∧ Lt 20 v.1 ∧ Lt 7 v.2) ∧ Inv kq q S' ∧ S' ls = some (.lst (stepsL.map nD)), ⟨[], rfl, rfl, (fun v h => nomatch h), hI1, hs1⟩, fun _ _ _ _ => trivial, ?_, ?_⟩
  · rintro i d acc S' hd ⟨xs, rfl, hi, hx, hI, hs⟩
    obtain ⟨a, b, d, hq⟩ := hI.at
    refine ⟨_, rfl, ⟨by decide, by decide, by decide, rfl⟩, _, rfl, ⟨by decide, by decide, by decide, rfl⟩, _, rfl, ⟨by decide, by decide, by decide⟩, by show 3 ≤ sizeLine; decide, fun l hl => ?_⟩
    have nq : l ≠ q := by intro z; subst z; rw [hq] at hl; cases hl
    refine ⟨_, rfl, ⟨by decide, by decide, by decide, rfl⟩, _, rfl, q, 3, a, b, d, rfl, by decide, by decide, keep_put hq hl, fun w a b d w0 w1 => ?_⟩
    have lk : put (put S' l (.lst [.int 20, .int 3000, .int (10 ^ 6)])) q (.lst [.int a, .int b, .int d]) l = some (.lst [.int 20, .int 3000, .int (10 ^ 6)]) := by rw [put_ne nq]; exact put_same
    obtain ⟨m, hat, hm0, hm1⟩ : ∃ m : Int, atI [D.int 20, .int 3000, .int (10 ^ 6)] w = some (.int m) ∧ 0 < m ∧ m ≤ 1000000 := by
      obtain rfl | rfl | rfl : w = 0 ∨ w = 1 ∨ w = 2 := by omega
      · exact ⟨_, rfl, by decide, by decide⟩
      · exact ⟨_, rfl, by decide, by decide⟩
      · exact ⟨_, rfl, by decide, by decide⟩
    have hI2 := (hI.new (o := .lst [.int 20, .int 3000, .int (10 ^ 6)]) hl).dice a b d
    have nsq := ne_q hq hs sne
    have hs2 : put (put S' l (.lst [.int 20, .int 3000, .int (10 ^ 6)])) q (.lst [.int a, .int b, .int d]) ls = some (.lst (stepsL.map nD)) := by rw [put_ne nsq]; exact keep_put hs hl
    refine ⟨_, _, lk, hat, q, m, a, b, d, rfl, hm0, by omega, put_same, fun v1 a1 b1 d1 x0 x1 => ?_⟩
    have hI3 := hI2.dice a1 b1 d1
    have hs3 : put (put (put S' l (.lst [.int 20, .int 3000, .int (10 ^ 6)])) q (.lst [.int a, .int b, .int d])) q (.lst [.int a1, .int b1, .int d1]) ls = some (.lst (stepsL.map nD)) := by rw [put_ne nsq]; exact hs2
    refine ⟨_, rfl, ⟨by decide, by decide, by decide, rfl⟩, _, rfl, q, 30, a1, b1, d1, rfl, by decide, by decide, put_same, fun v2 a2 b2 d2 y0 y1 => ?_⟩
    have hI4 := hI3.dice a2 b2 d2
    have hs4 : put (put (put (put S' l (.lst [.int 20, .int 3000, .int (10 ^ 6)])) q (.lst [.int a, .int b, .int d])) q (.lst [.int a1, .int b1, .int d1])) q (.lst [.int a2, .int b2, .int d2]) ls = some (.lst (stepsL.map nD)) := by rw [put_ne nsq]; exact hs3
    have hq4 : put (put (put (put S' l (.lst [.int 20, .int 3000, .int (10 ^ 6)])) q (.lst [.int a, .int b, .int d])) q (.lst [.int a1, .int b1, .int d1])) q (.lst [.int a2, .int b2, .int d2]) q = some (.lst [.int a2, .int b2, .int d2]) := put_same
    refine ⟨by show 5 ≤ sizeLine; decide, fun l2 hl2 => ?_⟩
    have nq2 : l2 ≠ q := by intro z; subst z; rw [put_same] at hl2; cases hl2
    refine ⟨_, rfl, ⟨by decide, by decide, by decide, rfl⟩, _, rfl, q, 5, a2, b2, d2, rfl, by decide, by decide, keep_put hq4 hl2, fun v3 a3 b3 d3 z0 z1 => ?_⟩
    obtain ⟨W, hat2, hW0, hW1⟩ : ∃ W : Int, atI [D.int 1, .int 1, .int 3, .int 8, .int 100] v3 = some (.int W) ∧ 0 < W ∧ W ≤ 100 := by
      obtain rfl | rfl | rfl | rfl | rfl : v3 = 0 ∨ v3 = 1 ∨ v3 = 2 ∨ v3 = 3 ∨ v3 = 4 := by omega
      · exact ⟨_, rfl, by decide, by decide⟩
      · exact ⟨_, rfl, by decide, by decide⟩
      · exact ⟨_, rfl, by decide, by decide⟩
      · exact ⟨_, rfl, by decide, by decide⟩
      · exact ⟨_, rfl, by decide, by decide⟩
    have bP : Lt 20 (v1 - v2) := by unfold Lt; omega
    refine ⟨_, _, (by rw [put_ne nq2]; exact put_same), hat2, v1 - v2, W, rfl, by omega, bP.sz (by decide), (show Lt 20 W by unfold Lt; omega).sz (by decide), fun y => absurd y (by omega), ?_⟩
    refine ⟨_, Sub.refl _, xs ++ [ex (v1 - v2) W], by rw [List.map_append] <;> rfl, by rw [List.length_append, hi]; rfl, fun u hu => ?_, (hI4.new hl2).dice a3 b3 d3, ?_⟩
    · rcases List.mem_append.mp hu with hu | hu
      · exact hx u hu
      · rw [List.mem_singleton.mp hu]
        exact rw_ex bP hW0 hW1
    · rw [put_ne nsq]
      exact keep_put hs4 hl2
  · rintro acc S' l ⟨xs, rfl, hi, hx, hI, hs⟩ hl
    rw [rngD_len] at hi
    refine L1 hD (hI.new hl) ⟨fun v hv => (hx v hv).1, fun v hv => (hx v hv).2.1, fun v hv => (hx v hv).2.2, fun e => ?_, by omega⟩ put_same (keep_put hs hl)
    rw [e] at hi
    have hi : 0 = (1 + v).toNat := hi
    omega

theorem ite_yes {c : Bool} {A B : Prop} (h : c = true) (k : A) : if c = true then A else B := (if_pos h).mpr k

theorem T3 {Z : Zt} {Q : QD} {E : XD} {S : DS} (hQ : ∀ S, Q (.bl true) S) {u0 u1 u2 u4 u5 u6 u7 u8 u9 u10 u11 u12 u13 u14 u15 u16 u17 u18 u19 u20 u21 : Option D} {g : Addr} {ds : List D} (hg : S g = some (.lst ds)) (hl : ds.length ≤ 15) (hd : ∀ (i : Nat) (d : D), ds[i]? = some d → ∃ (f : Addr) (j : Nat), d = .ref f ∧ S f = some (.oth (isLam Z j)) ∧ j < 15) :
    t_law_3 Z (fin Q E) [u0, u1, u2, some (.ref g), u4, u5, u6, u7, u8, u9, u10, u11, u12, u13, u14, u15, u16, u17, u18, u19, u20, u21] S := by
  refine ⟨_, rfl, _, hg, by rw [sizeLine_eq]; omega, fun i acc S' => acc = [] ∧ S' = S, ⟨rfl, rfl⟩, ?_, ?_, ?_⟩
  · rintro i acc S' ⟨rfl, rfl⟩
    exact hg
  · rintro i d acc S' h ⟨rfl, rfl⟩
    obtain ⟨f, j, rfl, hf, hj⟩ := hd i d h
    refine ⟨_, rfl, ⟨by show 8 ≤ 8; decide, by show 1 ≤ 1; decide, by show 1 ≤ 1 + 0; decide, rfl⟩, _, rfl, f, j, rfl, hf, hj, ?_⟩
    exact ⟨_, Sub.refl _, rfl, rfl⟩
  · rintro acc S' l ⟨rfl, rfl⟩ hl'
    refine ⟨by show 0 ≤ sizeLine; decide, fun g2 hg2 => ⟨_, _, keep_put put_same hg2, put_same, rfl, rfl, ?_⟩⟩
    refine ⟨i2, i2, rfl, rfl, ?_⟩
    refine ⟨_, rfl, ⟨by decide, by decide, by decide, rfl⟩, 2, rfl, by decide, by decide, _, rfl, ⟨by decide, by decide, by decide, rfl⟩, -2, rfl, by decide, by decide, _, rfl, ⟨by decide, by decide, by decide, rfl⟩, 4, 6, rfl, by decide, (show Lt 8 4 by unfold Lt; decide).sz (by decide), (show Lt 8 6 by unfold Lt; decide).sz (by decide), fun y => absurd y (by decide), _, rfl, ⟨by decide, by decide, by decide, rfl⟩, 3, -6, rfl, by decide, (show Lt 8 3 by unfold Lt; decide).sz (by decide), (show Lt 8 (-6) by unfold Lt; decide).sz (by decide), fun _ => by decide, by show 4 ≤ sizeLine; decide, fun l1 hl1 => ?_⟩
    refine ⟨i2, i2, i2, i2, by show 4 ≤ sizeLine; decide, fun l2 hl2 => ⟨_, _, keep_put put_same hl2, put_same, rfl, rfl, ?_⟩⟩
    rw [show deqs [nD (pw 2), nD (pw (-2)), nD (ex 4 6), nD (ex 3 (-6))] [D.tup [D.int 100, D.int 1], D.tup [D.int 1, D.int 100], D.tup [D.int 2, D.int 3], D.tup [D.int (-1), D.int 2]] = true by decide +kernel]
    refine ⟨_, rfl, ⟨by decide, by decide, by decide, rfl⟩, i2, i2, i2, by show 3 ≤ sizeLine; decide, fun l3 hl3 => ⟨l3, [(1, 1), (1, 1), (1, 1)], 2, rfl, put_same, fun v hv => ?_, by decide, by unfold Lt; decide, .inr ⟨fun v hv => ?_, by decide +kernel, by decide, by decide, by decide +kernel, by decide +kernel, ?_⟩⟩⟩
    · have hv : v = (1, 1) := by simpa using hv
      rw [hv]
      exact bdl (by decide) (by decide) (by decide) (by decide)
    · have hv : v = (1, 1) := by simpa using hv
      rw [hv]
      decide
    · have e : (shLoop (2 - (([(1, 1), (1, 1), (1, 1)] : List Nu).map fun v => fl (shr 2 (totF [(1, 1), (1, 1), (1, 1)]) v)).sum).toNat (([(1, 1), (1, 1), (1, 1)] : List Nu).map fun v => fl (shr 2 (totF [(1, 1), (1, 1), (1, 1)]) v), ([(1, 1), (1, 1), (1, 1)] : List Nu).map fun v => lossF (shr 2 (totF [(1, 1), (1, 1), (1, 1)]) v))).1 = [1, 1, 0] := by decide +kernel
      rw [e]
      exact ⟨by show 3 ≤ sizeLine; decide, rfl, rfl, _, Sub.refl _, hQ _⟩

theorem T2 {Z : Zt} {Q : QD} {E : XD} {S : DS} (hQ : ∀ S, Q (.bl true) S) {u0 u1 u2 u3 u4 u5 u6 u7 u8 u9 u10 u11 u12 u13 u14 u15 u16 u17 u18 u19 u20 u21 : Option D}  :
    t_law_2 Z (fin Q E) [u0, u1, u2, u3, u4, u5, u6, u7, u8, u9, u10, u11, u12, u13, u14, u15, u16, u17, u18, u19, u20, u21] S := by
  refine fun f0 h0 f1 h1 f2 h2 f3 h3 f4 h4 f5 h5 f6 h6 f7 h7 f8 h8 f9 h9 f10 h10 f11 h11 f12 h12 f13 h13 f14 h14 => ?_
  refine ⟨by show 15 ≤ sizeLine; decide, fun g hg => ?_⟩
  refine T3 hQ put_same (Nat.le_refl _) fun i d hd => ?_
  match i, hd with
  | 0, hd => cases hd; exact ⟨f0, 0, rfl, (keep_put (keep_put (keep_put (keep_put (keep_put (keep_put (keep_put (keep_put (keep_put (keep_put (keep_put (keep_put (keep_put (keep_put (keep_put put_same h1) h2) h3) h4) h5) h6) h7) h8) h9) h10) h11) h12) h13) h14) hg), by decide⟩
  | 1, hd => cases hd; exact ⟨f1, 1, rfl, (keep_put (keep_put (keep_put (keep_put (keep_put (keep_put (keep_put (keep_put (keep_put (keep_put (keep_put (keep_put (keep_put (keep_put put_same h2) h3) h4) h5) h6) h7) h8) h9) h10) h11) h12) h13) h14) hg), by decide⟩
  | 2, hd => cases hd; exact ⟨f2, 2, rfl, (keep_put (keep_put (keep_put (keep_put (keep_put (keep_put (keep_put (keep_put (keep_put (keep_put (keep_put (keep_put (keep_put put_same h3) h4) h5) h6) h7) h8) h9) h10) h11) h12) h13) h14) hg), by decide⟩
  | 3, hd => cases hd; exact ⟨f3, 3, rfl, (keep_put (keep_put (keep_put (keep_put (keep_put (keep_put (keep_put (keep_put (keep_put (keep_put (keep_put (keep_put put_same h4) h5) h6) h7) h8) h9) h10) h11) h12) h13) h14) hg), by decide⟩
  | 4, hd => cases hd; exact ⟨f4, 4, rfl, (keep_put (keep_put (keep_put (keep_put (keep_put (keep_put (keep_put (keep_put (keep_put (keep_put (keep_put put_same h5) h6) h7) h8) h9) h10) h11) h12) h13) h14) hg), by decide⟩
  | 5, hd => cases hd; exact ⟨f5, 5, rfl, (keep_put (keep_put (keep_put (keep_put (keep_put (keep_put (keep_put (keep_put (keep_put (keep_put put_same h6) h7) h8) h9) h10) h11) h12) h13) h14) hg), by decide⟩
  | 6, hd => cases hd; exact ⟨f6, 6, rfl, (keep_put (keep_put (keep_put (keep_put (keep_put (keep_put (keep_put (keep_put (keep_put put_same h7) h8) h9) h10) h11) h12) h13) h14) hg), by decide⟩
  | 7, hd => cases hd; exact ⟨f7, 7, rfl, (keep_put (keep_put (keep_put (keep_put (keep_put (keep_put (keep_put (keep_put put_same h8) h9) h10) h11) h12) h13) h14) hg), by decide⟩
  | 8, hd => cases hd; exact ⟨f8, 8, rfl, (keep_put (keep_put (keep_put (keep_put (keep_put (keep_put (keep_put put_same h9) h10) h11) h12) h13) h14) hg), by decide⟩
  | 9, hd => cases hd; exact ⟨f9, 9, rfl, (keep_put (keep_put (keep_put (keep_put (keep_put (keep_put put_same h10) h11) h12) h13) h14) hg), by decide⟩
  | 10, hd => cases hd; exact ⟨f10, 10, rfl, (keep_put (keep_put (keep_put (keep_put (keep_put put_same h11) h12) h13) h14) hg), by decide⟩
  | 11, hd => cases hd; exact ⟨f11, 11, rfl, (keep_put (keep_put (keep_put (keep_put put_same h12) h13) h14) hg), by decide⟩
  | 12, hd => cases hd; exact ⟨f12, 12, rfl, (keep_put (keep_put (keep_put put_same h13) h14) hg), by decide⟩
  | 13, hd => cases hd; exact ⟨f13, 13, rfl, (keep_put (keep_put put_same h14) hg), by decide⟩
  | 14, hd => cases hd; exact ⟨f14, 14, rfl, (keep_put put_same hg), by decide⟩
  | n + 15, hd => cases hd

theorem isScript_new {S : DS} {x : D} {ns : List Int} {l : Addr} {o : O} (h : IsScript S x ns) (hl : S l = none) : IsScript (put S l o) x ns := by
  rcases h with h | ⟨a, h1, h2⟩
  · exact .inl h
  · exact .inr ⟨a, h1, keep_put h2 hl⟩

theorem law_read {Z : Zt} : ∀ ds S Q0 E0, sp_law ds S Q0 E0 → t_law_0 Z (fin Q0 E0) (startD ["script", "steps", "dice", "bad", "rows", "most", "low", "high", "value", "span", "step", "marks", "first", "last", "size", "good", "due", "near", "k", "one", "f", "place"] ds) S := by
  rintro ds S Q E ⟨ns, x, rfl, hx, hQ⟩
  refine ⟨_, rfl, ⟨by decide, by decide, by decide, rfl⟩, rfl, fun ls hls => ?_⟩
  refine ⟨_, rfl, ⟨by decide, by decide, by decide, rfl⟩, _, rfl, ns, x, rfl, isScript_new hx hls, fun a b d p q hp hq hpq => ?_⟩
  have hp2 : put (put (put S ls (.lst (stepsL.map nD))) p (.lst [.int a, .int b, .int d])) q (.lst [.ref p]) p = some (.lst [.int a, .int b, .int d]) := (put_ne hpq).trans put_same
  refine ⟨[.ref p], put_same, fun i r S' => (i = 0 ∧ r = (startD ["script", "steps", "dice", "bad", "rows", "most", "low", "high", "value", "span", "step", "marks", "first", "last", "size", "good", "due", "near", "k", "one", "f", "place"] [x]).set 1 (some (.ref ls)) ∧ S' = put (put (put S ls (.lst (stepsL.map nD))) p (.lst [.int a, .int b, .int d])) q (.lst [.ref p])) ∨ (i = 1 ∧ r.length = 22 ∧ S' q = some (.lst [.ref p])), .inl ⟨rfl, rfl, rfl⟩, ?_, ?_, ?_⟩
  · rintro i r S' (⟨_, _, rfl⟩ | ⟨_, _, h⟩)
    · exact put_same
    · exact h
  · rintro i d' r S' hd (⟨rfl, rfl, rfl⟩ | ⟨rfl, _, h⟩)
    · cases hd
      refine L0 (kq := q) (q := p) ?_ ⟨put_same, a, b, d, hp2⟩ (keep_put (keep_put put_same hp) (by rw [put_ne hpq.symm]; exact hq))
      exact fun r S hr hk => ⟨S, Sub.refl _, .inr ⟨rfl, hr, hk.1⟩⟩
    · cases hd
  · rintro r S' (⟨h, _⟩ | ⟨_, hr, _⟩)
    · cases h
    · match r, hr with
      | [u0, u1, u2, u3, u4, u5, u6, u7, u8, u9, u10, u11, u12, u13, u14, u15, u16, u17, u18, u19, u20, u21], _ => exact T2 hQ

end K09

set_option Elab.async false
set_option linter.all false
set_option maxRecDepth 100000
set_option maxHeartbeats 4000000
namespace K09
open PySem PySem.Spec PyProof.Rows L2 G
theorem ok_ten_to {P : Program} {w : World} {K : PySem.W.Frag} {mg : Str → Option Value} {base : Heap} {Z : Zt} {f : Addr} {fd : FuncData} {cdv : Value} (hfn : ∀ i, Z.fn i = fnOf' fnT i) (hlm : ∀ j, Z.lm j = lmT j) (hM : TxOk P w K mg base Z tx (M0 Z)) (F : FunC K "ten_to" "ten_to" s_ten_to f fd cdv .none) : FnD P w K mg base Z 1 f (e_ten_to) := by
  have nd := sc_ten_to.nd
  refine FnD.mk0 (ps := ["power"]) (fn_bodyC F sc_ten_to (fun ds S Q E h => ?len) _ (fun A outer s H E hr => (pdss_cons (pds_set nd (i := 1) pd_int)
    (pdss_cons (pds_for (passes_of rfl) (by rfl) (pdi_range1 hM 3 (by rfl) (pda_cons (pd_var 0) pda_nil)) (pdg_name nd (i := 2)) (pdss_one (pds_aug nd (i := 1) pd_int id_mul)))
    (pdss_one (pds_ret (pd_var 1)))))) (fun ds S Q E h => ?hb)) rfl rfl (F.binds fun _ _ _ _ _ _ us hl => match us, hl with | [_], _ => rfl)
  case len => obtain ⟨_, rfl, _⟩ := h; rfl
  case hb =>
    obtain ⟨n, rfl, hn, h1⟩ := h
    refine ⟨_, rfl, ⟨by omega, by omega⟩, fun i r S' => (∃ o, r = [some (.int n), some (.int (10 ^ i)), o]) ∧ S' = S, ⟨⟨_, rfl⟩, rfl⟩, fun _ _ _ _ => trivial, ?_, ?_⟩
    · rintro i d r S' hd ⟨⟨o, rfl⟩, rfl⟩
      refine ⟨_, rfl, .inr (by decide), _, Sub.refl _, ⟨some d, ?_⟩, rfl⟩
      rw [Int.pow_succ]
      rfl
    · rintro r S' ⟨⟨o, rfl⟩, rfl⟩
      refine ⟨_, rfl, _, Sub.refl _, ?_⟩
      rw [rngD_len]
      exact h1

theorem ok_greatest_part {P : Program} {w : World} {K : PySem.W.Frag} {mg : Str → Option Value} {base : Heap} {Z : Zt} {f : Addr} {fd : FuncData} {cdv : Value} (hfn : ∀ i, Z.fn i = fnOf' fnT i) (hlm : ∀ j, Z.lm j = lmT j) (hM : TxOk P w K mg base Z tx (M1 Z)) (F : FunC K "greatest_part" "greatest_part" s_greatest_part f fd cdv .none) : FnD P w K mg base Z 1 f (e_greatest_part) := by
  have nd := sc_greatest_part.nd
  refine FnD.mk0 (ps := ["one", "other"]) (fn_bodyC F sc_greatest_part (fun ds S Q E h => ?len) _ (fun A outer s H E hr => (pdss_cons (pds_par2 (i := 0) (j := 1) (by rfl) nd (pda_cons (pd_bi hM cd_abs 7 (by rfl) (by rfl) bt_abs (pda_cons (pd_var 0) pda_nil)) (pda_cons (pd_bi hM cd_abs 7 (by rfl) (by rfl) bt_abs (pda_cons (pd_var 1) pda_nil)) pda_nil)) (by rfl))
    (pdss_cons (pds_while (sts := []) (passes_of rfl) (pdt_cmp (od_ne (hu64 hr)) (pd_var 1) pd_int) (pdss_one (pds_par2 (i := 0) (j := 1) (by rfl) nd (pda_cons (pd_var 1) (pda_cons (pd_op od_sub (pd_var 0) (pd_op od_mul (pd_op od_div (pd_var 0) (pd_var 1)) (pd_var 1))) pda_nil)) (by rfl))))
    (pdss_one (pds_ret (pd_var 0)))))) (fun ds S Q E h => ?hb)) rfl rfl (F.binds fun _ _ _ _ _ _ us hl => match us, hl with | [_, _], _ => rfl)
  case len => obtain ⟨_, _, rfl, _⟩ := h; rfl
  case hb =>
    obtain ⟨a, b, rfl, ha, hb, h1⟩ := h
    refine ⟨_, rfl, _, rfl, ?_⟩
    refine ⟨fun m r S' => ∃ x y : Nat, y = m ∧ x < 2 ^ 8000 ∧ y < 2 ^ 8000 ∧ Nat.gcd x y = Int.gcd a b ∧ r = [some (.int x), some (.int y)] ∧ S' = S, ⟨_, a.natAbs, b.natAbs, rfl, ha, hb, rfl, by show [some (D.int (if a < 0 then -a else a)), some (D.int (if b < 0 then -b else b))] = _; rw [abs_if, abs_if], rfl⟩, ?_⟩
    rintro m r S' ⟨x, y, rfl, hx, hy, hg, rfl, rfl⟩
    refine ⟨_, rfl, ?_⟩
    refine itn (fun c => ?_) (fun c => ?_)
    · have y0 : 0 < y := by omega
      have e : (x : Int) - (x : Int).fdiv (y : Int) * (y : Int) = ((x % y : Nat) : Int) := by
        rw [Int.fdiv_eq_ediv_of_nonneg _ (by omega)]
        have := Int.mul_ediv_add_emod (x : Int) (y : Int)
        rw [Int.natCast_emod]
        have h2 : (y : Int) * ((x : Int) / (y : Int)) = (x : Int) / (y : Int) * (y : Int) := Int.mul_comm _ _
        omega
      refine ⟨_, rfl, _, rfl, _, rfl, _, rfl, div_pos (by omega) hy, _, rfl, ?_⟩
      refine ⟨mul_sz ?_ hy, ?_⟩
      · rw [Int.fdiv_eq_ediv_of_nonneg _ (by omega)]
        show ((x : Int) / (y : Int)).natAbs < 2 ^ 8000
        rw [show (x : Int) / (y : Int) = ((x / y : Nat) : Int) from rfl, Int.natAbs_natCast]
        exact Nat.lt_of_le_of_lt (Nat.div_le_self _ _) hx
      · have hm := Nat.mod_lt x y0
        exact ⟨_, x % y, Sub.refl _, hm, y, x % y, rfl, hy, Nat.lt_trans hm hy, by rw [← hg, Nat.gcd_comm x y, Nat.gcd_rec y x, Nat.gcd_comm], by show [some (D.int (y : Int)), some (D.int ((x : Int) - (x : Int).fdiv (y : Int) * (y : Int)))] = _; rw [e], rfl⟩
    · have y0 : y = 0 := by omega
      subst y0
      refine ⟨_, rfl, _, Sub.refl _, ?_⟩
      rw [Nat.gcd_zero_right] at hg
      rw [hg]
      exact h1

theorem ok_exact {P : Program} {w : World} {K : PySem.W.Frag} {mg : Str → Option Value} {base : Heap} {Z : Zt} {f : Addr} {fd : FuncData} {cdv : Value} (hfn : ∀ i, Z.fn i = fnOf' fnT i) (hlm : ∀ j, Z.lm j = lmT j) (hM : TxOk P w K mg base Z tx (M2 Z)) (F : FunC K "exact" "exact" s_exact f fd cdv .none) : FnD P w K mg base Z 2 f (e_exact) := by
  have nd := sc_exact.nd
  refine FnD.mk0 (ps := ["part", "whole"]) (fn_bodyC F sc_exact (fun ds S Q E h => ?len) _ (fun A outer s H E hr => (pdss_cons (pds_set nd (i := 2) (pd_call hM hr 1 2 (by rfl) (by rfl) (pda_cons (pd_var 0) (pda_cons (pd_var 1) pda_nil))))
    (pdss_cons (pds_if (pdt_cmp od_lt (pd_var 1) pd_int) (pdss_one (pds_set nd (i := 2) (pd_op od_sub pd_int (pd_var 2)))) pdss_nil)
    (pdss_one (pds_ret (pd_tup (pda_cons (pd_op od_div (pd_var 0) (pd_var 2)) (pda_cons (pd_op od_div (pd_var 1) (pd_var 2)) pda_nil)))))))) (fun ds S Q E h => ?hb)) rfl rfl (F.binds fun _ _ _ _ _ _ us hl => match us, hl with | [_, _], _ => rfl)
  case len => obtain ⟨_, _, rfl, _⟩ := h; rfl
  case hb =>
    obtain ⟨p, w, rfl, w0, hp, hw, hg, h1⟩ := h
    have g0 : 0 < Int.gcd p w := Int.gcd_pos_of_ne_zero_right _ w0
    have gs : Int.gcd p w < 2 ^ 8000 := by
      have := Int.gcd_le_natAbs_right (a := p) w0
      exact Nat.lt_of_le_of_lt this hw
    refine ⟨_, rfl, ⟨by decide, by decide, by decide, rfl⟩, _, rfl, _, rfl, p, w, rfl, hp, hw, ?_⟩
    have tail : DivOk (sg p w) → t_exact_2 Z (fin Q E) [some (.int p), some (.int w), some (.int (sg p w))] S := fun ds => by
      exact ⟨_, rfl, _, rfl, ds, _, rfl, _, rfl, ds, i2, _, Sub.refl _, h1⟩
    refine ⟨_, rfl, ?_⟩
    refine itd (fun c3 => ?_) (fun c3 => ?_)
    · refine ⟨_, rfl, ?_⟩
      have e : sg p w = 0 - (Int.gcd p w : Int) := by unfold sg; rw [if_pos c3]; omega
      have := hg c3
      rw [e] at tail
      exact tail ⟨by omega, .inl (by omega)⟩
    · have e : sg p w = (Int.gcd p w : Int) := by unfold sg; rw [if_neg c3]
      rw [e] at tail
      exact tail (div_pos (by omega) (by unfold Sz; omega))

theorem ok_plus {P : Program} {w : World} {K : PySem.W.Frag} {mg : Str → Option Value} {base : Heap} {Z : Zt} {f : Addr} {fd : FuncData} {cdv : Value} (hfn : ∀ i, Z.fn i = fnOf' fnT i) (hlm : ∀ j, Z.lm j = lmT j) (hM : TxOk P w K mg base Z tx (M3 Z)) (F : FunC K "plus" "plus" s_plus f fd cdv .none) : FnD P w K mg base Z 3 f (e_plus) := by
  have nd := sc_plus.nd
  refine FnD.mk0 (ps := ["one", "other"]) (fn_bodyC F sc_plus (fun ds S Q E h => ?len) _ (fun A outer s H E hr => (pdss_one (pds_ret (pd_call hM hr 2 2 (by rfl) (by rfl) (pda_cons (pd_op od_add (pd_op od_mul (pd_ix (pd_var 0) pd_int) (pd_ix (pd_var 1) pd_int)) (pd_op od_mul (pd_ix (pd_var 1) pd_int) (pd_ix (pd_var 0) pd_int))) (pda_cons (pd_op od_mul (pd_ix (pd_var 0) pd_int) (pd_ix (pd_var 1) pd_int)) pda_nil)))))) (fun ds S Q E h => ?hb)) rfl rfl (F.binds fun _ _ _ _ _ _ us hl => match us, hl with | [_, _], _ => rfl)
  case len => obtain ⟨_, _, rfl, _⟩ := h; rfl
  case hb =>
    obtain ⟨v, u, rfl, hv, hu, h1⟩ := h
    have w0 := Int.mul_pos hv.p hu.p
    exact ⟨_, rfl, ⟨by decide, by decide, by decide, rfl⟩, _, rfl, _, rfl, _, rfl, _, rfl, mul_sz (hv.a.sz (by decide)) (hu.b.sz (by decide)), _, rfl, _, rfl, _, rfl, _, rfl, mul_sz (hu.a.sz (by decide)) (hv.b.sz (by decide)), _, rfl, _, rfl, _, rfl, _, rfl, mul_sz (hv.b.sz (by decide)) (hu.b.sz (by decide)), _, _, rfl, by omega,
      ((hv.a.mul hu.b).add (hu.a.mul hv.b)).sz (by decide), (hv.b.mul hu.b).sz (by decide), fun z => absurd z (by omega), _, Sub.refl _, h1⟩

theorem ok_minus {P : Program} {w : World} {K : PySem.W.Frag} {mg : Str → Option Value} {base : Heap} {Z : Zt} {f : Addr} {fd : FuncData} {cdv : Value} (hfn : ∀ i, Z.fn i = fnOf' fnT i) (hlm : ∀ j, Z.lm j = lmT j) (hM : TxOk P w K mg base Z tx (M4 Z)) (F : FunC K "minus" "minus" s_minus f fd cdv .none) : FnD P w K mg base Z 3 f (e_minus) := by
  have nd := sc_minus.nd
  refine FnD.mk0 (ps := ["one", "other"]) (fn_bodyC F sc_minus (fun ds S Q E h => ?len) _ (fun A outer s H E hr => (pdss_one (pds_ret (pd_call hM hr 2 2 (by rfl) (by rfl) (pda_cons (pd_op od_sub (pd_op od_mul (pd_ix (pd_var 0) pd_int) (pd_ix (pd_var 1) pd_int)) (pd_op od_mul (pd_ix (pd_var 1) pd_int) (pd_ix (pd_var 0) pd_int))) (pda_cons (pd_op od_mul (pd_ix (pd_var 0) pd_int) (pd_ix (pd_var 1) pd_int)) pda_nil)))))) (fun ds S Q E h => ?hb)) rfl rfl (F.binds fun _ _ _ _ _ _ us hl => match us, hl with | [_, _], _ => rfl)
  case len => obtain ⟨_, _, rfl, _⟩ := h; rfl
  case hb =>
    obtain ⟨v, u, rfl, hv, hu, h1⟩ := h
    have w0 := Int.mul_pos hv.p hu.p
    exact ⟨_, rfl, ⟨by decide, by decide, by decide, rfl⟩, _, rfl, _, rfl, _, rfl, _, rfl, mul_sz (hv.a.sz (by decide)) (hu.b.sz (by decide)), _, rfl, _, rfl, _, rfl, _, rfl, mul_sz (hu.a.sz (by decide)) (hv.b.sz (by decide)), _, rfl, _, rfl, _, rfl, _, rfl, mul_sz (hv.b.sz (by decide)) (hu.b.sz (by decide)), _, _, rfl, by omega,
      ((hv.a.mul hu.b).sub (hu.a.mul hv.b)).sz (by decide), (hv.b.mul hu.b).sz (by decide), fun z => absurd z (by omega), _, Sub.refl _, h1⟩

theorem ok_less {P : Program} {w : World} {K : PySem.W.Frag} {mg : Str → Option Value} {base : Heap} {Z : Zt} {f : Addr} {fd : FuncData} {cdv : Value} (hfn : ∀ i, Z.fn i = fnOf' fnT i) (hlm : ∀ j, Z.lm j = lmT j) (hM : TxOk P w K mg base Z tx (M5 Z)) (F : FunC K "less" "less" s_less f fd cdv .none) : FnD P w K mg base Z 1 f (e_less) := by
  have nd := sc_less.nd
  refine FnD.mk0 (ps := ["one", "other"]) (fn_bodyC F sc_less (fun ds S Q E h => ?len) _ (fun A outer s H E hr => (pdss_one (pds_ret (pd_cmp od_lt (pd_op od_mul (pd_ix (pd_var 0) pd_int) (pd_ix (pd_var 1) pd_int)) (pd_op od_mul (pd_ix (pd_var 1) pd_int) (pd_ix (pd_var 0) pd_int)))))) (fun ds S Q E h => ?hb)) rfl rfl (F.binds fun _ _ _ _ _ _ us hl => match us, hl with | [_, _], _ => rfl)
  case len => obtain ⟨_, _, rfl, _⟩ := h; rfl
  case hb =>
    obtain ⟨v, u, rfl, hv, hu, h1⟩ := h
    exact ⟨_, rfl, _, rfl, _, rfl, _, rfl, mul_sz (hv.a.sz (by decide)) (hu.b.sz (by decide)), _, rfl, _, rfl, _, rfl, _, rfl, mul_sz (hu.a.sz (by decide)) (hv.b.sz (by decide)), _, Sub.refl _, h1⟩

theorem ok_largest {P : Program} {w : World} {K : PySem.W.Frag} {mg : Str → Option Value} {base : Heap} {Z : Zt} {f : Addr} {fd : FuncData} {cdv : Value} (hfn : ∀ i, Z.fn i = fnOf' fnT i) (hlm : ∀ j, Z.lm j = lmT j) (hM : TxOk P w K mg base Z tx (M6 Z)) (F : FunC K "largest" "largest" s_largest f fd cdv .none) : FnD P w K mg base Z 2 f (e_largest) := by
  have nd := sc_largest.nd
  refine FnD.mk0 (ps := ["rows"]) (fn_bodyC F sc_largest (fun ds S Q E h => ?len) _ (fun A outer s H E hr => (pdss_cons (pds_if (pdt_cmp (od_eq (hu64 hr)) (pd_bi hM cd_len 0 (by rfl) (by rfl) bt_len (pda_cons (pd_var 0) pda_nil)) pd_int) (pdss_one (pds_raise hM 0 (by rfl) (by rfl) (by rfl))) pdss_nil)
    (pdss_cons (pds_set nd (i := 1) (pd_ix (pd_var 0) pd_int))
    (pdss_cons (pds_for (passes_of rfl) (by rfl) (pdi_any (pd_var 0)) (pdg_name nd (i := 2)) (pdss_one (pds_if (pdt_tru (pd_call hM hr 5 2 (by rfl) (by rfl) (pda_cons (pd_var 1) (pda_cons (pd_var 2) pda_nil)))) (pdss_one (pds_set nd (i := 1) (pd_var 2))) pdss_nil)))
    (pdss_one (pds_ret (pd_var 1))))))) (fun ds S Q E h => ?hb)) rfl rfl (F.binds fun _ _ _ _ _ _ us hl => match us, hl with | [_], _ => rfl)
  case len => obtain ⟨_, _, rfl, _⟩ := h; rfl
  case hb =>
    obtain ⟨p, xs, rfl, hp, hb, h1, h2⟩ := h
    refine ⟨_, rfl, _, hp, ?_⟩
    refine itd (fun c => ?_) (fun c => ?_)
    · exact ⟨_, Sub.refl _, h2 (by rw [List.length_map] at c; exact List.length_eq_zero_iff.mp (by omega))⟩
    match xs, hp, hb, h1, c with
    | [], _, _, _, c => exact absurd rfl c
    | x :: t, hp, hb, h1, c =>
    refine ⟨_, rfl, _, _, hp, at0, ?_⟩
    refine ⟨_, rfl, _, hp, fun i r S' => (∃ o, r = [some (.ref p), some (nD (lgF x ((x :: t).take i))), o]) ∧ S' = S, ⟨⟨_, rfl⟩, rfl⟩, ?_, ?_, ?_⟩
    · rintro i r S' ⟨_, rfl⟩
      exact hp
    · rintro i d r S' hd ⟨⟨o, rfl⟩, rfl⟩
      rw [List.getElem?_map] at hd
      cases hv : (x :: t)[i]? with
      | none => rw [hv] at hd; cases hd
      | some v =>
        rw [hv] at hd
        cases hd
        have bv := hb v (List.mem_of_getElem? hv)
        have bf : Bd 3900 (lgF x ((x :: t).take i)) := by
          rcases lgF_mem x ((x :: t).take i) with h | h
          · rw [h]; exact hb x (by simp)
          · exact hb _ (List.mem_of_mem_take h)
        refine ⟨_, rfl, ⟨by decide, by decide, by decide, rfl⟩, _, rfl, _, rfl, _, v, rfl, bf, bv, ?_⟩
        refine itb (fun c => ?_) (fun c => ?_)
        · exact ⟨_, rfl, _, Sub.refl _, ⟨_, by rw [lgF_take x _ i v hv, if_pos c] <;> rfl⟩, rfl⟩
        · exact ⟨_, Sub.refl _, ⟨_, by rw [lgF_take x _ i v hv, if_neg (by rw [c]; decide)] <;> rfl⟩, rfl⟩
    · rintro r S' ⟨⟨o, rfl⟩, rfl⟩
      rw [List.length_map, List.take_length]
      exact ⟨_, rfl, _, Sub.refl _, h1 x t rfl⟩

theorem ok_smallest {P : Program} {w : World} {K : PySem.W.Frag} {mg : Str → Option Value} {base : Heap} {Z : Zt} {f : Addr} {fd : FuncData} {cdv : Value} (hfn : ∀ i, Z.fn i = fnOf' fnT i) (hlm : ∀ j, Z.lm j = lmT j) (hM : TxOk P w K mg base Z tx (M7 Z)) (F : FunC K "smallest" "smallest" s_smallest f fd cdv .none) : FnD P w K mg base Z 3 f (e_smallest) := by
  have nd := sc_smallest.nd
  refine FnD.mk0 (ps := ["rows"]) (fn_bodyC F sc_smallest (fun ds S Q E h => ?len) _ (fun A outer s H E hr => (pdss_cons (pds_set nd (i := 1) (pd_call hM hr 6 1 (by rfl) (by rfl) (pda_cons (pd_lc (by rfl) nd (pdi_any (pd_var 0)) [("value", 2)] (blkOk_by (by with_unfolding_all rfl)) (by decide) (fun _ _ _ _ _ => (pdg_name nd (i := 2))) (fun _ _ _ _ _ => pdts_nil) (fun _ _ _ _ _ => (pd_tup (pda_cons (pd_op od_sub pd_int (pd_ix (pd_var 2) pd_int)) (pda_cons (pd_ix (pd_var 2) pd_int) pda_nil))))) pda_nil)))
    (pdss_one (pds_ret (pd_tup (pda_cons (pd_op od_sub pd_int (pd_ix (pd_var 1) pd_int)) (pda_cons (pd_ix (pd_var 1) pd_int) pda_nil))))))) (fun ds S Q E h => ?hb)) rfl rfl (F.binds fun _ _ _ _ _ _ us hl => match us, hl with | [_], _ => rfl)
  case len => obtain ⟨_, _, rfl, _⟩ := h; rfl
  case hb =>
    obtain ⟨z, xs, rfl, hz, hn, hb, h1, h2⟩ := h
    have tail : ∀ l, S l = none → sp_largest [.ref l] (put S l (.lst ((xs.map ng).map nD))) (fun d S' => t_smallest_1 Z (fin Q E) [some z, some d, none] S') (fun c S' => (fin Q E).ex c [some z, none, none] S') := fun l hl => by
      refine ⟨l, xs.map ng, rfl, put_same, fun v hv => ?_, fun x t e => ?_, fun e => ?_⟩
      · obtain ⟨u, hu, rfl⟩ := List.mem_map.mp hv
        have := hb u hu
        exact ⟨by have := this.a; unfold ng Lt at *; rw [Int.zero_sub, Int.natAbs_neg]; exact Nat.lt_of_lt_of_le this (Nat.pow_le_pow_right (by decide) (by decide)), this.p, this.b.mono (by decide)⟩
      · match xs, e with
        | y :: r, e =>
          cases e
          exact ⟨_, rfl, _, rfl, _, rfl, _, rfl, i2, S, Sub.new hl, h1 y r rfl⟩
      · exact ⟨S, Sub.new hl, h2 (List.map_eq_nil_iff.mp e)⟩
    refine ⟨_, rfl, ⟨by decide, by decide, by decide, rfl⟩, _, rfl, ?_⟩
    cases z with
    | ref p =>
      refine ⟨_, hz, ?_⟩
      refine ⟨by rw [List.length_map, sizeLine_eq]; omega, fun i acc S' => acc = ((xs.take i).map ng).map nD ∧ S' = S, ⟨rfl, rfl⟩, ?_, ?_, ?_⟩
      · rintro i acc S' ⟨rfl, rfl⟩
        exact hz
      · rintro i d acc S' hd ⟨rfl, rfl⟩
        rw [List.getElem?_map] at hd
        cases hv : xs[i]? with
        | none => rw [hv] at hd; cases hd
        | some v =>
          rw [hv] at hd
          cases hd
          exact ⟨_, rfl, _, rfl, _, rfl, _, rfl, i2, _, Sub.refl _, by rw [take_snoc ng hv, List.map_append] <;> rfl, rfl⟩
      · rintro acc S' l ⟨rfl, rfl⟩ hl
        rw [List.length_map, List.take_length]
        exact tail l hl
    | tup ds =>
      have hz : ds = xs.map nD := hz
      subst hz
      refine ⟨by rw [List.length_map, sizeLine_eq]; omega, fun i acc S' => acc = ((xs.take i).map ng).map nD ∧ S' = S, ⟨rfl, rfl⟩, ?_, ?_, ?_⟩
      · rintro i acc S' ⟨rfl, rfl⟩
        trivial
      · rintro i d acc S' hd ⟨rfl, rfl⟩
        rw [List.getElem?_map] at hd
        cases hv : xs[i]? with
        | none => rw [hv] at hd; cases hd
        | some v =>
          rw [hv] at hd
          cases hd
          exact ⟨_, rfl, _, rfl, _, rfl, _, rfl, i2, _, Sub.refl _, by rw [take_snoc ng hv, List.map_append] <;> rfl, rfl⟩
      · rintro acc S' l ⟨rfl, rfl⟩ hl
        rw [List.length_map, List.take_length]
        exact tail l hl
    | _ => exact hz.elim

theorem ok_covers {P : Program} {w : World} {K : PySem.W.Frag} {mg : Str → Option Value} {base : Heap} {Z : Zt} {f : Addr} {fd : FuncData} {cdv : Value} (hfn : ∀ i, Z.fn i = fnOf' fnT i) (hlm : ∀ j, Z.lm j = lmT j) (hM : TxOk P w K mg base Z tx (M8 Z)) (F : FunC K "covers" "covers" s_covers f fd cdv .none) : FnD P w K mg base Z 2 f (e_covers) := by
  have nd := sc_covers.nd
  refine FnD.mk0 (ps := ["step", "span", "most"]) (fn_bodyC F sc_covers (fun ds S Q E h => ?len) _ (fun A outer s H E hr => (pdss_one (pds_ret (pd_not (pd_call hM hr 5 2 (by rfl) (by rfl) (pda_cons (pd_tup (pda_cons (pd_op od_mul (pd_ix (pd_var 0) pd_int) (pd_var 2)) (pda_cons (pd_ix (pd_var 0) pd_int) pda_nil))) (pda_cons (pd_var 1) pda_nil))))))) (fun ds S Q E h => ?hb)) rfl rfl (F.binds fun _ _ _ _ _ _ us hl => match us, hl with | [_, _, _], _ => rfl)
  case len => obtain ⟨_, _, _, rfl, _⟩ := h; rfl
  case hb =>
    obtain ⟨s, p, m, rfl, hs, hp, hm, h1⟩ := h
    refine ⟨_, rfl, ⟨by decide, by decide, by decide, rfl⟩, _, rfl, _, rfl, _, rfl, mul_sz (hs.a.sz (by decide)) (hm.sz (by decide)), _, rfl, _, rfl, i2, _, rfl, (s.1 * m, s.2), p, rfl, ⟨(hs.a.mul hm).mono (by decide), hs.p, hs.b.mono (by decide)⟩, hp, ?_⟩
    exact ⟨_, Sub.refl _, h1⟩

theorem ok_power_of {P : Program} {w : World} {K : PySem.W.Frag} {mg : Str → Option Value} {base : Heap} {Z : Zt} {f : Addr} {fd : FuncData} {cdv : Value} (hfn : ∀ i, Z.fn i = fnOf' fnT i) (hlm : ∀ j, Z.lm j = lmT j) (hM : TxOk P w K mg base Z tx (M9 Z)) (F : FunC K "power_of" "power_of" s_power_of f fd cdv .none) : FnD P w K mg base Z 2 f (e_power_of) := by
  have nd := sc_power_of.nd
  refine FnD.mk0 (ps := ["power"]) (fn_bodyC F sc_power_of (fun ds S Q E h => ?len) _ (fun A outer s H E hr => (pdss_one (pds_ret (pd_if (pdt_cmp od_ge (pd_var 0) pd_int) (pd_tup (pda_cons (pd_call hM hr 0 1 (by rfl) (by rfl) (pda_cons (pd_var 0) pda_nil)) (pda_cons pd_int pda_nil))) (pd_tup (pda_cons pd_int (pda_cons (pd_call hM hr 0 1 (by rfl) (by rfl) (pda_cons (pd_op od_sub pd_int (pd_var 0)) pda_nil)) pda_nil))))))) (fun ds S Q E h => ?hb)) rfl rfl (F.binds fun _ _ _ _ _ _ us hl => match us, hl with | [_], _ => rfl)
  case len => obtain ⟨_, rfl, _⟩ := h; rfl
  case hb =>
    obtain ⟨p, rfl, p0, p1, h1⟩ := h
    unfold pw at h1
    refine ⟨_, rfl, ?_⟩
    refine itd (fun c => ?_) (fun c => ?_)
    · rw [if_pos c] at h1
      refine ⟨_, rfl, ⟨by decide, by decide, by decide, rfl⟩, _, rfl, p.toNat, by rw [Int.toNat_of_nonneg c] <;> rfl, by omega, i2, _, Sub.refl _, h1⟩
    · rw [if_neg c] at h1
      refine ⟨_, rfl, ⟨by decide, by decide, by decide, rfl⟩, _, rfl, (0 - p).toNat, by rw [Int.toNat_of_nonneg (by omega)] <;> rfl, by omega, i2, _, Sub.refl _, h1⟩

theorem ok_step_for {P : Program} {w : World} {K : PySem.W.Frag} {mg : Str → Option Value} {base : Heap} {Z : Zt} {f : Addr} {fd : FuncData} {cdv : Value} (hfn : ∀ i, Z.fn i = fnOf' fnT i) (hlm : ∀ j, Z.lm j = lmT j) (hM : TxOk P w K mg base Z tx (M10 Z)) (F : FunC K "step_for" "step_for" s_step_for f fd cdv .none) : FnD P w K mg base Z 3 f (e_step_for) := by
  have nd := sc_step_for.nd
  refine FnD.mk0 (ps := ["span", "most"]) (fn_bodyC F sc_step_for (fun ds S Q E h => ?len) _ (fun A outer s H E hr => (pdss_cons (pds_if (PDW.pt (pdw_or (pdt_cmp od_le (pd_ix (pd_var 0) pd_int) pd_int) (pdw_or1 (pdt_not (pdt_chain pd_int (pdcht_c od_le (pd_var 1) (pdcht_1 od_le (pd_glob hM 0 (by rfl) (by rfl))))))))) (pdss_one (pds_raise hM 0 (by rfl) (by rfl) (by rfl))) pdss_nil)
    (pdss_cons (pds_for (passes_of rfl) (by rfl) (pdi_range2 hM 3 (by rfl) (pda_cons (pd_op od_sub pd_int pd_int) (pda_cons pd_int pda_nil))) (pdg_name nd (i := 2)) (pdss_cons (pds_set nd (i := 3) (pd_call hM hr 9 1 (by rfl) (by rfl) (pda_cons (pd_var 2) pda_nil)))
    (pdss_one (pds_for (passes_of rfl) (by rfl) (pdi_any (pd_tup (pda_cons pd_int (pda_cons pd_int (pda_cons pd_int pda_nil))))) (pdg_name nd (i := 4)) (pdss_cons (pds_set nd (i := 5) (pd_call hM hr 2 2 (by rfl) (by rfl) (pda_cons (pd_op od_mul (pd_var 4) (pd_ix (pd_var 3) pd_int)) (pda_cons (pd_ix (pd_var 3) pd_int) pda_nil))))
    (pdss_one (pds_if (pdt_tru (pd_call hM hr 8 3 (by rfl) (by rfl) (pda_cons (pd_var 5) (pda_cons (pd_var 0) (pda_cons (pd_var 1) pda_nil))))) (pdss_one (pds_ret (pd_var 5))) pdss_nil)))))))
    (pdss_one (pds_raise hM 0 (by rfl) (by rfl) (by rfl)))))) (fun ds S Q E h => ?hb)) rfl rfl (F.binds fun _ _ _ _ _ _ us hl => match us, hl with | [_, _], _ => rfl)
  case len => obtain ⟨_, _, rfl, _⟩ := h; rfl
  case hb =>
    obtain ⟨p, m, rfl, hp, h1, h2⟩ := h
    have loop : 0 < p.1 → 1 ≤ m → m ≤ 20 → t_step_for_1 Z (fin Q E) [some (nD p), some (.int m), none, none, none, none] S := fun a1 a2 a3 => by
      have hm : Lt 100 m := by unfold Lt; omega
      refine ⟨⟨by decide, by decide⟩, ⟨by decide, by decide⟩, fun i r S' => (∃ o2 o3 o4 o5, r = [some (nD p), some (.int m), o2, o3, o4, o5]) ∧ S = S' ∧ ((List.range i).flatMap crow).find? (cov p m) = none, ⟨⟨_, _, _, _, rfl⟩, rfl, rfl⟩, fun _ _ _ _ => trivial, ?_, ?_⟩
      · rintro i d r S' hd ⟨⟨o2, o3, o4, o5, rfl⟩, rfl, hf⟩
        obtain ⟨hi, hd⟩ := rngD_get hd
        have hi : i < 61 := hi
        have hd2 : d = .int ((i : Int) - 30) := by rw [hd]; congr 1 <;> omega
        subst hd2
        clear hd
        have bp := pw_bd (q := (i : Int) - 30) (by omega) (by omega)
        refine ⟨_, rfl, ⟨by decide, by decide, by decide, rfl⟩, _, rfl, (i : Int) - 30, rfl, by omega, by omega, ?_⟩
        refine ⟨by show 3 ≤ sizeLine; decide, fun k r S' => (∃ o4 o5, r = [some (nD p), some (.int m), some (.int ((i : Int) - 30)), some (nD (pw ((i : Int) - 30))), o4, o5]) ∧ S = S' ∧ ((crow i).take k).find? (cov p m) = none, ⟨⟨_, _, rfl⟩, rfl, rfl⟩, fun _ _ _ _ => trivial, ?_, ?_⟩
        · rintro k d r S' hd ⟨⟨o4, o5, rfl⟩, rfl, hk⟩
          obtain ⟨t, ht, rfl, t0, t1⟩ : ∃ t : Int, ([1, 2, 5] : List Int)[k]? = some t ∧ d = .int t ∧ 0 < t ∧ t < 8 := by
            match k, hd with
            | 0, hd => cases hd; exact ⟨1, rfl, rfl, by decide, by decide⟩
            | 1, hd => cases hd; exact ⟨2, rfl, rfl, by decide, by decide⟩
            | 2, hd => cases hd; exact ⟨5, rfl, rfl, by decide, by decide⟩
          have hs := crow_at (i := i) ht
          have bt : Lt 3 t := by unfold Lt; omega
          have bs : Bd 113 (ex (t * (pw ((i : Int) - 30)).1) (pw ((i : Int) - 30)).2) := ex_bd bp.p (bt.mul bp.a) (bp.b.mono (by decide))
          have w0 := bp.p
          refine ⟨_, rfl, ⟨by decide, by decide, by decide, rfl⟩, _, rfl, _, rfl, _, rfl, mul_sz (bt.sz (by decide)) (bp.a.sz (by decide)), _, rfl, _, rfl, _, _, rfl, by omega, (bt.mul bp.a).sz (by decide), bp.b.sz (by decide), fun z => absurd z (by omega), ?_⟩
          refine ⟨_, rfl, ⟨by decide, by decide, by decide, rfl⟩, _, rfl, _, rfl, _, rfl, _, p, m, rfl, bs.mono (by decide), hp.mono (by decide), hm, ?_⟩
          refine itb (fun c => ?_) (fun c => ?_)
          · exact ⟨_, rfl, _, Sub.refl _, h1 a1 a2 a3 _ (find_mid hf hk hs c hi)⟩
          · exact ⟨_, Sub.refl _, ⟨_, _, rfl⟩, rfl, find_snoc hk hs c⟩
        · rintro r S' ⟨⟨o4, o5, rfl⟩, rfl, hk⟩
          exact ⟨_, Sub.refl _, ⟨_, _, _, _, rfl⟩, rfl, find_next hf hk⟩
      · rintro r S' ⟨⟨o2, o3, o4, o5, rfl⟩, rfl, hf⟩
        exact ⟨_, Sub.refl _, h2 (.inr hf)⟩
    refine ⟨_, rfl, _, rfl, ?_⟩
    refine itd (fun c => ?_) (fun c => ?_)
    · exact ⟨_, Sub.refl _, h2 (.inl fun z => by omega)⟩
    refine ⟨_, rfl, ?_⟩
    refine itd (fun c1 => ?_) (fun c1 => ?_)
    · refine itn (fun c2 => ?_) (fun c2 => ?_)
      · exact ⟨_, Sub.refl _, h2 (.inl fun z => c2 z.2.2)⟩
      · exact loop (by omega) c1 c2
    · exact ⟨_, Sub.refl _, h2 (.inl fun z => c1 z.2.1)⟩

theorem ok_axis {P : Program} {w : World} {K : PySem.W.Frag} {mg : Str → Option Value} {base : Heap} {Z : Zt} {f : Addr} {fd : FuncData} {cdv : Value} (hfn : ∀ i, Z.fn i = fnOf' fnT i) (hlm : ∀ j, Z.lm j = lmT j) (hM : TxOk P w K mg base Z tx (M11 Z)) (F : FunC K "axis" "axis" s_axis f fd cdv .none) : FnD P w K mg base Z 4 f (e_axis) := by
  have nd := sc_axis.nd
  refine FnD.mk0 (ps := ["rows", "most"]) (fn_bodyC F sc_axis (fun ds S Q E h => ?len) _ (fun A outer s H E hr => (pdss_cons (pds_par2 (i := 2) (j := 3) (by rfl) nd (pda_cons (pd_call hM hr 7 1 (by rfl) (by rfl) (pda_cons (pd_var 0) pda_nil)) (pda_cons (pd_call hM hr 6 1 (by rfl) (by rfl) (pda_cons (pd_var 0) pda_nil)) pda_nil)) (by rfl))
    (pdss_cons (pds_set nd (i := 4) (pd_call hM hr 4 2 (by rfl) (by rfl) (pda_cons (pd_var 3) (pda_cons (pd_var 2) pda_nil))))
    (pdss_cons (pds_set nd (i := 5) (pd_if (pdt_cmp (od_eq (hu64 hr)) (pd_ix (pd_var 4) pd_int) pd_int) (pd_tup (pda_cons pd_int (pda_cons pd_int pda_nil))) (pd_call hM hr 10 2 (by rfl) (by rfl) (pda_cons (pd_var 4) (pda_cons (pd_var 1) pda_nil)))))
    (pdss_cons (pds_set nd (i := 6) (pd_op od_div (pd_op od_mul (pd_ix (pd_var 2) pd_int) (pd_ix (pd_var 5) pd_int)) (pd_op od_mul (pd_ix (pd_var 2) pd_int) (pd_ix (pd_var 5) pd_int))))
    (pdss_cons (pds_set nd (i := 7) (pd_lst (pda_cons (pd_call hM hr 2 2 (by rfl) (by rfl) (pda_cons (pd_op od_mul (pd_ix (pd_var 5) pd_int) (pd_var 6)) (pda_cons (pd_ix (pd_var 5) pd_int) pda_nil))) pda_nil)))
    (pdss_cons (pds_while (sts := []) (passes_of rfl) (pdt_tru (pd_call hM hr 5 2 (by rfl) (by rfl) (pda_cons (pd_ix (pd_var 7) (pd_neg pd_int)) (pda_cons (pd_var 3) pda_nil)))) (pdss_cons (pds_aug nd (i := 6) pd_int id_add)
    (pdss_one (pds_expr (pd_lm PySem.F.slot_list_append PySem.F.type_list_append md_append (pd_var 7) (pda_cons (pd_call hM hr 2 2 (by rfl) (by rfl) (pda_cons (pd_op od_mul (pd_ix (pd_var 5) pd_int) (pd_var 6)) (pda_cons (pd_ix (pd_var 5) pd_int) pda_nil))) pda_nil))))))
    (pdss_one (pds_ret (pd_ty hM cd_tuple 8 (by rfl) (by rfl) bt_tuple (pda_cons (pd_var 7) pda_nil))))))))))) (fun ds S Q E h => ?hb)) rfl rfl (F.binds fun _ _ _ _ _ _ us hl => match us, hl with | [_, _], _ => rfl)
  case len => obtain ⟨_, _, _, rfl, _⟩ := h; rfl
  case hb =>
    obtain ⟨p, xs, m, rfl, hp, hz, hb, he, h1⟩ := h
    match xs, hp, hz, hb, he, h1 with
    | [], hp, hz, hb, he, h1 =>
      exact ⟨_, rfl, ⟨by decide, by decide, by decide, rfl⟩, _, rfl, .ref p, [], rfl, hp, by decide, (fun v z => nomatch z), (fun x t z => nomatch z), fun _ => ⟨_, Sub.refl _, he rfl⟩⟩
    | x :: t, hp, hz, hb, he, h1 =>
    obtain ⟨s, n, hs, bs, s0, hn, hlt, h1⟩ := h1 x t rfl
    refine ⟨_, rfl, ⟨by decide, by decide, by decide, rfl⟩, _, rfl, .ref p, x :: t, rfl, hp, hz, fun v hv => (hb v hv).mono (by decide), fun x' t' e => ?_, fun z => nomatch z⟩
    cases e
    refine ⟨_, rfl, ⟨by decide, by decide, by decide, rfl⟩, _, rfl, p, x :: t, rfl, hp, fun v hv => (hb v hv).mono (by decide), fun x' t' e => ?_, fun z => nomatch z⟩
    cases e
    have bh : Bd 400 (lgF x (x :: t)) := lgF_bd (hb x (by simp)) hb
    have bl : Bd 400 (loS x (x :: t)) := loS_bd (hb x (by simp)) hb
    change t_axis_1 Z (fin Q E) [some (.ref p), some (.int m), some (nD (loS x (x :: t))), some (nD (lgF x (x :: t))), none, none, none, none] S
    generalize lgF x (x :: t) = hi at *
    generalize loS x (x :: t) = lo at *
    have bsp : Bd 801 (mi hi lo) := mi_bd bh bl
    refine ⟨_, rfl, ⟨by decide, by decide, by decide, rfl⟩, _, rfl, _, rfl, hi, lo, rfl, bh.mono (by decide), bl.mono (by decide), ?_⟩
    have w1 : 0 < lo.2 * s.1 := Int.mul_pos bl.p s0
    have bfi : Lt 800 (firstF lo s) := fdiv_lt w1 (bl.a.mul bs.b)
    have bpl : ∀ i : Nat, i ≤ 1000 → Lt 801 (firstF lo s + (i : Int)) := fun i hi => bfi.add (by unfold Lt; rw [Int.natAbs_natCast]; exact Nat.lt_of_le_of_lt hi (Nat.lt_of_lt_of_le (show 1000 < 2 ^ 10 by decide) (Nat.pow_le_pow_right (by decide) (by decide))))
    have bmk : ∀ i : Nat, i ≤ 1000 → Bd 1201 (markF lo s i) := fun i hi => ex_bd bs.p ((bs.a.mul (bpl i hi)).mono (by decide)) (bs.b.mono (by decide))
    have sp := bs.p
    have tail : t_axis_3 Z (fin Q E) [some (.ref p), some (.int m), some (nD lo), some (nD hi), some (nD (mi hi lo)), some (nD s), none, none] S := by
      refine ⟨_, rfl, _, rfl, _, rfl, _, rfl, mul_sz (bl.a.sz (by decide)) (bs.b.sz (by decide)), _, rfl, _, rfl, _, rfl, _, rfl, mul_sz (bl.b.sz (by decide)) (bs.a.sz (by decide)), div_pos w1 ((bl.b.mul bs.a).sz (by decide)), ?_⟩
      change t_axis_4 Z (fin Q E) [some (.ref p), some (.int m), some (nD lo), some (nD hi), some (nD (mi hi lo)), some (nD s), some (.int (firstF lo s)), none] S
      have e0 : nD (ex (s.1 * firstF lo s) s.2) = nD (markF lo s 0) := by unfold markF; rw [show firstF lo s + ((0 : Nat) : Int) = firstF lo s by omega]
      refine ⟨_, rfl, ⟨by decide, by decide, by decide, rfl⟩, _, rfl, _, rfl, _, rfl, mul_sz (bs.a.sz (by decide)) (bfi.sz (by decide)), _, rfl, _, rfl, s.1 * firstF lo s, s.2, rfl, by omega, (bs.a.mul bfi).sz (by decide), bs.b.sz (by decide), fun z => absurd z (by omega), ?_⟩
      rw [e0]
      refine ⟨by show 1 ≤ sizeLine; decide, fun l hl => ?_⟩
      refine ⟨fun k r S' => ∃ i : Nat, i ≤ n ∧ k = n - i ∧ r = [some (.ref p), some (.int m), some (nD lo), some (nD hi), some (nD (mi hi lo)), some (nD s), some (.int (firstF lo s + (i : Int))), some (.ref l)] ∧ S' = put S l (.lst (marksF lo s (i + 1))), ⟨n, 0, by omega, rfl, by rw [show firstF lo s + ((0 : Nat) : Int) = firstF lo s by omega] <;> rfl, rfl⟩, ?_⟩
      rintro k r S' ⟨i, hin, rfl, rfl, rfl⟩
      have hin' : i ≤ 1000 := by omega
      refine ⟨_, rfl, ⟨by decide, by decide, by decide, rfl⟩, _, rfl, _, _, put_same, (by rw [marksF_succ]; exact at_last), _, rfl, markF lo s i, hi, rfl, (bmk i hin').mono (by decide), bh.mono (by decide), ?_⟩
      rw [hlt i hin]
      refine itd (fun c => ?_) (fun c => ?_)
      · refine ⟨_, rfl, ?_⟩
        have e1 : firstF lo s + (i : Int) + 1 = firstF lo s + ((i + 1 : Nat) : Int) := by omega
        change t_axis_5_1 Z _ [some (.ref p), some (.int m), some (nD lo), some (nD hi), some (nD (mi hi lo)), some (nD s), some (.int (firstF lo s + (i : Int) + 1)), some (.ref l)] _
        rw [e1]
        have bp2 := bpl (i + 1) (by omega)
        refine ⟨_, rfl, ⟨_, _, rfl, put_same⟩, _, rfl, ⟨by decide, by decide, by decide, rfl⟩, _, rfl, _, rfl, _, rfl, mul_sz (bs.a.sz (by decide)) (bp2.sz (by decide)), _, rfl, _, rfl, s.1 * (firstF lo s + ((i + 1 : Nat) : Int)), s.2, rfl, by omega, (bs.a.mul bp2).sz (by decide), bs.b.sz (by decide), fun z => absurd z (by omega), ?_⟩
        refine ⟨_, put_same, by rw [marksF_len, sizeLine_eq]; omega, ?_⟩
        rw [put_put]
        refine ⟨_, n - (i + 1), Sub.refl _, by omega, i + 1, by omega, rfl, rfl, ?_⟩
        rw [marksF_succ lo s (i + 1)]
        rfl
      · have e : i = n := by omega
        subst e
        exact ⟨_, rfl, _, put_same, _, Sub.new hl, h1⟩
    refine ⟨_, rfl, _, rfl, ?_⟩
    unfold StepOk at hs
    refine itd (fun c => ?_) (fun c => ?_)
    · rw [if_pos c] at hs
      subst hs
      exact ⟨i2, tail⟩
    · rw [if_neg c] at hs
      obtain ⟨c1, c2, c3, c4⟩ := hs
      refine ⟨_, rfl, ⟨by decide, by decide, by decide, rfl⟩, _, rfl, _, rfl, mi hi lo, m, rfl, bsp.mono (by decide), fun _ _ _ s' e => ?_, fun z => ?_⟩
      · rw [c4] at e
        cases e
        exact tail
      · rcases z with z | z
        · exact absurd ⟨c1, c2, c3⟩ z
        · rw [c4] at z; cases z

theorem ok_heights {P : Program} {w : World} {K : PySem.W.Frag} {mg : Str → Option Value} {base : Heap} {Z : Zt} {f : Addr} {fd : FuncData} {cdv : Value} (hfn : ∀ i, Z.fn i = fnOf' fnT i) (hlm : ∀ j, Z.lm j = lmT j) (hM : TxOk P w K mg base Z tx (M12 Z)) (F : FunC K "heights" "heights" s_heights f fd cdv .none) : FnD P w K mg base Z 4 f (e_heights) := by
  have nd := sc_heights.nd
  refine FnD.mk0 (ps := ["rows", "low", "high", "size"]) (fn_bodyC F sc_heights (fun ds S Q E h => ?len) _ (fun A outer s H E hr => (pdss_cons (pds_if (PDW.pt (pdw_or (pdt_not (pdt_tru (pd_call hM hr 5 2 (by rfl) (by rfl) (pda_cons (pd_var 1) (pda_cons (pd_var 2) pda_nil))))) (pdw_or1 (pdt_not (pdt_chain pd_int (pdcht_c od_le (pd_var 3) (pdcht_1 od_le (pd_glob hM 1 (by rfl) (by rfl))))))))) (pdss_one (pds_raise hM 0 (by rfl) (by rfl) (by rfl))) pdss_nil)
    (pdss_cons (pds_set nd (i := 4) (pd_lst pda_nil))
    (pdss_cons (pds_set nd (i := 5) (pd_call hM hr 4 2 (by rfl) (by rfl) (pda_cons (pd_var 2) (pda_cons (pd_var 1) pda_nil))))
    (pdss_cons (pds_for (passes_of rfl) (by rfl) (pdi_any (pd_var 0)) (pdg_name nd (i := 6)) (pdss_cons (pds_set nd (i := 7) (pd_call hM hr 4 2 (by rfl) (by rfl) (pda_cons (pd_var 6) (pda_cons (pd_var 1) pda_nil))))
    (pdss_one (pds_expr (pd_lm PySem.F.slot_list_append PySem.F.type_list_append md_append (pd_var 4) (pda_cons (pd_bi hM (cd_max (by rfl)) 6 (by rfl) (by rfl) bt_max (pda_cons pd_int (pda_cons (pd_bi hM (cd_min (by rfl)) 5 (by rfl) (by rfl) bt_min (pda_cons (pd_var 3) (pda_cons (pd_op od_div (pd_op od_mul (pd_op od_mul (pd_ix (pd_var 7) pd_int) (pd_ix (pd_var 5) pd_int)) (pd_var 3)) (pd_op od_mul (pd_ix (pd_var 7) pd_int) (pd_ix (pd_var 5) pd_int))) pda_nil))) pda_nil))) pda_nil))))))
    (pdss_one (pds_ret (pd_ty hM cd_tuple 8 (by rfl) (by rfl) bt_tuple (pda_cons (pd_var 4) pda_nil))))))))) (fun ds S Q E h => ?hb)) rfl rfl (F.binds fun _ _ _ _ _ _ us hl => match us, hl with | [_, _, _, _], _ => rfl)
  case len => obtain ⟨_, _, _, _, _, rfl, _⟩ := h; rfl
  case hb =>
    obtain ⟨p, xs, lo, hi, z, rfl, hp, hb, hn, bl, bh, h1, h2⟩ := h
    have loop : lt lo hi = true → 1 ≤ z → z ≤ 200 → t_heights_1 Z (fin Q E) [some (.ref p), some (nD lo), some (nD hi), some (.int z), none, none, none, none] S := fun a1 a2 a3 => by
      have bz : Lt 100 z := by unfold Lt; omega
      have bsp : Bd 801 (mi hi lo) := mi_bd bh bl
      have sp0 := mi_pos a1 bl.p bh.p
      refine ⟨by show 0 ≤ sizeLine; decide, fun l hl => ?_⟩
      refine ⟨_, rfl, ⟨by decide, by decide, by decide, rfl⟩, _, rfl, _, rfl, hi, lo, rfl, bh.mono (by decide), bl.mono (by decide), ?_⟩
      have hp2 : ∀ o, put S l o p = some (.lst (xs.map nD)) := fun o => keep_put hp hl
      refine ⟨_, rfl, _, hp2 _, fun i r S' => (∃ o6 o7, r = [some (.ref p), some (nD lo), some (nD hi), some (.int z), some (.ref l), some (nD (mi hi lo)), o6, o7]) ∧ put S l (.lst ((xs.take i).map fun v => .int (hgt lo hi z v))) = S', ⟨⟨_, _, rfl⟩, rfl⟩, ?_, ?_, ?_⟩
      · rintro i r S' ⟨_, rfl⟩
        exact hp2 _
      · rintro i d r S' hd ⟨⟨o6, o7, rfl⟩, rfl⟩
        rw [List.getElem?_map] at hd
        cases hv : xs[i]? with
        | none => rw [hv] at hd; cases hd
        | some v =>
          rw [hv] at hd
          cases hd
          have bv := hb v (List.mem_of_getElem? hv)
          have bhe : Bd 801 (mi v lo) := mi_bd bv bl
          have w1 : 0 < (mi v lo).2 * (mi hi lo).1 := Int.mul_pos bhe.p sp0
          refine ⟨_, rfl, ⟨by decide, by decide, by decide, rfl⟩, _, rfl, _, rfl, v, lo, rfl, bv.mono (by decide), bl.mono (by decide), ?_⟩
          refine ⟨_, rfl, ⟨_, _, rfl, put_same⟩, _, rfl, _, rfl, _, rfl, _, rfl, _, rfl, mul_sz (bhe.a.sz (by decide)) (bsp.b.sz (by decide)), _, rfl, mul_sz ((bhe.a.mul bsp.b).sz (by decide)) (bz.sz (by decide)), _, rfl, _, rfl, _, rfl, _, rfl, mul_sz (bhe.b.sz (by decide)) (bsp.a.sz (by decide)), div_pos w1 ((bhe.b.mul bsp.a).sz (by decide)), ?_⟩
          refine ⟨_, put_same, by rw [List.length_map, List.length_take, sizeLine_eq]; omega, ?_⟩
          rw [put_put]
          exact ⟨_, Sub.refl _, ⟨_, _, rfl⟩, by rw [take_snoc _ hv] <;> rfl⟩
      · rintro r S' ⟨⟨o6, o7, rfl⟩, rfl⟩
        rw [List.length_map, List.take_length]
        exact ⟨_, rfl, _, put_same, _, Sub.new hl, h1 a1 a2 a3⟩
    refine ⟨_, rfl, ⟨by decide, by decide, by decide, rfl⟩, _, rfl, _, rfl, lo, hi, rfl, bl.mono (by decide), bh.mono (by decide), ?_⟩
    refine itnb (fun c => ?_) (fun c => ?_)
    · exact ⟨_, Sub.refl _, h2 (fun z => by rw [c] at z; exact nomatch z.1)⟩
    refine ⟨_, rfl, ?_⟩
    refine itd (fun c1 => ?_) (fun c1 => ?_)
    · refine itn (fun c2 => ?_) (fun c2 => ?_)
      · exact ⟨_, Sub.refl _, h2 (fun z => c2 z.2.2)⟩
      · exact loop c c1 c2
    · exact ⟨_, Sub.refl _, h2 (fun z => c1 z.2.1)⟩

theorem ok_bars {P : Program} {w : World} {K : PySem.W.Frag} {mg : Str → Option Value} {base : Heap} {Z : Zt} {f : Addr} {fd : FuncData} {cdv : Value} (hfn : ∀ i, Z.fn i = fnOf' fnT i) (hlm : ∀ j, Z.lm j = lmT j) (hM : TxOk P w K mg base Z tx (M13 Z)) (F : FunC K "bars" "bars" s_bars f fd cdv .none) {cA PA : Addr} (hcd : cdv = .ref cA) (hTB : GxR.TabB base mg cA PA) (hTm : PA ∈ Z.T) (hTn : ∀ p ∈ Z.TL, p.1 ≠ PA) : FnD P w K mg base Z 5 f (e_bars) := by
  have nd := sc_bars.nd
  have T : ∀ (A : Around) (outer : List Env) (s : Shared) (H : Hp) (E : XK), TabD (cxOf (L2.CX P w) P w K mg base ["labels", "rows", "size", "most", "wide", "places", "label", "place"] "bars" (defScope s_bars) f cdv A outer s H E) Z cA PA := fun A outer s H E => ⟨hTB, hcd, hTm, hTn⟩
  refine FnD.mk0 (ps := ["labels", "rows", "size"]) (fn_bodyC F sc_bars (fun ds S Q E h => ?len) _ (fun A outer s H E hr => (pdss_cons (pds_if (PDW.pt (pdw_or (pdt_cmp (od_ne (hu64 hr)) (pd_bi hM cd_len 0 (by rfl) (by rfl) bt_len (pda_cons (pd_var 0) pda_nil)) (pd_bi hM cd_len 0 (by rfl) (by rfl) bt_len (pda_cons (pd_var 1) pda_nil))) (pdw_or (pdt_cmp (od_eq (hu64 hr)) (pd_bi hM cd_len 0 (by rfl) (by rfl) bt_len (pda_cons (pd_var 1) pda_nil)) pd_int) (pdw_or1 (pdt_tru (pd_anyL hM 1 (by rfl) hr (by rfl) (T A outer s H E) (genS_by (by decide +kernel)) (pd_var 1) (qe_lt (qe_ix (qe_name rfl rfl)) qe_int))))))) (pdss_one (pds_raise hM 0 (by rfl) (by rfl) (by rfl))) pdss_nil)
    (pdss_cons (pds_set nd (i := 3) (pd_call hM hr 6 1 (by rfl) (by rfl) (pda_cons (pd_var 1) pda_nil)))
    (pdss_cons (pds_set nd (i := 4) (pd_maxL hM 6 (by rfl) hr (by rfl) (T A outer s H E) (genS_by (by decide +kernel)) (pd_var 0) (qe_len rfl rfl (hM.bl 0 _ rfl) (qe_name rfl rfl))))
    (pdss_cons (pds_set nd (i := 5) (pd_call hM hr 12 4 (by rfl) (by rfl) (pda_cons (pd_var 1) (pda_cons (pd_tup (pda_cons pd_int (pda_cons pd_int pda_nil))) (pda_cons (pd_if (pdt_cmp od_gt (pd_ix (pd_var 3) pd_int) pd_int) (pd_var 3) (pd_tup (pda_cons pd_int (pda_cons pd_int pda_nil)))) (pda_cons (pd_var 2) pda_nil))))))
    (pdss_one (pds_ret (pd_ty hM cd_tuple 8 (by rfl) (by rfl) bt_tuple (pda_cons (pd_lc (by rfl) nd (pdi_zipB hM 10 (by rfl) (pda_cons (pd_var 0) (pda_cons (pd_var 5) pda_nil))) [("label", 6), ("place", 7)] (blkOk_by (by with_unfolding_all rfl)) (by decide) (fun _ _ _ _ _ => (pdg_tup (n := 2) (by rfl) (pdgs_cons (pdg_name nd (i := 6)) (pdgs_cons (pdg_name nd (i := 7)) pdgs_nil)))) (fun _ _ _ _ _ => pdts_nil) (fun _ _ _ _ _ => (pd_op od_add (pd_op od_add (pd_op od_add (pd_var 6) (pd_op od_mul pd_str (pd_op od_sub (pd_var 4) (pd_bi hM cd_len 0 (by rfl) (by rfl) bt_len (pda_cons (pd_var 6) pda_nil))))) pd_str) (pd_op od_mul pd_str (pd_var 7))))) pda_nil))))))))) (fun ds S Q E h => ?hb)) rfl rfl (F.binds fun _ _ _ _ _ _ us hl => match us, hl with | [_, _, _], _ => rfl)
  case len => obtain ⟨_, _, _, _, _, rfl, _⟩ := h; rfl
  case hb =>
    obtain ⟨pl, pr, ls, xs, z, rfl, hpl, hpr, h⟩ := h
    have err : (ls.length ≠ xs.length ∨ xs = [] ∨ ∃ v ∈ xs, v.1 < 0) → (fin Q E).ex 0 [some (.ref pl), some (.ref pr), some (.int z), none, none, none, none, none] S := fun hb => by
      rcases h with h | ⟨g1, g2, _, _, _, _, _, x, t, g3, _⟩
      · exact ⟨_, Sub.refl _, h.2⟩
      · rcases hb with hb | hb | ⟨v, hv, hb⟩
        · exact absurd g1 hb
        · rw [hb] at g3; cases g3
        · have := g2 v hv
          omega
    refine ⟨_, rfl, _, hpl, _, rfl, _, hpr, ?_⟩
    refine itn (fun c => err (.inl (by rw [List.length_map, List.length_map] at c; omega))) (fun c => ?_)
    refine ⟨_, rfl, _, hpr, ?_⟩
    refine itd (fun c2 => err (.inr (.inl (by rw [List.length_map] at c2; exact List.length_eq_zero_iff.mp (by omega))))) (fun c2 => ?_)
    refine ⟨_, rfl, _, negB, hpr, fun d hd => ?_, ?_⟩
    · obtain ⟨v, hv, rfl⟩ := List.mem_map.mp hd
      rfl
    refine itb (fun c3 => err (.inr (.inr ((negB_any xs).mp c3)))) (fun c3 => ?_)
    obtain ⟨g1, g2, hb, hle, hn, z1, z2, x, t, hx, hQ⟩ := h.resolve_left (by
      rintro ⟨hb, _⟩
      rcases hb with hb | hb | hb
      · rw [List.length_map, List.length_map] at c; omega
      · rw [hb] at c2; exact c2 rfl
      · rw [(negB_any xs).mpr hb] at c3; cases c3)
    clear h err
    have bx : ∀ v ∈ xs, Bd 400 v := fun v hv => (hb v hv).mono (by decide)
    refine ⟨_, rfl, ⟨by decide, by decide, by decide, rfl⟩, _, rfl, pr, xs, rfl, hpr, fun v hv => (hb v hv).mono (by decide), fun x' t' e => ?_, fun e => by rw [hx] at e; cases e⟩
    have ex' : x' = x := by rw [hx] at e; cases e; rfl
    subst ex'
    have bt : Bd 400 (lgF x' xs) := lgF_bd (bx x' (by rw [hx]; simp)) bx
    change t_bars_2 Z (fin Q E) [some (.ref pl), some (.ref pr), some (.int z), some (nD (lgF x' xs)), none, none, none, none] S
    generalize lgF x' xs = top at *
    refine ⟨_, rfl, _, lenB, hpl, fun d hd => ?_, ?_, ?_⟩
    · obtain ⟨l, hl, rfl⟩ := List.mem_map.mp hd
      have := hle l hl
      show (if _ then _ else _) = _
      rw [if_pos (sh (by omega))]
      rfl
    · intro e
      have e := List.map_eq_nil_iff.mp e
      rw [e, hx] at g1
      cases g1
    intro m hm hy
    obtain ⟨w, rfl, hw1, hw2⟩ : ∃ w : Nat, m = (w : Int) ∧ w ∈ ls.map List.length ∧ ∀ l ∈ ls, l.length ≤ w := by
      rw [List.map_map] at hm
      obtain ⟨l, hl, rfl⟩ := List.mem_map.mp hm
      refine ⟨l.length, by show (((⟨l.toArray⟩ : Str).length : Nat) : Int) = _; rw [len_mk], List.mem_map.mpr ⟨l, hl, rfl⟩, fun k hk => ?_⟩
      have h9 := hy (((⟨k.toArray⟩ : Str).length : Nat) : Int) (by rw [List.map_map]; exact List.mem_map.mpr ⟨k, hk, rfl⟩)
      have h8 : (((⟨k.toArray⟩ : Str).length : Nat) : Int) ≤ (((⟨l.toArray⟩ : Str).length : Nat) : Int) := h9
      rw [len_mk, len_mk] at h8
      omega
    have hQ := hQ w hw1 hw2
    have hw : w ≤ 1000 := by
      obtain ⟨l, hl, rfl⟩ := List.mem_map.mp hw1
      exact hle l hl
    have tail : ∀ tp : Nu, tp = topF top → 0 < tp.1 → Bd 400 tp → sp_heights [.ref pr, nD (0, 1), nD tp, .int z] S (fun d S' => t_bars_4 Z (fin Q E) [some (.ref pl), some (.ref pr), some (.int z), some (nD top), some (.int (w : Int)), some d, none, none] S') (fun c S' => (fin Q E).ex c [some (.ref pl), some (.ref pr), some (.int z), some (nD top), some (.int (w : Int)), none, none, none] S') := fun tp htp tp0 btp => by
      have hlt : lt (0, 1) tp = true := decide_eq_true (by show 0 * tp.2 < tp.1 * 1; omega)
      refine ⟨pr, xs, (0, 1), tp, z, rfl, hpr, bx, hn, ⟨by show (0 : Int).natAbs < _; exact Nat.pow_pos (by decide), by decide, by show (1 : Int).natAbs < _; exact Nat.lt_of_lt_of_le (show 1 < 2 ^ 1 by decide) (Nat.pow_le_pow_right (by decide) (by decide))⟩, btp, fun _ _ _ => ?_, fun q => absurd ⟨hlt, z1, z2⟩ q⟩
      rw [← htp] at hQ
      refine ⟨_, rfl, _, rfl, ls.map sD, xs.map (fun v => .int (hgt (0, 1) tp z v)), hpl, rfl, ?_⟩
      refine ⟨by unfold zipD; rw [List.length_zipWith, List.length_map, List.length_map, sizeLine_eq]; omega, fun i acc S' => acc = (linesF ls xs tp w z).take i ∧ S = S', ⟨rfl, rfl⟩, ?_, ?_, ?_⟩
      · rintro i acc S' ⟨rfl, rfl⟩
        exact ⟨hpl, rfl⟩
      · rintro i d acc S' hd ⟨rfl, rfl⟩
        obtain ⟨a, b, ha, hb', rfl⟩ := zipD_at hd
        rw [List.getElem?_map] at ha hb'
        cases hl : ls[i]? with
        | none => rw [hl] at ha; cases ha
        | some l =>
          cases hv : xs[i]? with
          | none => rw [hv] at hb'; cases hb'
          | some v =>
            rw [hl] at ha
            rw [hv] at hb'
            cases ha
            cases hb'
            have l1 := hle l (List.mem_of_getElem? hl)
            have l2 := hw2 l (List.mem_of_getElem? hl)
            obtain ⟨p0, p1⟩ := hgt_in (lo := (0, 1)) (hi := tp) (v := v) (z := z) (by omega)
            have esp : (" " : Str) = ⟨[32].toArray⟩ := rfl
            have esh : ("#" : Str) = ⟨[35].toArray⟩ := rfl
            refine ⟨rfl, rfl, ?_⟩
            refine ⟨_, rfl, _, rfl, _, rfl, sh (by omega), ?_⟩
            rw [len_mk, esp, esh]
            refine ⟨rep1_ok (by omega), ?_⟩
            rw [rep1]
            refine ⟨sh2 (by rw [List.length_replicate]; omega), ?_⟩
            rw [cat_mk]
            refine ⟨sh2 (by rw [List.length_append, List.length_replicate, List.length_singleton]; omega), ?_⟩
            rw [cat_mk]
            refine ⟨_, rfl, rep1_ok (by omega), ?_⟩
            rw [rep1]
            refine ⟨sh2 (by rw [List.length_append, List.length_append, List.length_replicate, List.length_replicate, List.length_singleton]; omega), ?_⟩
            rw [cat_mk]
            refine ⟨_, Sub.refl _, ?_, rfl⟩
            rw [List.take_succ]
            unfold linesF
            rw [List.getElem?_zipWith, hl, hv]
            unfold lineF
            rw [show ((w : Int) - (l.length : Int)).toNat = w - l.length by omega]
            rfl
      · rintro acc S' l ⟨rfl, rfl⟩ hl
        have e : (zipD (ls.map sD) (xs.map (fun v => D.int (hgt (0, 1) tp z v)))).length = (linesF ls xs tp w z).length := by
          unfold zipD linesF
          rw [List.length_zipWith, List.length_zipWith, List.length_map, List.length_map]
        rw [e, List.take_length]
        exact ⟨_, put_same, _, Sub.new hl, hQ⟩
    refine ⟨_, rfl, ⟨by decide, by decide, by decide, rfl⟩, _, rfl, i2, _, rfl, _, rfl, ?_⟩
    unfold topF at tail
    refine itd (fun c9 => ?_) (fun c9 => ?_)
    · have c9' : 0 < top.1 := c9
      rw [if_pos c9'] at tail
      exact ⟨_, rfl, _, rfl, tail top rfl c9' bt⟩
    · have c9' : ¬ 0 < top.1 := c9
      rw [if_neg c9'] at tail
      exact ⟨i2, _, rfl, tail (1, 1) rfl (by decide) ⟨by show (1 : Int).natAbs < _; exact Nat.lt_of_lt_of_le (show 1 < 2 ^ 1 by decide) (Nat.pow_le_pow_right (by decide) (by decide)), by decide, by show (1 : Int).natAbs < _; exact Nat.lt_of_lt_of_le (show 1 < 2 ^ 1 by decide) (Nat.pow_le_pow_right (by decide) (by decide))⟩⟩

theorem ok_shares {P : Program} {w : World} {K : PySem.W.Frag} {mg : Str → Option Value} {base : Heap} {Z : Zt} {f : Addr} {fd : FuncData} {cdv : Value} (hfn : ∀ i, Z.fn i = fnOf' fnT i) (hlm : ∀ j, Z.lm j = lmT j) (hM : TxOk P w K mg base Z tx (M14 Z)) (F : FunC K "shares" "shares" s_shares f fd cdv .none) {cA PA : Addr} (hcd : cdv = .ref cA) (hTB : GxR.TabB base mg cA PA) (hTm : PA ∈ Z.T) (hTn : ∀ p ∈ Z.TL, p.1 ≠ PA) : FnD P w K mg base Z 4 f (e_shares) := by
  have nd := sc_shares.nd
  have T : ∀ (A : Around) (outer : List Env) (s : Shared) (H : Hp) (E : XK), TabD (cxOf (L2.CX P w) P w K mg base ["rows", "whole", "total", "value", "found", "losses", "step", "share", "best", "place"] "shares" (defScope s_shares) f cdv A outer s H E) Z cA PA := fun A outer s H E => ⟨hTB, hcd, hTm, hTn⟩
  refine FnD.mk0 (ps := ["rows", "whole"]) (fn_bodyC F sc_shares (fun ds S Q E h => ?len) _ (fun A outer s H E hr => (pdss_cons (pds_set nd (i := 2) (pd_tup (pda_cons pd_int (pda_cons pd_int pda_nil))))
    (pdss_cons (pds_for (passes_of rfl) (by rfl) (pdi_any (pd_var 0)) (pdg_name nd (i := 3)) (pdss_one (pds_set nd (i := 2) (pd_call hM hr 3 2 (by rfl) (by rfl) (pda_cons (pd_var 2) (pda_cons (pd_var 3) pda_nil))))))
    (pdss_cons (pds_if (PDW.pt (pdw_or (pdt_tru (pd_anyL hM 1 (by rfl) hr (by rfl) (T A outer s H E) (genS_by (by decide +kernel)) (pd_var 0) (qe_lt (qe_ix (qe_name rfl rfl)) qe_int))) (pdw_or (pdt_cmp (od_eq (hu64 hr)) (pd_ix (pd_var 2) pd_int) pd_int) (pdw_or1 (pdt_cmp od_lt (pd_var 1) pd_int))))) (pdss_one (pds_raise hM 0 (by rfl) (by rfl) (by rfl))) pdss_nil)
    (pdss_cons (pds_par2 (i := 4) (j := 5) (by rfl) nd (pda_cons (pd_lst pda_nil) (pda_cons (pd_lst pda_nil) pda_nil)) (by rfl))
    (pdss_cons (pds_for (passes_of rfl) (by rfl) (pdi_any (pd_var 0)) (pdg_name nd (i := 3)) (pdss_cons (pds_set nd (i := 7) (pd_call hM hr 2 2 (by rfl) (by rfl) (pda_cons (pd_op od_mul (pd_op od_mul (pd_ix (pd_var 3) pd_int) (pd_var 1)) (pd_ix (pd_var 2) pd_int)) (pda_cons (pd_op od_mul (pd_ix (pd_var 3) pd_int) (pd_ix (pd_var 2) pd_int)) pda_nil))))
    (pdss_cons (pds_expr (pd_lm PySem.F.slot_list_append PySem.F.type_list_append md_append (pd_var 4) (pda_cons (pd_op od_div (pd_ix (pd_var 7) pd_int) (pd_ix (pd_var 7) pd_int)) pda_nil)))
    (pdss_one (pds_expr (pd_lm PySem.F.slot_list_append PySem.F.type_list_append md_append (pd_var 5) (pda_cons (pd_call hM hr 4 2 (by rfl) (by rfl) (pda_cons (pd_var 7) (pda_cons (pd_tup (pda_cons (pd_ix (pd_var 4) (pd_neg pd_int)) (pda_cons pd_int pda_nil))) pda_nil))) pda_nil)))))))
    (pdss_cons (pds_for (passes_of rfl) (by rfl) (pdi_range1 hM 3 (by rfl) (pda_cons (pd_op od_sub (pd_var 1) (pd_bi hM (cd_sum (by rfl)) 11 (by rfl) (by rfl) bt_sum (pda_cons (pd_var 4) pda_nil))) pda_nil)) (pdg_name nd (i := 6)) (pdss_cons (pds_set nd (i := 8) pd_int)
    (pdss_cons (pds_for (passes_of rfl) (by rfl) (pdi_range1 hM 3 (by rfl) (pda_cons (pd_bi hM cd_len 0 (by rfl) (by rfl) bt_len (pda_cons (pd_var 5) pda_nil)) pda_nil)) (pdg_name nd (i := 9)) (pdss_one (pds_if (pdt_tru (pd_call hM hr 5 2 (by rfl) (by rfl) (pda_cons (pd_ix (pd_var 5) (pd_var 8)) (pda_cons (pd_ix (pd_var 5) (pd_var 9)) pda_nil)))) (pdss_one (pds_set nd (i := 8) (pd_var 9))) pdss_nil)))
    (pdss_cons (pds_augIx (pd_var 4) (pd_var 8) pd_int id_add)
    (pdss_one (pds_asg (pd_tup (pda_cons (pd_op od_sub pd_int pd_int) (pda_cons pd_int pda_nil))) (pdg_ix (pd_var 5) (pd_var 8))))))))
    (pdss_one (pds_ret (pd_ty hM cd_tuple 8 (by rfl) (by rfl) bt_tuple (pda_cons (pd_var 4) pda_nil))))))))))) (fun ds S Q E h => ?hb)) rfl rfl (F.binds fun _ _ _ _ _ _ us hl => match us, hl with | [_, _], _ => rfl)
  case len => obtain ⟨_, _, _, rfl, _⟩ := h; rfl
  case hb =>
    obtain ⟨p, xs, w, rfl, hp, hb, hn, hw, h⟩ := h
    have bT : Bd 621 (totF xs) := by
      have := totF_bd hb xs.length (Nat.le_refl _)
      rw [List.take_length] at this
      exact this.mono (by omega)
    have main : ∀ o3, t_shares_2 Z (fin Q E) [some (.ref p), some (.int w), some (nD (totF xs)), o3, none, none, none, none, none, none] S := fun o3 => by
      have err : ((∃ v ∈ xs, v.1 < 0) ∨ (totF xs).1 = 0 ∨ w < 0) → (fin Q E).ex 0 [some (.ref p), some (.int w), some (nD (totF xs)), o3, none, none, none, none, none, none] S := fun hb => by
        rcases h with h | ⟨g1, g2, g3, _⟩
        · exact ⟨_, Sub.refl _, h.2⟩
        · rcases hb with ⟨v, hv, hb⟩ | hb | hb
          · have := g1 v hv
            omega
          · omega
          · omega
      refine ⟨_, rfl, _, negB, hp, fun d hd => ?_, ?_⟩
      · obtain ⟨v, hv, rfl⟩ := List.mem_map.mp hd
        rfl
      refine itb (fun c3 => err (.inl ((negB_any xs).mp c3))) (fun c3 => ?_)
      refine ⟨_, rfl, _, rfl, ?_⟩
      refine itd (fun c2 => err (.inr (.inl c2))) (fun c2 => ?_)
      refine ⟨_, rfl, ?_⟩
      refine itd (fun c1 => err (.inr (.inr c1))) (fun c1 => ?_)
      obtain ⟨g1, g2, g3, g4, g5, g6, hQ⟩ := h.resolve_left (by
        rintro ⟨hb, _⟩
        rcases hb with hb | hb | hb
        · rw [(negB_any xs).mpr hb] at c3; cases c3
        · exact c2 hb
        · exact c1 hb)
      clear h err c1 c2 c3
      generalize hT : totF xs = T at *
      have bsh : ∀ v ∈ xs, Bd 671 (shr w T v) := fun v hv => ex_bd (Int.mul_pos (hb v hv).p g2) ((((hb v hv).a.mul hw).mul bT.b).mono (by decide)) (((hb v hv).b.mul bT.a).mono (by decide))
      have bfl : ∀ v ∈ xs, Lt 671 (fl (shr w T v)) := fun v hv => fdiv_lt (bsh v hv).p (bsh v hv).a
      have bf1 : ∀ v ∈ xs, Bd 671 (fl (shr w T v), 1) := fun v hv => ⟨bfl v hv, Int.one_pos, by show (1 : Int).natAbs < _; exact Nat.lt_of_lt_of_le (show 1 < 2 ^ 1 by decide) (Nat.pow_le_pow_right (by decide) (by decide))⟩
      have bls : ∀ u ∈ xs.map fun v => lossF (shr w T v), Bd 3000 u := fun u hu => by
        obtain ⟨v, hv, rfl⟩ := List.mem_map.mp hu
        exact (mi_bd (bsh v hv) (bf1 v hv)).mono (by decide)
      refine ⟨by show 0 ≤ sizeLine; decide, fun l hl => ⟨by show 0 ≤ sizeLine; decide, fun l2 hl2 => ?_⟩⟩
      have ne : l ≠ l2 := fun z => put_none_ne hl2 z.symm
      have hl2' := put_none hl2
      have hpA : ∀ A B, put (put S l A) l2 B p = some (.lst (xs.map nD)) := fun A B => by
        rw [put_ne (ne_of_free hp hl2'), put_ne (ne_of_free hp hl)]
        exact hp
      have hlA : ∀ A B, put (put S l A) l2 B l = some A := fun A B => by rw [put_ne ne]; exact put_same
      have sub : ∀ A B, Sub S (put (put S l A) l2 B) := fun A B => (Sub.new hl).trans (Sub.new (by rw [put_ne ne.symm]; exact hl2'))
      refine ⟨_, rfl, _, hpA _ _, fun i r S' => (∃ o3 o7, r = [some (.ref p), some (.int w), some (nD T), o3, some (.ref l), some (.ref l2), none, o7, none, none]) ∧ put (put S l (.lst ((xs.take i).map fun v => .int (fl (shr w T v))))) l2 (.lst ((xs.take i).map fun v => nD (lossF (shr w T v)))) = S', ⟨⟨_, _, rfl⟩, rfl⟩, ?_, ?_, ?_⟩
      · rintro i r S' ⟨_, rfl⟩
        exact hpA _ _
      · rintro i d r S' hd ⟨⟨o3, o7, rfl⟩, rfl⟩
        rw [List.getElem?_map] at hd
        cases hv : xs[i]? with
        | none => rw [hv] at hd; cases hd
        | some v =>
          rw [hv] at hd
          cases hd
          have hm := List.mem_of_getElem? hv
          have bv := hb v hm
          have w1 : 0 < v.2 * T.1 := Int.mul_pos bv.p g2
          refine ⟨_, rfl, ⟨by decide, by decide, by decide, rfl⟩, _, rfl, _, rfl, _, rfl, mul_sz (bv.a.sz (by decide)) (hw.sz (by decide)), _, rfl, _, rfl, mul_sz ((bv.a.mul hw).sz (by decide)) (bT.b.sz (by decide)), _, rfl, _, rfl, _, rfl, _, rfl, mul_sz (bv.b.sz (by decide)) (bT.a.sz (by decide)), v.1 * w * T.2, v.2 * T.1, rfl, by omega, ((bv.a.mul hw).mul bT.b).sz (by decide), (bv.b.mul bT.a).sz (by decide), fun z => absurd z (by omega), ?_⟩
          have bs := bsh v hm
          change t_shares_4_1 Z _ [some (.ref p), some (.int w), some (nD T), some (nD v), some (.ref l), some (.ref l2), none, some (nD (shr w T v)), none, none] _
          have ea : ((xs.take i).map fun v => D.int (fl (shr w T v))) ++ [D.int ((shr w T v).1.fdiv (shr w T v).2)] = (xs.take (i + 1)).map fun v => D.int (fl (shr w T v)) := (take_snoc (fun v => D.int (fl (shr w T v))) hv).symm
          refine ⟨_, rfl, ⟨_, _, rfl, hlA _ _⟩, _, rfl, _, rfl, _, rfl, _, rfl, div_pos bs.p (bs.b.sz (by decide)), _, hlA _ _, by rw [List.length_map, List.length_take, sizeLine_eq]; omega, ?_⟩
          rw [put_under ne, ea]
          refine ⟨_, rfl, ⟨_, _, rfl, put_same⟩, _, rfl, ⟨by decide, by decide, by decide, rfl⟩, _, rfl, _, rfl, _, _, hlA _ _, (by rw [take_snoc _ hv]; exact at_last), i2, shr w T v, (fl (shr w T v), 1), rfl, bs.mono (by decide), (bf1 v hm).mono (by decide), ?_⟩
          refine ⟨_, put_same, by rw [List.length_map, List.length_take, sizeLine_eq]; omega, ?_⟩
          rw [put_put]
          exact ⟨_, Sub.refl _, ⟨_, _, rfl⟩, by rw [take_snoc (fun v => nD (lossF (shr w T v))) hv] <;> rfl⟩
      · rintro r S' ⟨⟨o3, o7, rfl⟩, rfl⟩
        rw [List.length_map, List.take_length]
        generalize hst : ((xs.map fun v => fl (shr w T v), xs.map fun v => lossF (shr w T v)) : List Int × List Nu) = st at *
        have e1 : (xs.map fun v => D.int (fl (shr w T v))) = st.1.map D.int := by rw [← hst, List.map_map] <;> rfl
        have e2 : (xs.map fun v => nD (lossF (shr w T v))) = st.2.map nD := by rw [← hst, List.map_map] <;> rfl
        have e3 : (xs.map fun v => fl (shr w T v)) = st.1 := by rw [← hst]
        have e4 : (xs.map fun v => lossF (shr w T v)) = st.2 := by rw [← hst]
        rw [e1, e2]
        rw [e3] at hQ g5 g6
        rw [e4] at bls
        have n1 : st.1.length = xs.length := by rw [← e3, List.length_map]
        have n2 : st.2.length = xs.length := by rw [← e4, List.length_map]
        clear e1 e2 e3 e4 hst
        have sl := sh_len st
        have sb := sh_bd bls
        have slo : -(2 ^ 62) ≤ w - st.1.sum := by omega
        refine ⟨_, rfl, _, rfl, st.1, hlA _ _, ⟨slo, by omega⟩, fun i r S' => (∃ o6 o8 o9, r = [some (.ref p), some (.int w), some (nD T), o3, some (.ref l), some (.ref l2), o6, o7, o8, o9]) ∧ put (put S l (.lst ((shLoop i st).1.map D.int))) l2 (.lst ((shLoop i st).2.map nD)) = S', ⟨⟨_, _, _, rfl⟩, rfl⟩, fun _ _ _ _ => trivial, ?_, ?_⟩
        · rintro i d r S' hd ⟨⟨o6, o8, o9, rfl⟩, rfl⟩
          obtain ⟨hi, rfl⟩ := rngD_get hd
          obtain ⟨m1, m2⟩ := sl i
          have sbi := sb i
          have es : shLoop (i + 1) st = shStep (shLoop i st) := rfl
          generalize shLoop i st = su at *
          have q0 : 0 < su.2.length := by omega
          refine ⟨_, rfl, _, put_same, ?_⟩
          rw [List.length_map]
          refine ⟨⟨by omega, by omega⟩, fun k r S' => (∃ o9, r = [some (.ref p), some (.int w), some (nD T), o3, some (.ref l), some (.ref l2), some (.int (0 + (i : Int))), o7, some (.int ((argP su.2 k : Nat) : Int)), o9]) ∧ put (put S l (.lst (su.1.map D.int))) l2 (.lst (su.2.map nD)) = S', ⟨⟨_, rfl⟩, rfl⟩, fun _ _ _ _ => trivial, ?_, ?_⟩
          · rintro k d r S' hd ⟨⟨o9, rfl⟩, rfl⟩
            obtain ⟨hk, hd2⟩ := rngD_get hd
            have hk : k < su.2.length := by omega
            have hd3 : d = .int (k : Int) := by rw [hd2]; congr 1 <;> omega
            subst hd3
            have pk := argP_lt su.2 q0 k (by omega)
            refine ⟨_, rfl, ⟨by decide, by decide, by decide, rfl⟩, _, rfl, _, rfl, _, _, put_same, G.atI_nat (la_at pk).1, _, rfl, _, rfl, _, _, put_same, G.atI_nat (la_at hk).1, la su.2 (argP su.2 k), la su.2 k, rfl, (sbi _ (la_at pk).2).mono (by decide), (sbi _ (la_at hk).2).mono (by decide), ?_⟩
            refine itb (fun c => ?_) (fun c => ?_)
            · exact ⟨_, rfl, _, Sub.refl _, ⟨_, by rw [argP_succ, if_pos c] <;> rfl⟩, rfl⟩
            · exact ⟨_, Sub.refl _, ⟨_, by rw [argP_succ, if_neg (by rw [c]; decide)] <;> rfl⟩, rfl⟩
          · rintro r S' ⟨⟨o9, rfl⟩, rfl⟩
            have elen : (rngD 0 ((su.2.length : Nat) : Int).toNat).length = su.2.length := by rw [rngD_len, Int.toNat_natCast]
            rw [elen]
            have pk := argP_lt su.2 q0 su.2.length (Nat.le_refl _)
            generalize hbe : argP su.2 su.2.length = b at *
            have hb1 : b < su.1.length := by omega
            have get1 : (su.1.map D.int)[((b : Nat) : Int).toNat]? = some (.int (su.1.getD b 0)) := by
              rw [Int.toNat_natCast, List.getElem?_map, List.getD_eq_getElem?_getD, List.getElem?_eq_getElem hb1]
              rfl
            refine ⟨_, rfl, _, rfl, by omega, _, _, hlA _ _, get1, _, hlA _ _, by rw [List.length_map]; omega, ?_⟩
            rw [put_under ne, Int.toNat_natCast]
            have hix : ixN (su.2.map nD).length ((b : Nat) : Int) = some b := by
              unfold ixN
              rw [List.length_map, if_pos (by omega), if_pos (by omega), Int.toNat_natCast]
            refine ⟨i2, _, rfl, _, rfl, _, _, put_same, hix, ?_⟩
            rw [put_put]
            refine ⟨_, Sub.refl _, ⟨_, _, _, rfl⟩, ?_⟩
            rw [es]
            unfold shStep
            rw [hbe, List.map_set, List.map_set]
            rfl
        · rintro r S' ⟨⟨o6, o8, o9, rfl⟩, rfl⟩
          rw [rngD_len]
          exact ⟨_, rfl, _, hlA _ _, _, sub _ _, hQ⟩
    refine ⟨i2, ?_⟩
    refine ⟨_, rfl, _, hp, fun i r S' => (∃ o3, r = [some (.ref p), some (.int w), some (nD (totF (xs.take i))), o3, none, none, none, none, none, none]) ∧ S = S', ⟨⟨_, rfl⟩, rfl⟩, ?_, ?_, ?_⟩
    · rintro i r S' ⟨_, rfl⟩
      exact hp
    · rintro i d r S' hd ⟨⟨o3, rfl⟩, rfl⟩
      rw [List.getElem?_map] at hd
      cases hv : xs[i]? with
      | none => rw [hv] at hd; cases hd
      | some v =>
        rw [hv] at hd
        cases hd
        have hi := (List.getElem?_eq_some_iff.mp hv).1
        have b1 := totF_bd hb i (by omega)
        refine ⟨_, rfl, ⟨by decide, by decide, by decide, rfl⟩, _, rfl, _, rfl, totF (xs.take i), v, rfl, b1.mono (by omega), (hb v (List.mem_of_getElem? hv)).mono (by decide), ?_⟩
        exact ⟨_, Sub.refl _, ⟨_, by rw [totF_take hv] <;> rfl⟩, rfl⟩
    · rintro r S' ⟨⟨o3, rfl⟩, rfl⟩
      rw [List.length_map, List.take_length]
      exact main o3
end K09

set_option Elab.async false
set_option linter.all false
set_option maxRecDepth 100000
set_option maxHeartbeats 4000000
namespace K09
open PySem PySem.Spec PyProof.Rows L2 G
theorem ok__law_dice {P : Program} {w : World} {K : PySem.W.Frag} {mg : Str → Option Value} {base : Heap} {Z : Zt} {f : Addr} {fd : FuncData} {cdv : Value} (hfn : ∀ i, Z.fn i = fnOf' fnT i) (hlm : ∀ j, Z.lm j = lmT j) (hM : TxOk P w K mg base Z tx (M15 Z)) (F : FunC K "_law_dice" "_law_dice" s__law_dice f fd cdv .none) : FnD P w K mg base Z 1 f (e__law_dice) := by
  have nd := sc__law_dice.nd
  refine FnD.mk0 (ps := ["cell"]) (fn_bodyC F sc__law_dice (fun ds S Q E h => ?len) _ (fun A outer s H E hr => (pdss_cons (pds_if (pdt_chain (pd_op od_sub pd_int pd_int) (pdcht_c od_lt (pd_var 0) (pdcht_1 od_lt pd_int))) (pdss_one (pds_ret (pd_lst (pda_cons (pd_bi hM cd_abs 7 (by rfl) (by rfl) bt_abs (pda_cons (pd_var 0) pda_nil)) (pda_cons pd_int (pda_cons pd_int pda_nil)))))) pdss_nil)
    (pdss_one (pds_ret (pd_lst (pda_cons (pd_var 0) (pda_cons (pd_op od_add pd_int (pd_op od_mod (pd_ty hM cd_int 2 (by rfl) (by rfl) bt_int (pda_cons (pd_var 0) pda_nil)) pd_int)) (pda_cons (pd_ty hM cd_int 2 (by rfl) (by rfl) bt_int (pda_cons (pd_cmp od_ge (pd_var 0) (pd_op od_pow pd_int pd_int)) pda_nil)) pda_nil)))))))) (fun ds S Q E h => ?hb)) rfl rfl (F.binds fun _ _ _ _ _ _ us hl => match us, hl with | [_], _ => rfl)
  case len => obtain ⟨_, rfl, _⟩ := h; rfl
  case hb =>
    obtain ⟨c, rfl, h1⟩ := h
    have z3 : 3 ≤ sizeLine := by decide
    refine ⟨_, rfl, ?_⟩
    have other : dRet (dLst (dCons (dVar 0) (dCons (dOp opAdd (dC (.int 1)) (dOp opMod (dBi rInt (dCons (dVar 0) dNil)) (dC (.int 1009)))) (dCons (dBi rInt (dCons (dOp opGe (dVar 0) (dOp opPow (dC (.int 10)) (dC (.int 18)))) dNil)) dNil)))) (fin Q E) [some (.int c)] S :=
      ⟨_, rfl, _, rfl, by decide, _, rfl, ⟨by decide, by decide, by decide⟩, z3, fun q hq => ⟨_, Sub.refl _, h1 _ _ _ q hq⟩⟩
    refine itd (fun c1 => ?_) (fun c1 => other)
    refine itd (fun c2 => ?_) (fun c2 => other)
    exact ⟨_, rfl, z3, fun q hq => ⟨_, Sub.refl _, h1 _ _ _ q hq⟩⟩

theorem ok__law_roll {P : Program} {w : World} {K : PySem.W.Frag} {mg : Str → Option Value} {base : Heap} {Z : Zt} {f : Addr} {fd : FuncData} {cdv : Value} (hfn : ∀ i, Z.fn i = fnOf' fnT i) (hlm : ∀ j, Z.lm j = lmT j) (hM : TxOk P w K mg base Z tx (M16 Z)) (F : FunC K "_law_roll" "_law_roll" s__law_roll f fd cdv .none) : FnD P w K mg base Z 1 f (e__law_roll) := by
  have nd := sc__law_roll.nd
  refine FnD.mk0 (ps := ["dice", "many"]) (fn_bodyC F sc__law_roll (fun ds S Q E h => ?len) _ (fun A outer s H E hr => (pdss_cons (pds_if (PDW.pt (pdw_or (pdt_cmp (od_eq (hu64 hr)) (pd_ix (pd_var 0) pd_int) pd_int) (pdw_or1 (PDW.pt (pdw_and (pdt_cmp (od_eq (hu64 hr)) (pd_ix (pd_var 0) pd_int) pd_int) (pdw_and1 (pdt_cmp od_gt (pd_ix (pd_var 0) pd_int) pd_int))))))) (pdss_cons (pds_set nd (i := 2) (pd_op od_mod (pd_ty hM cd_int 2 (by rfl) (by rfl) bt_int (pda_cons (pd_ix (pd_var 0) pd_int) pda_nil)) (pd_var 1)))
    (pdss_cons (pds_asg (pd_op od_div (pd_ix (pd_var 0) pd_int) (pd_var 1)) (pdg_ix (pd_var 0) pd_int))
    (pdss_one (pds_ret (pd_var 2))))) pdss_nil)
    (pdss_cons (pds_asg pd_int (pdg_ix (pd_var 0) pd_int))
    (pdss_cons (pds_if (pdt_cmp od_gt (pd_var 1) pd_int) (pdss_one (pds_ret (pd_op od_mod (pd_ty hM cd_int 2 (by rfl) (by rfl) bt_int (pda_cons (pd_op od_add (pd_op od_mul (pd_call hM hr 16 2 (by rfl) (by rfl) (pda_cons (pd_var 0) (pda_cons (pd_op od_add (pd_op od_div (pd_var 1) pd_int) pd_int) pda_nil))) pd_int) (pd_call hM hr 16 2 (by rfl) (by rfl) (pda_cons (pd_var 0) (pda_cons pd_int pda_nil)))) pda_nil)) (pd_var 1)))) pdss_nil)
    (pdss_cons (pds_asg (pd_op od_mod (pd_ty hM cd_int 2 (by rfl) (by rfl) bt_int (pda_cons (pd_op od_add (pd_op od_add (pd_op od_mul (pd_ix (pd_var 0) pd_int) pd_int) (pd_op od_mul (pd_ix (pd_var 0) pd_int) pd_int)) pd_int) pda_nil)) pd_int) (pdg_ix (pd_var 0) pd_int))
    (pdss_cons (pds_asg (pd_op od_add (pd_ix (pd_var 0) pd_int) pd_int) (pdg_ix (pd_var 0) pd_int))
    (pdss_one (pds_ret (pd_op od_mod (pd_ty hM cd_int 2 (by rfl) (by rfl) bt_int (pda_cons (pd_op od_div (pd_ix (pd_var 0) pd_int) pd_int) pda_nil)) (pd_var 1)))))))))) (fun ds S Q E h => ?hb)) rfl rfl (F.binds fun _ _ _ _ _ _ us hl => match us, hl with | [_, _], _ => rfl)
  case len => obtain ⟨_, _, _, _, _, rfl, _⟩ := h; rfl
  case hb =>
    obtain ⟨q, m, a, b, d, rfl, m0, m1, hq, h1⟩ := h
    have mz : m ≠ 0 := by omega
    have md : DivOk m := divS mz (by omega)
    have first : dSeq (dAsg (dOp opMod (dBi rInt (dCons (dOp opIx (dVar 0) (dC (.int 0))) dNil)) (dVar 1)) (gN 2)) (dSeq (dAsg (dOp opDiv (dOp opIx (dVar 0) (dC (.int 0))) (dVar 1)) (gIx (dVar 0) (dC (.int 0)))) (dRet (dVar 2))) (fin Q E) [some (.ref q), some (.int m), none] S := by
      refine ⟨_, rfl, _, _, hq, rfl, _, rfl, mz, _, rfl, _, _, hq, rfl, _, rfl, md, _, rfl, _, _, hq, rfl, _, rfl, _, Sub.refl _, ?_⟩
      exact h1 _ _ _ _ (by rw [Int.fmod_eq_emod_of_nonneg _ (by omega)]; exact Int.emod_nonneg _ mz) (by rw [Int.fmod_eq_emod_of_nonneg _ (by omega)]; exact Int.emod_lt_of_pos _ m0)
    have second : dSeq (dAsg (dC (.int 0)) (gIx (dVar 0) (dC (.int 2)))) (dSeq (dIfS (dTest (dOp opGt (dVar 1) (dC (.int 100000000)))) (dRet (dOp opMod (dBi rInt (dCons (dOp opAdd (dOp opMul (dCall (M16 Z) 0 16 2 (dCons (dVar 0) (dCons (dOp opAdd (dOp opDiv (dVar 1) (dC (.int 100000000))) (dC (.int 1))) dNil))) (dC (.int 100000000))) (dCall (M16 Z) 0 16 2 (dCons (dVar 0) (dCons (dC (.int 100000000)) dNil)))) dNil)) (dVar 1))) dNext)
        (dSeq (dAsg (dOp opMod (dBi rInt (dCons (dOp opAdd (dOp opAdd (dOp opMul (dOp opIx (dVar 0) (dC (.int 0))) (dC (.int 48271))) (dOp opMul (dOp opIx (dVar 0) (dC (.int 1))) (dC (.int 69621)))) (dC (.int 11))) dNil)) (dC (.int 2147483647))) (gIx (dVar 0) (dC (.int 0))))
          (dSeq (dAsg (dOp opAdd (dOp opIx (dVar 0) (dC (.int 1))) (dC (.int 1))) (gIx (dVar 0) (dC (.int 1)))) (dRet (dOp opMod (dBi rInt (dCons (dOp opDiv (dOp opIx (dVar 0) (dC (.int 0))) (dC (.int 7))) dNil)) (dVar 1)))))) (fin Q E) [some (.ref q), some (.int m), none] S := by
      refine ⟨_, rfl, _, _, hq, rfl, _, rfl, ?_⟩
      refine itd (fun c => absurd c (by omega)) (fun _ => ?_)
      refine ⟨_, rfl, _, _, put_same, rfl, mulR (by decide), _, rfl, _, _, put_same, rfl, mulR (by decide), by decide, _, rfl, _, _, put_same, rfl, ?_⟩
      refine ⟨_, rfl, _, _, put_same, rfl, _, rfl, _, _, put_same, rfl, ?_⟩
      refine ⟨_, rfl, _, _, put_same, rfl, divS (by decide) (by decide), _, rfl, mz, _, Sub.refl _, ?_⟩
      rw [put_put, put_put]
      exact h1 _ _ _ _ (by rw [Int.fmod_eq_emod_of_nonneg _ (by omega)]; exact Int.emod_nonneg _ mz) (by rw [Int.fmod_eq_emod_of_nonneg _ (by omega)]; exact Int.emod_lt_of_pos _ m0)
    refine ⟨_, rfl, _, _, hq, rfl, ?_⟩
    refine itd (fun c1 => first) (fun c1 => ?_)
    refine ⟨_, rfl, _, _, hq, rfl, ?_⟩
    refine itd (fun c2 => ?_) (fun c2 => second)
    refine ⟨_, rfl, _, _, hq, rfl, ?_⟩
    exact itd (fun c3 => first) (fun c3 => second)

theorem ok__law_rounds {P : Program} {w : World} {K : PySem.W.Frag} {mg : Str → Option Value} {base : Heap} {Z : Zt} {f : Addr} {fd : FuncData} {cdv : Value} (hfn : ∀ i, Z.fn i = fnOf' fnT i) (hlm : ∀ j, Z.lm j = lmT j) (hM : TxOk P w K mg base Z tx (M17 Z)) (F : FunC K "_law_rounds" "_law_rounds" s__law_rounds f fd cdv .none) : FnD P w K mg base Z 2 f (e__law_rounds) := by
  have nd := sc__law_rounds.nd
  refine FnD.mk0 (ps := ["script", "most"]) (fn_bodyC F sc__law_rounds (fun ds S Q E h => ?len) _ (fun A outer s H E hr => (pdss_cons (pds_set nd (i := 2) (pd_slice (pd_var 0) pdo_none (pdo_some (pd_var 1))))
    (pdss_cons (pds_if (pdt_cmp (od_eq (hu64 hr)) (pd_var 2) (pd_lst pda_nil)) (pdss_one (pds_set nd (i := 2) (pd_lst (pda_cons pd_int pda_nil)))) pdss_nil)
    (pdss_one (pds_ret (pd_lc (by rfl) nd (pdi_any (pd_var 2)) [("cell", 3)] (blkOk_by (by with_unfolding_all rfl)) (by decide) (fun _ _ _ _ _ => (pdg_name nd (i := 3))) (fun _ _ _ _ _ => pdts_nil) (fun _ _ _ _ _ => (pd_call hM hr 15 1 (by rfl) (by rfl) (pda_cons (pd_var 3) pda_nil))))))))) (fun ds S Q E h => ?hb)) rfl rfl (F.binds fun _ _ _ _ _ _ us hl => match us, hl with | [_, _], _ => rfl)
  case len => obtain ⟨_, _, rfl, _⟩ := h; rfl
  case hb =>
    obtain ⟨ns, x, rfl, hx, h1⟩ := h
    have sn : ∀ {S S' : DS} {p : Addr}, Sub S S' → S' p = none → S p = none := fun {S S' p} s h => by
      cases e : S p with
      | none => rfl
      | some o => rw [s p o e] at h; cases h
    have fin1 : ∀ (S1 : DS) (l : Addr) (n : Int), Sub S S1 → S1 l = some (.lst [.int n]) → dRet (dLc (iAny (dVar 2)) (gN 3) dYes (dCall (M17 Z) 1 15 1 (dCons (dVar 3) dNil)) [3]) (fin Q E) [some x, some (.int 1), some (.ref l), none] S1 := fun S1 l n s hl => by
      refine ⟨_, rfl, _, hl, by show 1 ≤ sizeLine; decide, fun i acc S' => (i = 0 ∧ acc = [] ∧ S' = S1) ∨ (i = 1 ∧ ∃ (p : Addr) (a b d : Int), acc = [.ref p] ∧ S1 p = none ∧ S' = put S1 p (.lst [.int a, .int b, .int d])), .inl ⟨rfl, rfl, rfl⟩, ?_, ?_, ?_⟩
      · rintro i acc S' (⟨rfl, rfl, rfl⟩ | ⟨rfl, p, a, b, d, rfl, hp, rfl⟩)
        · exact hl
        · exact keep_put hl hp
      · rintro i d acc S' hd (⟨rfl, rfl, rfl⟩ | ⟨rfl, p, a, b, d, rfl, hp, rfl⟩)
        · cases hd
          refine ⟨_, rfl, ⟨by decide, by decide, by decide, rfl⟩, _, rfl, n, rfl, fun a b d q hq => ?_⟩
          exact ⟨_, Sub.refl _, .inr ⟨rfl, q, a, b, d, rfl, hq, rfl⟩⟩
        · cases hd
      · rintro acc S' g (⟨h, _, _⟩ | ⟨_, p, a, b, d, rfl, hp, rfl⟩) hg
        · cases h
        · exact ⟨_, Sub.put (Sub.put s _ _) _ _, h1 a b d p g (sn s hp) (sn s (put_none hg)) (Ne.symm (put_none_ne hg))⟩
    refine ⟨_, rfl, _, rfl, slScript hx fun l hl => ?_⟩
    refine ⟨_, rfl, by show 0 ≤ sizeLine; decide, fun l2 hl2 => ?_⟩
    have s0 := keep_put (u := .lst []) (put_same (S := S) (a := l) (o := .lst (G.cutD (ns.map D.int) none (some 1)))) hl2
    clear hx
    cases ns with
    | nil =>
      refine ⟨_, _, s0, put_same, rfl, rfl, ?_⟩
      refine ⟨by show 1 ≤ sizeLine; decide, fun l3 hl3 => ?_⟩
      exact fin1 _ l3 0 (((Sub.new hl).trans (Sub.new hl2)).trans (Sub.new hl3)) put_same
    | cons n r =>
      have e : G.cutD ((n :: r).map D.int) none (some 1) = [.int n] := by
        unfold G.cutD
        rw [HT.sIx_none, show ((1 : Int)) = ((1 : Nat) : Int) from rfl, HT.sIx_nat]
        simp
      rw [e] at s0 ⊢
      refine ⟨_, _, s0, put_same, rfl, rfl, ?_⟩
      exact fin1 _ l n ((Sub.new hl).trans (Sub.new hl2)) s0

theorem ok_lam_0 {P : Program} {w : World} {K : PySem.W.Frag} {mg : Str → Option Value} {base : Heap} {Z : Zt} (hfn : ∀ i, Z.fn i = fnOf' fnT i) (hM : TxOk P w K mg base Z tx (M18 Z)) {l : LamR} (hl : lmT 0 = some l) : LamOk P w K mg base Z 6 l (sp_lam_0) := by
  cases hl
  refine ⟨⟨rfl, rfl, rfl, by decide +kernel⟩, fun _ _ _ => rfl, _, fun A outer s H E f c' hr => (pd_call hM hr 6 1 (by rfl) (by rfl) (pda_cons (pd_lst pda_nil) pda_nil)), fun S Q E h => ?hb⟩
  case hb =>
    exact ⟨_, rfl, ⟨by decide, by decide, by decide, rfl⟩, by show 0 ≤ sizeLine; decide, fun l hl => ⟨l, [], rfl, put_same, (fun v z => nomatch z), (fun x t z => nomatch z), fun _ => ⟨S, Sub.new hl, h⟩⟩⟩

theorem ok_lam_1 {P : Program} {w : World} {K : PySem.W.Frag} {mg : Str → Option Value} {base : Heap} {Z : Zt} (hfn : ∀ i, Z.fn i = fnOf' fnT i) (hM : TxOk P w K mg base Z tx (M19 Z)) {l : LamR} (hl : lmT 1 = some l) : LamOk P w K mg base Z 6 l (sp_lam_1) := by
  cases hl
  refine ⟨⟨rfl, rfl, rfl, by decide +kernel⟩, fun _ _ _ => rfl, _, fun A outer s H E f c' hr => (pd_call hM hr 7 1 (by rfl) (by rfl) (pda_cons (pd_tup pda_nil) pda_nil)), fun S Q E h => ?hb⟩
  case hb =>
    exact ⟨_, rfl, ⟨by decide, by decide, by decide, rfl⟩, by show 0 ≤ sizeLine; decide, .tup [], [], rfl, rfl, by decide, (fun v z => nomatch z), (fun x t z => nomatch z), fun _ => ⟨S, Sub.refl _, h⟩⟩

theorem ok_lam_2 {P : Program} {w : World} {K : PySem.W.Frag} {mg : Str → Option Value} {base : Heap} {Z : Zt} (hfn : ∀ i, Z.fn i = fnOf' fnT i) (hM : TxOk P w K mg base Z tx (M20 Z)) {l : LamR} (hl : lmT 2 = some l) : LamOk P w K mg base Z 6 l (sp_lam_2) := by
  cases hl
  refine ⟨⟨rfl, rfl, rfl, by decide +kernel⟩, fun _ _ _ => rfl, _, fun A outer s H E f c' hr => (pd_call hM hr 10 2 (by rfl) (by rfl) (pda_cons (pd_tup (pda_cons pd_int (pda_cons pd_int pda_nil))) (pda_cons pd_int pda_nil))), fun S Q E h => ?hb⟩
  case hb =>
    exact ⟨_, rfl, ⟨by decide, by decide, by decide, rfl⟩, i2, (0, 1), 5, rfl, (bdl (by decide) (by decide) (by decide) (by decide)), (fun z => absurd z (by decide)), fun _ => ⟨S, Sub.refl _, h⟩⟩

theorem ok_lam_3 {P : Program} {w : World} {K : PySem.W.Frag} {mg : Str → Option Value} {base : Heap} {Z : Zt} (hfn : ∀ i, Z.fn i = fnOf' fnT i) (hM : TxOk P w K mg base Z tx (M21 Z)) {l : LamR} (hl : lmT 3 = some l) : LamOk P w K mg base Z 6 l (sp_lam_3) := by
  cases hl
  refine ⟨⟨rfl, rfl, rfl, by decide +kernel⟩, fun _ _ _ => rfl, _, fun A outer s H E f c' hr => (pd_call hM hr 10 2 (by rfl) (by rfl) (pda_cons (pd_tup (pda_cons pd_int (pda_cons pd_int pda_nil))) (pda_cons pd_int pda_nil))), fun S Q E h => ?hb⟩
  case hb =>
    exact ⟨_, rfl, ⟨by decide, by decide, by decide, rfl⟩, i2, (1, 1), 0, rfl, (bdl (by decide) (by decide) (by decide) (by decide)), (fun _ z => absurd z (by decide)), fun _ => ⟨S, Sub.refl _, h⟩⟩

theorem ok_lam_4 {P : Program} {w : World} {K : PySem.W.Frag} {mg : Str → Option Value} {base : Heap} {Z : Zt} (hfn : ∀ i, Z.fn i = fnOf' fnT i) (hM : TxOk P w K mg base Z tx (M22 Z)) {l : LamR} (hl : lmT 4 = some l) : LamOk P w K mg base Z 6 l (sp_lam_4) := by
  cases hl
  refine ⟨⟨rfl, rfl, rfl, by decide +kernel⟩, fun _ _ _ => rfl, _, fun A outer s H E f c' hr => (pd_call hM hr 10 2 (by rfl) (by rfl) (pda_cons (pd_tup (pda_cons pd_int (pda_cons pd_int pda_nil))) (pda_cons pd_int pda_nil))), fun S Q E h => ?hb⟩
  case hb =>
    exact ⟨_, rfl, ⟨by decide, by decide, by decide, rfl⟩, i2, (1, 1), 21, rfl, (bdl (by decide) (by decide) (by decide) (by decide)), (fun _ _ z => absurd z (by decide)), fun _ => ⟨S, Sub.refl _, h⟩⟩

theorem ok_lam_5 {P : Program} {w : World} {K : PySem.W.Frag} {mg : Str → Option Value} {base : Heap} {Z : Zt} (hfn : ∀ i, Z.fn i = fnOf' fnT i) (hM : TxOk P w K mg base Z tx (M23 Z)) {l : LamR} (hl : lmT 5 = some l) : LamOk P w K mg base Z 6 l (sp_lam_5) := by
  cases hl
  refine ⟨⟨rfl, rfl, rfl, by decide +kernel⟩, fun _ _ _ => rfl, _, fun A outer s H E f c' hr => (pd_call hM hr 10 2 (by rfl) (by rfl) (pda_cons (pd_tup (pda_cons (pd_op od_pow pd_int pd_int) (pda_cons pd_int pda_nil))) (pda_cons pd_int pda_nil))), fun S Q E h => ?hb⟩
  case hb =>
    exact ⟨_, rfl, ⟨by decide, by decide, by decide, rfl⟩, ⟨by decide, by decide, by decide⟩, i2, (10 ^ 40, 1), 3, rfl, ⟨Lt.mono (k := 200) (by show (10 ^ 40 : Int).natAbs < 2 ^ 200; decide +kernel) (by decide), by decide, Lt.mono (k := 8) (by show (1 : Int).natAbs < 2 ^ 8; decide) (by decide)⟩, (fun _ _ _ s e => absurd (e.symm.trans (by decide +kernel : stF (10 ^ 40, 1) 3 = none)) (fun z => nomatch z)), fun _ => ⟨S, Sub.refl _, h⟩⟩

theorem ok_lam_6 {P : Program} {w : World} {K : PySem.W.Frag} {mg : Str → Option Value} {base : Heap} {Z : Zt} (hfn : ∀ i, Z.fn i = fnOf' fnT i) (hM : TxOk P w K mg base Z tx (M24 Z)) {l : LamR} (hl : lmT 6 = some l) : LamOk P w K mg base Z 6 l (sp_lam_6) := by
  cases hl
  refine ⟨⟨rfl, rfl, rfl, by decide +kernel⟩, fun _ _ _ => rfl, _, fun A outer s H E f c' hr => (pd_call hM hr 11 2 (by rfl) (by rfl) (pda_cons (pd_lst pda_nil) (pda_cons pd_int pda_nil))), fun S Q E h => ?hb⟩
  case hb =>
    exact ⟨_, rfl, ⟨by decide, by decide, by decide, rfl⟩, by show 0 ≤ sizeLine; decide, fun l hl => ⟨l, [], 3, rfl, put_same, by decide, (fun v z => nomatch z), (fun _ => ⟨S, Sub.new hl, h⟩), (fun x t z => nomatch z)⟩⟩

theorem ok_lam_7 {P : Program} {w : World} {K : PySem.W.Frag} {mg : Str → Option Value} {base : Heap} {Z : Zt} (hfn : ∀ i, Z.fn i = fnOf' fnT i) (hM : TxOk P w K mg base Z tx (M25 Z)) {l : LamR} (hl : lmT 7 = some l) : LamOk P w K mg base Z 6 l (sp_lam_7) := by
  cases hl
  refine ⟨⟨rfl, rfl, rfl, by decide +kernel⟩, fun _ _ _ => rfl, _, fun A outer s H E f c' hr => (pd_call hM hr 12 4 (by rfl) (by rfl) (pda_cons (pd_lst (pda_cons (pd_tup (pda_cons pd_int (pda_cons pd_int pda_nil))) pda_nil)) (pda_cons (pd_tup (pda_cons pd_int (pda_cons pd_int pda_nil))) (pda_cons (pd_tup (pda_cons pd_int (pda_cons pd_int pda_nil))) (pda_cons pd_int pda_nil))))), fun S Q E h => ?hb⟩
  case hb =>
    exact ⟨_, rfl, ⟨by decide, by decide, by decide, rfl⟩, i2, by show 1 ≤ sizeLine; decide, fun l hl => ⟨i2, i2, l, [(1, 1)], (1, 1), (1, 1), 5, rfl, put_same, (fun v hv => by rw [List.mem_singleton.mp hv]; exact (bdl (by decide) (by decide) (by decide) (by decide))), by decide, (bdl (by decide) (by decide) (by decide) (by decide)), (bdl (by decide) (by decide) (by decide) (by decide)), (fun z => absurd z (by decide)), fun _ => ⟨S, Sub.new hl, h⟩⟩⟩

theorem ok_lam_8 {P : Program} {w : World} {K : PySem.W.Frag} {mg : Str → Option Value} {base : Heap} {Z : Zt} (hfn : ∀ i, Z.fn i = fnOf' fnT i) (hM : TxOk P w K mg base Z tx (M26 Z)) {l : LamR} (hl : lmT 8 = some l) : LamOk P w K mg base Z 6 l (sp_lam_8) := by
  cases hl
  refine ⟨⟨rfl, rfl, rfl, by decide +kernel⟩, fun _ _ _ => rfl, _, fun A outer s H E f c' hr => (pd_call hM hr 12 4 (by rfl) (by rfl) (pda_cons (pd_lst (pda_cons (pd_tup (pda_cons pd_int (pda_cons pd_int pda_nil))) pda_nil)) (pda_cons (pd_tup (pda_cons pd_int (pda_cons pd_int pda_nil))) (pda_cons (pd_tup (pda_cons pd_int (pda_cons pd_int pda_nil))) (pda_cons pd_int pda_nil))))), fun S Q E h => ?hb⟩
  case hb =>
    exact ⟨_, rfl, ⟨by decide, by decide, by decide, rfl⟩, i2, by show 1 ≤ sizeLine; decide, fun l hl => ⟨i2, i2, l, [(1, 1)], (0, 1), (1, 1), 0, rfl, put_same, (fun v hv => by rw [List.mem_singleton.mp hv]; exact (bdl (by decide) (by decide) (by decide) (by decide))), by decide, (bdl (by decide) (by decide) (by decide) (by decide)), (bdl (by decide) (by decide) (by decide) (by decide)), (fun _ z => absurd z (by decide)), fun _ => ⟨S, Sub.new hl, h⟩⟩⟩

theorem ok_lam_9 {P : Program} {w : World} {K : PySem.W.Frag} {mg : Str → Option Value} {base : Heap} {Z : Zt} (hfn : ∀ i, Z.fn i = fnOf' fnT i) (hM : TxOk P w K mg base Z tx (M27 Z)) {l : LamR} (hl : lmT 9 = some l) : LamOk P w K mg base Z 6 l (sp_lam_9) := by
  cases hl
  refine ⟨⟨rfl, rfl, rfl, by decide +kernel⟩, fun _ _ _ => rfl, _, fun A outer s H E f c' hr => (pd_call hM hr 12 4 (by rfl) (by rfl) (pda_cons (pd_lst (pda_cons (pd_tup (pda_cons pd_int (pda_cons pd_int pda_nil))) pda_nil)) (pda_cons (pd_tup (pda_cons pd_int (pda_cons pd_int pda_nil))) (pda_cons (pd_tup (pda_cons pd_int (pda_cons pd_int pda_nil))) (pda_cons pd_int pda_nil))))), fun S Q E h => ?hb⟩
  case hb =>
    exact ⟨_, rfl, ⟨by decide, by decide, by decide, rfl⟩, i2, by show 1 ≤ sizeLine; decide, fun l hl => ⟨i2, i2, l, [(1, 1)], (0, 1), (1, 1), 201, rfl, put_same, (fun v hv => by rw [List.mem_singleton.mp hv]; exact (bdl (by decide) (by decide) (by decide) (by decide))), by decide, (bdl (by decide) (by decide) (by decide) (by decide)), (bdl (by decide) (by decide) (by decide) (by decide)), (fun _ _ z => absurd z (by decide)), fun _ => ⟨S, Sub.new hl, h⟩⟩⟩

theorem ok_lam_10 {P : Program} {w : World} {K : PySem.W.Frag} {mg : Str → Option Value} {base : Heap} {Z : Zt} (hfn : ∀ i, Z.fn i = fnOf' fnT i) (hM : TxOk P w K mg base Z tx (M28 Z)) {l : LamR} (hl : lmT 10 = some l) : LamOk P w K mg base Z 6 l (sp_lam_10) := by
  cases hl
  refine ⟨⟨rfl, rfl, rfl, by decide +kernel⟩, fun _ _ _ => rfl, _, fun A outer s H E f c' hr => (pd_call hM hr 13 3 (by rfl) (by rfl) (pda_cons (pd_lst (pda_cons pd_str pda_nil)) (pda_cons (pd_lst pda_nil) (pda_cons pd_int pda_nil)))), fun S Q E h => ?hb⟩
  case hb =>
    exact ⟨_, rfl, ⟨by decide, by decide, by decide, rfl⟩, by show 1 ≤ sizeLine; decide, fun l hl => ⟨by show 0 ≤ sizeLine; decide, fun l2 hl2 => ⟨l, l2, [[97]], [], 5, rfl, keep_put put_same hl2, put_same, .inl ⟨.inl (by decide), S, (Sub.new hl).trans (Sub.new hl2), h⟩⟩⟩⟩

theorem ok_lam_11 {P : Program} {w : World} {K : PySem.W.Frag} {mg : Str → Option Value} {base : Heap} {Z : Zt} (hfn : ∀ i, Z.fn i = fnOf' fnT i) (hM : TxOk P w K mg base Z tx (M29 Z)) {l : LamR} (hl : lmT 11 = some l) : LamOk P w K mg base Z 6 l (sp_lam_11) := by
  cases hl
  refine ⟨⟨rfl, rfl, rfl, by decide +kernel⟩, fun _ _ _ => rfl, _, fun A outer s H E f c' hr => (pd_call hM hr 13 3 (by rfl) (by rfl) (pda_cons (pd_lst (pda_cons pd_str pda_nil)) (pda_cons (pd_lst (pda_cons (pd_tup (pda_cons (pd_neg pd_int) (pda_cons pd_int pda_nil))) pda_nil)) (pda_cons pd_int pda_nil)))), fun S Q E h => ?hb⟩
  case hb =>
    exact ⟨_, rfl, ⟨by decide, by decide, by decide, rfl⟩, by show 1 ≤ sizeLine; decide, fun l hl => ⟨i2, by show 1 ≤ sizeLine; decide, fun l2 hl2 => ⟨l, l2, [[97]], [(-1, 1)], 5, rfl, keep_put put_same hl2, put_same, .inl ⟨.inr (.inr ⟨(-1, 1), by simp, by decide⟩), S, (Sub.new hl).trans (Sub.new hl2), h⟩⟩⟩⟩

theorem ok_lam_12 {P : Program} {w : World} {K : PySem.W.Frag} {mg : Str → Option Value} {base : Heap} {Z : Zt} (hfn : ∀ i, Z.fn i = fnOf' fnT i) (hM : TxOk P w K mg base Z tx (M30 Z)) {l : LamR} (hl : lmT 12 = some l) : LamOk P w K mg base Z 6 l (sp_lam_12) := by
  cases hl
  refine ⟨⟨rfl, rfl, rfl, by decide +kernel⟩, fun _ _ _ => rfl, _, fun A outer s H E f c' hr => (pd_call hM hr 14 2 (by rfl) (by rfl) (pda_cons (pd_lst (pda_cons (pd_tup (pda_cons (pd_neg pd_int) (pda_cons pd_int pda_nil))) (pda_cons (pd_tup (pda_cons pd_int (pda_cons pd_int pda_nil))) pda_nil))) (pda_cons pd_int pda_nil))), fun S Q E h => ?hb⟩
  case hb =>
    exact ⟨_, rfl, ⟨by decide, by decide, by decide, rfl⟩, i2, i2, by show 2 ≤ sizeLine; decide, fun l hl => ⟨l, [(-1, 1), (2, 1)], 5, rfl, put_same, (fun v hv => by simp at hv; rcases hv with rfl | rfl <;> exact (bdl (by decide) (by decide) (by decide) (by decide))), by decide, by show (5 : Int).natAbs < _; decide, .inl ⟨.inl ⟨(-1, 1), by simp, by decide⟩, S, Sub.new hl, h⟩⟩⟩

theorem ok_lam_13 {P : Program} {w : World} {K : PySem.W.Frag} {mg : Str → Option Value} {base : Heap} {Z : Zt} (hfn : ∀ i, Z.fn i = fnOf' fnT i) (hM : TxOk P w K mg base Z tx (M31 Z)) {l : LamR} (hl : lmT 13 = some l) : LamOk P w K mg base Z 6 l (sp_lam_13) := by
  cases hl
  refine ⟨⟨rfl, rfl, rfl, by decide +kernel⟩, fun _ _ _ => rfl, _, fun A outer s H E f c' hr => (pd_call hM hr 14 2 (by rfl) (by rfl) (pda_cons (pd_lst (pda_cons (pd_tup (pda_cons pd_int (pda_cons pd_int pda_nil))) pda_nil)) (pda_cons pd_int pda_nil))), fun S Q E h => ?hb⟩
  case hb =>
    exact ⟨_, rfl, ⟨by decide, by decide, by decide, rfl⟩, i2, by show 1 ≤ sizeLine; decide, fun l hl => ⟨l, [(0, 1)], 5, rfl, put_same, (fun v hv => by simp at hv; rw [hv]; exact (bdl (by decide) (by decide) (by decide) (by decide))), by decide, by show (5 : Int).natAbs < _; decide, .inl ⟨.inr (.inl (by decide)), S, Sub.new hl, h⟩⟩⟩

theorem ok_lam_14 {P : Program} {w : World} {K : PySem.W.Frag} {mg : Str → Option Value} {base : Heap} {Z : Zt} (hfn : ∀ i, Z.fn i = fnOf' fnT i) (hM : TxOk P w K mg base Z tx (M32 Z)) {l : LamR} (hl : lmT 14 = some l) : LamOk P w K mg base Z 6 l (sp_lam_14) := by
  cases hl
  refine ⟨⟨rfl, rfl, rfl, by decide +kernel⟩, fun _ _ _ => rfl, _, fun A outer s H E f c' hr => (pd_call hM hr 14 2 (by rfl) (by rfl) (pda_cons (pd_lst (pda_cons (pd_tup (pda_cons pd_int (pda_cons pd_int pda_nil))) pda_nil)) (pda_cons (pd_neg pd_int) pda_nil))), fun S Q E h => ?hb⟩
  case hb =>
    exact ⟨_, rfl, ⟨by decide, by decide, by decide, rfl⟩, i2, by show 1 ≤ sizeLine; decide, fun l hl => ⟨l, [(1, 1)], -1, rfl, put_same, (fun v hv => by simp at hv; rw [hv]; exact (bdl (by decide) (by decide) (by decide) (by decide))), by decide, by show (-1 : Int).natAbs < _; decide, .inl ⟨.inr (.inr (by decide)), S, Sub.new hl, h⟩⟩⟩

theorem ok__law_told {P : Program} {w : World} {K : PySem.W.Frag} {mg : Str → Option Value} {base : Heap} {Z : Zt} {f : Addr} {fd : FuncData} {cdv : Value} (hfn : ∀ i, Z.fn i = fnOf' fnT i) (hlm : ∀ j, Z.lm j = lmT j) (hM : TxOk P w K mg base Z tx (M33 Z)) (F : FunC K "_law_told" "_law_told" s__law_told f fd cdv .none) : FnD P w K mg base Z 8 f (e__law_told Z) := by
  have nd := sc__law_told.nd
  refine FnD.mk0 (ps := ["what"]) (fn_bodyC F sc__law_told (fun ds S Q E h => ?len) _ (fun A outer s H E hr => (pdss_one (pds_try hM 0 (by rfl) (by rfl) (fun pn xe hp => (pdss_one (pds_ret (pd_act hM hr 0)))) (fun a oe pn => (pdss_one (pds_ret pd_str)))))) (fun ds S Q E h => ?hb)) rfl rfl (F.binds fun _ _ _ _ _ _ us hl => match us, hl with | [_], _ => rfl)
  case len => obtain ⟨_, _, rfl, _⟩ := h; rfl
  case hb =>
    obtain ⟨f, j, rfl, hf, hj, h1⟩ := h
    have go : ∀ (n : Nat) (e : Ent), (M33 Z)[n]? = some e → e.la = some j → e.lv ≤ 6 → e.sp = (fun ds S Q E => E 0 S) → dTry tx 0 (dRet (dAct (M33 Z) Z 6 0)) (dRet (dC (.str "TableError"))) (fin Q E) [some (.ref f)] S := fun n e h2 h3 h4 h5 => by
      refine ⟨f, j, n, e, rfl, hf, h2, h3, h4, ?_⟩
      rw [h5]
      exact ⟨true, rfl, fun _ => ⟨_, Sub.refl _, h1⟩, fun h => nomatch h⟩
    match j, hj, go with
    | 0, _, go => exact go 18 _ rfl rfl (by decide) rfl
    | 1, _, go => exact go 19 _ rfl rfl (by decide) rfl
    | 2, _, go => exact go 20 _ rfl rfl (by decide) rfl
    | 3, _, go => exact go 21 _ rfl rfl (by decide) rfl
    | 4, _, go => exact go 22 _ rfl rfl (by decide) rfl
    | 5, _, go => exact go 23 _ rfl rfl (by decide) rfl
    | 6, _, go => exact go 24 _ rfl rfl (by decide) rfl
    | 7, _, go => exact go 25 _ rfl rfl (by decide) rfl
    | 8, _, go => exact go 26 _ rfl rfl (by decide) rfl
    | 9, _, go => exact go 27 _ rfl rfl (by decide) rfl
    | 10, _, go => exact go 28 _ rfl rfl (by decide) rfl
    | 11, _, go => exact go 29 _ rfl rfl (by decide) rfl
    | 12, _, go => exact go 30 _ rfl rfl (by decide) rfl
    | 13, _, go => exact go 31 _ rfl rfl (by decide) rfl
    | 14, _, go => exact go 32 _ rfl rfl (by decide) rfl
    | n + 15, h, _ => exact absurd h (by omega)

theorem ok__law_exact {P : Program} {w : World} {K : PySem.W.Frag} {mg : Str → Option Value} {base : Heap} {Z : Zt} {f : Addr} {fd : FuncData} {cdv : Value} (hfn : ∀ i, Z.fn i = fnOf' fnT i) (hlm : ∀ j, Z.lm j = lmT j) (hM : TxOk P w K mg base Z tx (M34 Z)) (F : FunC K "_law_exact" "_law_exact" s__law_exact f fd cdv .none) : FnD P w K mg base Z 1 f (e__law_exact) := by
  have nd := sc__law_exact.nd
  refine FnD.mk0 (ps := ["part", "whole"]) (fn_bodyC F sc__law_exact (fun ds S Q E h => ?len) _ (fun A outer s H E hr => (pdss_cons (pds_par2 (i := 2) (j := 3) (by rfl) nd (pda_cons (pd_bi hM cd_abs 7 (by rfl) (by rfl) bt_abs (pda_cons (pd_var 0) pda_nil)) (pda_cons (pd_bi hM cd_abs 7 (by rfl) (by rfl) bt_abs (pda_cons (pd_var 1) pda_nil)) pda_nil)) (by rfl))
    (pdss_cons (pds_while (sts := []) (passes_of rfl) (pdt_cmp (od_ne (hu64 hr)) (pd_var 3) pd_int) (pdss_one (pds_par2 (i := 2) (j := 3) (by rfl) nd (pda_cons (pd_var 3) (pda_cons (pd_op od_mod (pd_var 2) (pd_var 3)) pda_nil)) (by rfl))))
    (pdss_cons (pds_set nd (i := 2) (pd_if (pdt_cmp od_gt (pd_var 1) pd_int) (pd_var 2) (pd_neg (pd_var 2))))
    (pdss_one (pds_ret (pd_tup (pda_cons (pd_op od_div (pd_var 0) (pd_var 2)) (pda_cons (pd_op od_div (pd_var 1) (pd_var 2)) pda_nil))))))))) (fun ds S Q E h => ?hb)) rfl rfl (F.binds fun _ _ _ _ _ _ us hl => match us, hl with | [_, _], _ => rfl)
  case len => obtain ⟨_, _, rfl, _⟩ := h; rfl
  case hb =>
    obtain ⟨p, w, rfl, w0, hp, hw, hg, h1⟩ := h
    have g0 : 0 < Int.gcd p w := Int.gcd_pos_of_ne_zero_right _ w0
    have gs : Int.gcd p w < 2 ^ 8000 := by
      have := Int.gcd_le_natAbs_right (a := p) w0
      exact Nat.lt_of_le_of_lt this hw
    have tail : ∀ s : Int, s = sg p w → DivOk s → ∀ o, t__law_exact_3 Z (fin Q E) [some (.int p), some (.int w), some (.int s), o] S := fun s hs ds o => by
      subst hs
      exact ⟨_, rfl, _, rfl, ds, _, rfl, _, rfl, ds, i2, _, Sub.refl _, h1⟩
    refine ⟨_, rfl, _, rfl, ?_⟩
    refine ⟨fun m r S' => ∃ x y : Nat, y = m ∧ Nat.gcd x y = Int.gcd p w ∧ r = [some (.int p), some (.int w), some (.int x), some (.int y)] ∧ S' = S, ⟨_, p.natAbs, w.natAbs, rfl, rfl, by show [some (D.int p), some (D.int w), some (D.int (if p < 0 then -p else p)), some (D.int (if w < 0 then -w else w))] = _; rw [abs_if, abs_if], rfl⟩, ?_⟩
    rintro m r S' ⟨x, y, rfl, hgc, rfl, rfl⟩
    refine ⟨_, rfl, ?_⟩
    refine itn (fun c1 => ?_) (fun c1 => ?_)
    · have y0 : 0 < y := by omega
      refine ⟨_, rfl, _, rfl, _, rfl, c1, ?_⟩
      refine ⟨_, x % y, Sub.refl _, Nat.mod_lt x y0, y, x % y, rfl, by rw [← hgc, Nat.gcd_comm x y, Nat.gcd_rec y x, Nat.gcd_comm], ?_, rfl⟩
      show [some (D.int p), some (D.int w), some (D.int (y : Int)), some (D.int ((x : Int).fmod (y : Int)))] = _
      rw [Int.fmod_eq_emod_of_nonneg _ (by omega), ← Int.natCast_emod]
    · have y0 : y = 0 := by omega
      subst y0
      rw [Nat.gcd_zero_right] at hgc
      subst hgc
      refine ⟨_, rfl, ?_⟩
      refine itd (fun c3 => ?_) (fun c3 => ?_)
      · exact ⟨_, rfl, tail _ (by unfold sg; rw [if_neg (by omega)]) (div_pos (by omega) (by unfold Sz; omega)) _⟩
      · have := hg (by omega)
        exact ⟨_, rfl, tail _ (by unfold sg; rw [if_pos (by omega)]) ⟨by omega, .inl (by omega)⟩ _⟩

theorem ok__law_steps {P : Program} {w : World} {K : PySem.W.Frag} {mg : Str → Option Value} {base : Heap} {Z : Zt} {f : Addr} {fd : FuncData} {cdv : Value} (hfn : ∀ i, Z.fn i = fnOf' fnT i) (hlm : ∀ j, Z.lm j = lmT j) (hM : TxOk P w K mg base Z tx (M35 Z)) (F : FunC K "_law_steps" "_law_steps" s__law_steps f fd cdv .none) : FnD P w K mg base Z 2 f (e__law_steps) := by
  have nd := sc__law_steps.nd
  refine FnD.mk0 (ps := []) (fn_bodyC F sc__law_steps (fun ds S Q E h => ?len) _ (fun A outer s H E hr => (pdss_cons (pds_set nd (i := 0) (pd_lst pda_nil))
    (pdss_cons (pds_for (passes_of rfl) (by rfl) (pdi_range1 hM 3 (by rfl) (pda_cons pd_int pda_nil)) (pdg_name nd (i := 1)) (pdss_cons (pds_set nd (i := 2) pd_int)
    (pdss_cons (pds_for (passes_of rfl) (by rfl) (pdi_range1 hM 3 (by rfl) (pda_cons (pd_var 1) pda_nil)) (pdg_name nd (i := 3)) (pdss_one (pds_set nd (i := 2) (pd_op od_mul (pd_var 2) pd_int))))
    (pdss_one (pds_set nd (i := 0) (pd_op od_add (pd_var 0) (pd_lc (by rfl) nd (pdi_any (pd_lst (pda_cons pd_int (pda_cons pd_int (pda_cons pd_int pda_nil))))) [("times", 4)] (blkOk_by (by with_unfolding_all rfl)) (by decide) (fun _ _ _ _ _ => (pdg_name nd (i := 4))) (fun _ _ _ _ _ => pdts_nil) (fun _ _ _ _ _ => (pd_call hM hr 34 2 (by rfl) (by rfl) (pda_cons (pd_op od_mul (pd_var 4) (pd_var 2)) (pda_cons (pd_op od_pow pd_int pd_int) pda_nil)))))))))))
    (pdss_one (pds_ret (pd_var 0)))))) (fun ds S Q E h => ?hb)) rfl rfl (F.binds fun _ _ _ _ _ _ us hl => match us, hl with | [], _ => rfl)
  case len => obtain ⟨rfl, _⟩ := h; rfl
  case hb =>
    obtain ⟨rfl, h1⟩ := h
    refine ⟨by show 0 ≤ sizeLine; decide, fun l hl => ?_⟩
    refine ⟨⟨by decide, by decide⟩, fun i r S' => ∃ (l : Addr) (o1 o2 o3 o4 : Option D), S l = none ∧ r = [some (.ref l), o1, o2, o3, o4] ∧ put S l (.lst (((List.range i).flatMap srow).map nD)) = S', ⟨l, _, _, _, _, hl, rfl, rfl⟩, fun _ _ _ _ => trivial, ?_, ?_⟩
    · rintro i d r S' hd ⟨l, o1, o2, o3, o4, hl, rfl, rfl⟩
      obtain ⟨hi, hd⟩ := rngD_get hd
      have hi : i < 61 := hi
      have hd2 : d = .int (i : Int) := by rw [hd]; congr 1 <;> omega
      subst hd2
      clear hd
      refine ⟨_, rfl, ⟨by omega, by omega⟩, fun k r S' => (∃ o3, r = [some (.ref l), some (.int (i : Int)), some (.int (10 ^ k)), o3, o4]) ∧ put S l (.lst (((List.range i).flatMap srow).map nD)) = S', ⟨⟨_, rfl⟩, rfl⟩, fun _ _ _ _ => trivial, ?_, ?_⟩
      · rintro k d r S' hd ⟨⟨o3, rfl⟩, rfl⟩
        refine ⟨_, rfl, mulR (by decide), _, Sub.refl _, ⟨some d, ?_⟩, rfl⟩
        rw [Int.pow_succ]
        rfl
      · rintro r S' ⟨⟨o3, rfl⟩, rfl⟩
        rw [rngD_len, Int.toNat_natCast]
        have bt := ten_lt (i := i) (by omega)
        refine ⟨_, rfl, by show 3 ≤ sizeLine; decide, fun q hq => ?_⟩
        refine ⟨_, put_same, by show 3 ≤ sizeLine; decide, fun j acc S' => acc = ((srow i).take j).map nD ∧ put (put S l (.lst (((List.range i).flatMap srow).map nD))) q (.lst [.int 1, .int 2, .int 5]) = S', ⟨rfl, rfl⟩, ?_, ?_, ?_⟩
        · rintro j acc S' ⟨rfl, rfl⟩
          exact put_same
        · rintro j d acc S' hd ⟨rfl, rfl⟩
          obtain ⟨t, ht, rfl, t0, t1⟩ : ∃ t : Int, ([1, 2, 5] : List Int)[j]? = some t ∧ d = .int t ∧ 0 < t ∧ t < 8 := by
            match j, hd with
            | 0, hd => cases hd; exact ⟨1, rfl, rfl, by decide, by decide⟩
            | 1, hd => cases hd; exact ⟨2, rfl, rfl, by decide, by decide⟩
            | 2, hd => cases hd; exact ⟨5, rfl, rfl, by decide, by decide⟩
          have hs : (srow i)[j]? = some (ex (t * 10 ^ i) (10 ^ 30)) := by
            unfold srow
            rw [List.getElem?_map, ht]
            rfl
          have bt3 : Lt 3 t := by unfold Lt; omega
          refine ⟨_, rfl, ⟨by decide, by decide, by decide, rfl⟩, _, rfl, _, rfl, mul_sz (bt3.sz (by decide)) (bt.sz (by decide)), ⟨by decide, by decide, by decide⟩, t * 10 ^ i, 10 ^ 30, rfl, by decide, (bt3.mul bt).sz (by decide), (ten_lt (i := 30) (by decide)).sz (by decide), fun z => absurd z (by decide), ?_⟩
          exact ⟨_, Sub.refl _, by rw [take_snoc nD hs], rfl⟩
        · rintro acc S' g ⟨rfl, rfl⟩ hg
          have e3 : ((srow i).take 3).map nD = (srow i).map nD := rfl
          refine ⟨_, _, keep_put (keep_put put_same hq) hg, put_same, ?_, fun f hf => ?_⟩
          · show (List.map _ _).length + 3 ≤ _
            rw [List.length_map, flat_len, sizeLine_eq]
            omega
          · have s1 : Sub S (put (put (put S l (.lst (((List.range i).flatMap srow).map nD))) q (.lst [.int 1, .int 2, .int 5])) g (.lst (((srow i).take 3).map nD))) := ((Sub.new hl).trans (Sub.new hq)).trans (Sub.new hg)
            refine ⟨_, Sub.put s1 f _, f, _, _, _, _, sub_none s1 hf, rfl, ?_⟩
            rw [flat_succ]
            rfl
    · rintro r S' ⟨l, o1, o2, o3, o4, hl, rfl, rfl⟩
      exact ⟨_, rfl, _, Sub.refl _, h1 l hl⟩

theorem ok__law_parts {P : Program} {w : World} {K : PySem.W.Frag} {mg : Str → Option Value} {base : Heap} {Z : Zt} {f : Addr} {fd : FuncData} {cdv : Value} (hfn : ∀ i, Z.fn i = fnOf' fnT i) (hlm : ∀ j, Z.lm j = lmT j) (hM : TxOk P w K mg base Z tx (M36 Z)) (F : FunC K "_law_parts" "_law_parts" s__law_parts f fd cdv .none) : FnD P w K mg base Z 6 f (e__law_parts) := by
  have nd := sc__law_parts.nd
  refine FnD.mk0 (ps := ["dice", "rows", "size"]) (fn_bodyC F sc__law_parts (fun ds S Q E h => ?len) _ (fun A outer s H E hr => (pdss_cons (pds_setLc (i := 3) (by rfl) nd (pdi_any (pd_var 1)) [("value", 8)] (blkOk_by (by with_unfolding_all rfl)) (by decide) (fun _ _ _ _ _ => (pdg_name nd (i := 8))) (fun _ _ _ _ _ => pdts_nil) (fun _ _ _ _ _ => (pd_tup (pda_cons (pd_bi hM cd_abs 7 (by rfl) (by rfl) bt_abs (pda_cons (pd_ix (pd_var 8) pd_int) pda_nil)) (pda_cons (pd_ix (pd_var 8) pd_int) pda_nil)))) (by rfl))
    (pdss_cons (pds_par2 (i := 4) (j := 5) (by rfl) nd (pda_cons (pd_lc (by rfl) nd (pdi_any (pd_var 1)) [("value", 8)] (blkOk_by (by with_unfolding_all rfl)) (by decide) (fun _ _ _ _ _ => (pdg_name nd (i := 8))) (fun _ _ _ _ _ => pdts_nil) (fun _ _ _ _ _ => (pd_op od_mul pd_str (pd_call hM hr 16 2 (by rfl) (by rfl) (pda_cons (pd_var 0) (pda_cons pd_int pda_nil)))))) (pda_cons (pd_call hM hr 6 1 (by rfl) (by rfl) (pda_cons (pd_var 3) pda_nil)) pda_nil)) (by rfl))
    (pdss_cons (pds_set nd (i := 6) (pd_lst pda_nil))
    (pdss_cons (pds_for (passes_of rfl) (by rfl) (pdi_zipB hM 10 (by rfl) (pda_cons (pd_var 4) (pda_cons (pd_var 3) pda_nil))) (pdg_tup (n := 2) (by rfl) (pdgs_cons (pdg_name nd (i := 7)) (pdgs_cons (pdg_name nd (i := 8)) pdgs_nil))) (pdss_cons (pds_set nd (i := 18) (pd_if (pdt_cmp od_gt (pd_ix (pd_var 5) pd_int) pd_int) (pd_op od_div (pd_op od_mul (pd_op od_mul (pd_ix (pd_var 8) pd_int) (pd_ix (pd_var 5) pd_int)) (pd_var 2)) (pd_op od_mul (pd_ix (pd_var 8) pd_int) (pd_ix (pd_var 5) pd_int))) pd_int))
    (pdss_one (pds_set nd (i := 6) (pd_op od_add (pd_var 6) (pd_lst (pda_cons (pd_op od_add (pd_op od_add (pd_op od_add (pd_var 7) (pd_op od_mul pd_str (pd_op od_sub (pd_bi hM (cd_max (by rfl)) 6 (by rfl) (by rfl) bt_max (pda_cons (pd_lc (by rfl) nd (pdi_any (pd_var 4)) [("one", 20)] (blkOk_by (by with_unfolding_all rfl)) (by decide) (fun _ _ _ _ _ => (pdg_name nd (i := 20))) (fun _ _ _ _ _ => pdts_nil) (fun _ _ _ _ _ => (pd_bi hM cd_len 0 (by rfl) (by rfl) bt_len (pda_cons (pd_var 20) pda_nil)))) pda_nil)) (pd_bi hM cd_len 0 (by rfl) (by rfl) bt_len (pda_cons (pd_var 7) pda_nil))))) pd_str) (pd_op od_mul pd_str (pd_var 18))) pda_nil)))))))
    (pdss_cons (pds_if (pdt_cmp (od_ne (hu64 hr)) (pd_ty hM cd_list 4 (by rfl) (by rfl) bt_list (pda_cons (pd_call hM hr 13 3 (by rfl) (by rfl) (pda_cons (pd_var 4) (pda_cons (pd_var 3) (pda_cons (pd_var 2) pda_nil)))) pda_nil)) (pd_var 6)) (pdss_one (pds_ret pd_bl)) pdss_nil)
    (pdss_cons (pds_asg (pd_tup (pda_cons (pd_tup (pda_cons pd_int (pda_cons pd_int pda_nil))) (pda_cons (pd_call hM hr 16 2 (by rfl) (by rfl) (pda_cons (pd_var 0) (pda_cons pd_int pda_nil))) pda_nil))) (pdg_tup (n := 2) (by rfl) (pdgs_cons (pdg_name nd (i := 9)) (pdgs_cons (pdg_name nd (i := 10)) pdgs_nil))))
    (pdss_cons (pds_for (passes_of rfl) (by rfl) (pdi_any (pd_var 3)) (pdg_name nd (i := 8)) (pdss_one (pds_set nd (i := 9) (pd_call hM hr 34 2 (by rfl) (by rfl) (pda_cons (pd_op od_add (pd_op od_mul (pd_ix (pd_var 9) pd_int) (pd_ix (pd_var 8) pd_int)) (pd_op od_mul (pd_ix (pd_var 8) pd_int) (pd_ix (pd_var 9) pd_int))) (pda_cons (pd_op od_mul (pd_ix (pd_var 9) pd_int) (pd_ix (pd_var 8) pd_int)) pda_nil))))))
    (pdss_cons (pds_if (pdt_cmp (od_eq (hu64 hr)) (pd_ix (pd_var 9) pd_int) pd_int) (pdss_one (pds_ret pd_bl)) pdss_nil)
    (pdss_cons (pds_setLc (i := 11) (by rfl) nd (pdi_any (pd_var 3)) [("value", 8)] (blkOk_by (by with_unfolding_all rfl)) (by decide) (fun _ _ _ _ _ => (pdg_name nd (i := 8))) (fun _ _ _ _ _ => pdts_nil) (fun _ _ _ _ _ => (pd_call hM hr 34 2 (by rfl) (by rfl) (pda_cons (pd_op od_mul (pd_op od_mul (pd_ix (pd_var 8) pd_int) (pd_var 10)) (pd_ix (pd_var 9) pd_int)) (pda_cons (pd_op od_mul (pd_ix (pd_var 8) pd_int) (pd_ix (pd_var 9) pd_int)) pda_nil)))) (by rfl))
    (pdss_cons (pds_asg (pd_tup (pda_cons (pd_lc (by rfl) nd (pdi_any (pd_var 11)) [("part", 15)] (blkOk_by (by with_unfolding_all rfl)) (by decide) (fun _ _ _ _ _ => (pdg_name nd (i := 15))) (fun _ _ _ _ _ => pdts_nil) (fun _ _ _ _ _ => (pd_op od_div (pd_ix (pd_var 15) pd_int) (pd_ix (pd_var 15) pd_int)))) (pda_cons (pd_lst pda_nil) pda_nil))) (pdg_tup (n := 2) (by rfl) (pdgs_cons (pdg_name nd (i := 12)) (pdgs_cons (pdg_name nd (i := 13)) pdgs_nil))))
    (pdss_cons (pds_for (passes_of rfl) (by rfl) (pdi_enumB hM 9 (by rfl) (pda_cons (pd_var 11) pda_nil)) (pdg_tup (n := 2) (by rfl) (pdgs_cons (pdg_name nd (i := 14)) (pdgs_cons (pdg_name nd (i := 15)) pdgs_nil))) (pdss_one (pds_set nd (i := 13) (pd_op od_add (pd_var 13) (pd_lst (pda_cons (pd_tup (pda_cons (pd_var 14) (pda_cons (pd_call hM hr 34 2 (by rfl) (by rfl) (pda_cons (pd_op od_sub (pd_ix (pd_var 15) pd_int) (pd_op od_mul (pd_ix (pd_var 12) (pd_var 14)) (pd_ix (pd_var 15) pd_int))) (pda_cons (pd_ix (pd_var 15) pd_int) pda_nil))) pda_nil))) pda_nil))))))
    (pdss_cons (pds_set nd (i := 16) (pd_lst pda_nil))
    (pdss_cons (pds_while (sts := []) (passes_of rfl) (pdt_cmp (od_ne (hu64 hr)) (pd_var 13) (pd_lst pda_nil)) (pdss_cons (pds_set nd (i := 19) (pd_ix (pd_var 13) pd_int))
    (pdss_cons (pds_for (passes_of rfl) (by rfl) (pdi_any (pd_var 13)) (pdg_name nd (i := 20)) (pdss_one (pds_set nd (i := 19) (pd_if (pdt_cmp od_lt (pd_op od_mul (pd_ix (pd_ix (pd_var 19) pd_int) pd_int) (pd_ix (pd_ix (pd_var 20) pd_int) pd_int)) (pd_op od_mul (pd_ix (pd_ix (pd_var 20) pd_int) pd_int) (pd_ix (pd_ix (pd_var 19) pd_int) pd_int))) (pd_var 20) (pd_var 19)))))
    (pdss_one (pds_asg (pd_tup (pda_cons (pd_op od_add (pd_var 16) (pd_lst (pda_cons (pd_ix (pd_var 19) pd_int) pda_nil))) (pda_cons (pd_lc (by rfl) nd (pdi_any (pd_var 13)) [("one", 20)] (blkOk_by (by with_unfolding_all rfl)) (by decide) (fun _ _ _ _ _ => (pdg_name nd (i := 20))) (fun _ _ _ _ _ => (pdts_one (pdt_cmp (od_ne (hu64 hr)) (pd_ix (pd_var 20) pd_int) (pd_ix (pd_var 19) pd_int)))) (fun _ _ _ _ _ => (pd_var 20))) pda_nil))) (pdg_tup (n := 2) (by rfl) (pdgs_cons (pdg_name nd (i := 16)) (pdgs_cons (pdg_name nd (i := 13)) pdgs_nil))))))))
    (pdss_cons (pds_setLc (i := 17) (by rfl) nd (pdi_range1 hM 3 (by rfl) (pda_cons (pd_bi hM cd_len 0 (by rfl) (by rfl) bt_len (pda_cons (pd_var 11) pda_nil)) pda_nil)) [("k", 14)] (blkOk_by (by with_unfolding_all rfl)) (by decide) (fun _ _ _ _ _ => (pdg_name nd (i := 14))) (fun _ _ _ _ _ => pdts_nil) (fun _ _ _ _ _ => (pd_op od_add (pd_ix (pd_var 12) (pd_var 14)) (pd_ty hM cd_int 2 (by rfl) (by rfl) bt_int (pda_cons (pd_cmp od_in (pd_var 14) (pd_slice (pd_var 16) pdo_none (pdo_some (pd_op od_sub (pd_var 10) (pd_bi hM (cd_sum (by rfl)) 11 (by rfl) (by rfl) bt_sum (pda_cons (pd_var 12) pda_nil)))))) pda_nil)))) (by rfl))
    (pdss_cons (pds_if (PDW.pt (pdw_or (pdt_cmp (od_ne (hu64 hr)) (pd_ty hM cd_list 4 (by rfl) (by rfl) bt_list (pda_cons (pd_call hM hr 14 2 (by rfl) (by rfl) (pda_cons (pd_var 3) (pda_cons (pd_var 10) pda_nil))) pda_nil)) (pd_var 17)) (pdw_or1 (pdt_cmp (od_ne (hu64 hr)) (pd_bi hM (cd_sum (by rfl)) 11 (by rfl) (by rfl) bt_sum (pda_cons (pd_var 17) pda_nil)) (pd_var 10))))) (pdss_one (pds_ret pd_bl)) pdss_nil)
    (pdss_one (pds_ret pd_bl)))))))))))))))))) (fun ds S Q E h => ?hb)) rfl rfl (F.binds fun _ _ _ _ _ _ us hl => match us, hl with | [_, _, _], _ => rfl)
  case len => obtain ⟨_, _, _, _, _, _, _, rfl, _⟩ := h; rfl
  case hb =>
    exact parts_read ds S Q E h

theorem ok_law {P : Program} {w : World} {K : PySem.W.Frag} {mg : Str → Option Value} {base : Heap} {Z : Zt} {f : Addr} {fd : FuncData} {cdv : Value} (hfn : ∀ i, Z.fn i = fnOf' fnT i) (hlm : ∀ j, Z.lm j = lmT j) (hM : TxOk P w K mg base Z tx (M37 Z)) (F : FunC K "law" "law" s_law f fd cdv .none) {cA PA : Addr} (hcd : cdv = .ref cA) (hTB : LamX.TabB base mg cA PA) (hTm : (PA, ("law.<locals>.<lambda>" : Str)) ∈ Z.TL) (hTu : ∀ p ∈ Z.TL, p.1 = PA → p.2 = "law.<locals>.<lambda>") : FnOk P w K mg base (L2.CX P w) 9 f fd ["script"] (liftSp K Z sp_law) := by
  have nd := sc_law.nd
  have T : ∀ (A : Around) (outer : List Env) (s : Shared) (H : Hp) (E : XK), TabL (cxOf (L2.CX P w) P w K mg base ["script", "steps", "dice", "bad", "rows", "most", "low", "high", "value", "span", "step", "marks", "first", "last", "size", "good", "due", "near", "k", "one", "f", "place"] "law" (defScope s_law) f cdv A outer s H E) Z cA PA "law.<locals>.<lambda>" := fun A outer s H E => ⟨hTB, hcd, hTm, hTu⟩
  refine fn_bodyC F sc_law (fun ds S Q E h => ?len) _ (fun A outer s H E hr => (pdss_cons (pds_set nd (i := 1) (pd_call0 hM hr 35 (by rfl) (by rfl)))
    (pdss_cons (pds_for (passes_of rfl) (by rfl) (pdi_any (pd_call hM hr 17 2 (by rfl) (by rfl) (pda_cons (pd_var 0) (pda_cons pd_int pda_nil)))) (pdg_name nd (i := 2)) (pdss_cons (pds_set nd (i := 4) (pd_lc (by rfl) nd (pdi_range1 hM 3 (by rfl) (pda_cons (pd_op od_add pd_int (pd_call hM hr 16 2 (by rfl) (by rfl) (pda_cons (pd_var 2) (pda_cons pd_int pda_nil)))) pda_nil)) [("k", 18)] (blkOk_by (by with_unfolding_all rfl)) (by decide) (fun _ _ _ _ _ => (pdg_name nd (i := 18))) (fun _ _ _ _ _ => pdts_nil) (fun _ _ _ _ _ => (pd_call hM hr 34 2 (by rfl) (by rfl) (pda_cons (pd_op od_sub (pd_call hM hr 16 2 (by rfl) (by rfl) (pda_cons (pd_var 2) (pda_cons (pd_ix (pd_lst (pda_cons pd_int (pda_cons pd_int (pda_cons (pd_op od_pow pd_int pd_int) pda_nil)))) (pd_call hM hr 16 2 (by rfl) (by rfl) (pda_cons (pd_var 2) (pda_cons pd_int pda_nil)))) pda_nil))) (pd_call hM hr 16 2 (by rfl) (by rfl) (pda_cons (pd_var 2) (pda_cons pd_int pda_nil)))) (pda_cons (pd_ix (pd_lst (pda_cons pd_int (pda_cons pd_int (pda_cons pd_int (pda_cons pd_int (pda_cons pd_int pda_nil)))))) (pd_call hM hr 16 2 (by rfl) (by rfl) (pda_cons (pd_var 2) (pda_cons pd_int pda_nil)))) pda_nil))))))
    (pdss_cons (pds_set nd (i := 5) (pd_op od_add pd_int (pd_call hM hr 16 2 (by rfl) (by rfl) (pda_cons (pd_var 2) (pda_cons pd_int pda_nil)))))
    (pdss_cons (pds_asg (pd_tup (pda_cons (pd_ix (pd_var 4) pd_int) (pda_cons (pd_ix (pd_var 4) pd_int) pda_nil))) (pdg_tup (n := 2) (by rfl) (pdgs_cons (pdg_name nd (i := 6)) (pdgs_cons (pdg_name nd (i := 7)) pdgs_nil))))
    (pdss_cons (pds_for (passes_of rfl) (by rfl) (pdi_any (pd_var 4)) (pdg_name nd (i := 8)) (pdss_cons (pds_set nd (i := 6) (pd_if (pdt_cmp od_lt (pd_op od_mul (pd_ix (pd_var 8) pd_int) (pd_ix (pd_var 6) pd_int)) (pd_op od_mul (pd_ix (pd_var 6) pd_int) (pd_ix (pd_var 8) pd_int))) (pd_var 8) (pd_var 6)))
    (pdss_one (pds_set nd (i := 7) (pd_if (pdt_cmp od_lt (pd_op od_mul (pd_ix (pd_var 7) pd_int) (pd_ix (pd_var 8) pd_int)) (pd_op od_mul (pd_ix (pd_var 8) pd_int) (pd_ix (pd_var 7) pd_int))) (pd_var 8) (pd_var 7))))))
    (pdss_cons (pds_if (PDW.pt (pdw_or (pdt_cmp (od_ne (hu64 hr)) (pd_call hM hr 6 1 (by rfl) (by rfl) (pda_cons (pd_var 4) pda_nil)) (pd_var 7)) (pdw_or (pdt_cmp (od_ne (hu64 hr)) (pd_call hM hr 7 1 (by rfl) (by rfl) (pda_cons (pd_var 4) pda_nil)) (pd_var 6)) (pdw_or (pdt_cmp (od_ne (hu64 hr)) (pd_call hM hr 5 2 (by rfl) (by rfl) (pda_cons (pd_var 6) (pda_cons (pd_var 7) pda_nil))) (pd_cmp (od_ne (hu64 hr)) (pd_var 6) (pd_var 7))) (pdw_or (pdt_cmp (od_ne (hu64 hr)) (pd_call hM hr 3 2 (by rfl) (by rfl) (pda_cons (pd_var 6) (pda_cons (pd_var 7) pda_nil))) (pd_call hM hr 34 2 (by rfl) (by rfl) (pda_cons (pd_op od_add (pd_op od_mul (pd_ix (pd_var 6) pd_int) (pd_ix (pd_var 7) pd_int)) (pd_op od_mul (pd_ix (pd_var 7) pd_int) (pd_ix (pd_var 6) pd_int))) (pda_cons (pd_op od_mul (pd_ix (pd_var 6) pd_int) (pd_ix (pd_var 7) pd_int)) pda_nil)))) (pdw_or1 (pdt_cmp (od_ne (hu64 hr)) (pd_call hM hr 4 2 (by rfl) (by rfl) (pda_cons (pd_var 6) (pda_cons (pd_var 7) pda_nil))) (pd_call hM hr 34 2 (by rfl) (by rfl) (pda_cons (pd_op od_sub (pd_op od_mul (pd_ix (pd_var 6) pd_int) (pd_ix (pd_var 7) pd_int)) (pd_op od_mul (pd_ix (pd_var 7) pd_int) (pd_ix (pd_var 6) pd_int))) (pda_cons (pd_op od_mul (pd_ix (pd_var 6) pd_int) (pd_ix (pd_var 7) pd_int)) pda_nil)))))))))) (pdss_one (pds_ret pd_bl)) pdss_nil)
    (pdss_cons (pds_set nd (i := 9) (pd_call hM hr 34 2 (by rfl) (by rfl) (pda_cons (pd_op od_sub (pd_op od_mul (pd_ix (pd_var 7) pd_int) (pd_ix (pd_var 6) pd_int)) (pd_op od_mul (pd_ix (pd_var 6) pd_int) (pd_ix (pd_var 7) pd_int))) (pda_cons (pd_op od_mul (pd_ix (pd_var 7) pd_int) (pd_ix (pd_var 6) pd_int)) pda_nil))))
    (pdss_cons (pds_set nd (i := 10) (pd_tup (pda_cons pd_int (pda_cons pd_int pda_nil))))
    (pdss_cons (pds_if (pdt_cmp od_gt (pd_ix (pd_var 9) pd_int) pd_int) (pdss_cons (pds_setLc (i := 15) (by rfl) nd (pdi_any (pd_var 1)) [("one", 19)] (blkOk_by (by with_unfolding_all rfl)) (by decide) (fun _ _ _ _ _ => (pdg_name nd (i := 19))) (fun _ _ _ _ _ => (pdts_one (pdt_cmp od_ge (pd_op od_mul (pd_op od_mul (pd_ix (pd_var 19) pd_int) (pd_var 5)) (pd_ix (pd_var 9) pd_int)) (pd_op od_mul (pd_ix (pd_var 9) pd_int) (pd_ix (pd_var 19) pd_int))))) (fun _ _ _ _ _ => (pd_var 19)) (by rfl))
    (pdss_cons (pds_set nd (i := 10) (pd_ix (pd_var 15) pd_int))
    (pdss_one (pds_if (PDW.pt (pdw_or (pdt_cmp (od_ne (hu64 hr)) (pd_call hM hr 10 2 (by rfl) (by rfl) (pda_cons (pd_var 9) (pda_cons (pd_var 5) pda_nil))) (pd_var 10)) (pdw_or1 (pdt_not (pdt_tru (pd_call hM hr 8 3 (by rfl) (by rfl) (pda_cons (pd_var 10) (pda_cons (pd_var 9) (pda_cons (pd_var 5) pda_nil))))))))) (pdss_one (pds_ret pd_bl)) pdss_nil)))) pdss_nil)
    (pdss_cons (pds_set nd (i := 11) (pd_call hM hr 11 2 (by rfl) (by rfl) (pda_cons (pd_var 4) (pda_cons (pd_var 5) pda_nil))))
    (pdss_cons (pds_set nd (i := 12) (pd_op od_div (pd_op od_mul (pd_ix (pd_var 6) pd_int) (pd_ix (pd_var 10) pd_int)) (pd_op od_mul (pd_ix (pd_var 6) pd_int) (pd_ix (pd_var 10) pd_int))))
    (pdss_cons (pds_set nd (i := 13) (pd_neg (pd_op od_div (pd_op od_mul (pd_neg (pd_ix (pd_var 7) pd_int)) (pd_ix (pd_var 10) pd_int)) (pd_op od_mul (pd_ix (pd_var 7) pd_int) (pd_ix (pd_var 10) pd_int)))))
    (pdss_cons (pds_if (PDW.pt (pdw_or (pdt_cmp (od_ne (hu64 hr)) (pd_ty hM cd_list 4 (by rfl) (by rfl) bt_list (pda_cons (pd_var 11) pda_nil)) (pd_lc (by rfl) nd (pdi_range2 hM 3 (by rfl) (pda_cons (pd_var 12) (pda_cons (pd_op od_add (pd_var 13) pd_int) pda_nil))) [("place", 21)] (blkOk_by (by with_unfolding_all rfl)) (by decide) (fun _ _ _ _ _ => (pdg_name nd (i := 21))) (fun _ _ _ _ _ => pdts_nil) (fun _ _ _ _ _ => (pd_call hM hr 34 2 (by rfl) (by rfl) (pda_cons (pd_op od_mul (pd_ix (pd_var 10) pd_int) (pd_var 21)) (pda_cons (pd_ix (pd_var 10) pd_int) pda_nil)))))) (pdw_or1 (pdt_cmp od_gt (pd_bi hM cd_len 0 (by rfl) (by rfl) bt_len (pda_cons (pd_var 11) pda_nil)) (pd_op od_add (pd_var 5) pd_int))))) (pdss_one (pds_ret pd_bl)) pdss_nil)
    (pdss_cons (pds_set nd (i := 14) (pd_op od_add pd_int (pd_call hM hr 16 2 (by rfl) (by rfl) (pda_cons (pd_var 2) (pda_cons pd_int pda_nil)))))
    (pdss_cons (pds_if (pdt_cmp (od_ne (hu64 hr)) (pd_var 6) (pd_var 7)) (pdss_cons (pds_setLc (i := 16) (by rfl) nd (pdi_any (pd_var 4)) [("value", 8)] (blkOk_by (by with_unfolding_all rfl)) (by decide) (fun _ _ _ _ _ => (pdg_name nd (i := 8))) (fun _ _ _ _ _ => pdts_nil) (fun _ _ _ _ _ => (pd_op od_div (pd_op od_mul (pd_op od_mul (pd_op od_sub (pd_op od_mul (pd_ix (pd_var 8) pd_int) (pd_ix (pd_var 6) pd_int)) (pd_op od_mul (pd_ix (pd_var 6) pd_int) (pd_ix (pd_var 8) pd_int))) (pd_ix (pd_var 9) pd_int)) (pd_var 14)) (pd_op od_mul (pd_op od_mul (pd_ix (pd_var 8) pd_int) (pd_ix (pd_var 6) pd_int)) (pd_ix (pd_var 9) pd_int)))) (by rfl))
    (pdss_cons (pds_if (PDW.pt (pdw_or (pdt_cmp (od_ne (hu64 hr)) (pd_ty hM cd_list 4 (by rfl) (by rfl) bt_list (pda_cons (pd_call hM hr 12 4 (by rfl) (by rfl) (pda_cons (pd_var 4) (pda_cons (pd_var 6) (pda_cons (pd_var 7) (pda_cons (pd_var 14) pda_nil))))) pda_nil)) (pd_var 16)) (pdw_or1 (pdt_cmp (od_ne (hu64 hr)) (pd_lc (by rfl) nd (pdi_any (pd_var 16)) [("one", 19)] (blkOk_by (by with_unfolding_all rfl)) (by decide) (fun _ _ _ _ _ => (pdg_name nd (i := 19))) (fun _ _ _ _ _ => (pdts_one (pdt_not (pdt_chain pd_int (pdcht_c od_le (pd_var 19) (pdcht_1 od_le (pd_var 14))))))) (fun _ _ _ _ _ => (pd_var 19))) (pd_lst pda_nil))))) (pdss_one (pds_ret pd_bl)) pdss_nil)
    (pdss_cons (pds_set nd (i := 17) (pd_call hM hr 34 2 (by rfl) (by rfl) (pda_cons (pd_op od_add (pd_ix (pd_var 6) pd_int) (pd_ix (pd_var 6) pd_int)) (pda_cons (pd_ix (pd_var 6) pd_int) pda_nil))))
    (pdss_one (pds_if (pdt_cmp (od_ne (hu64 hr)) (pd_lc (by rfl) nd (pdi_enumB hM 9 (by rfl) (pda_cons (pd_call hM hr 12 4 (by rfl) (by rfl) (pda_cons (pd_var 4) (pda_cons (pd_var 17) (pda_cons (pd_call hM hr 3 2 (by rfl) (by rfl) (pda_cons (pd_var 17) (pda_cons (pd_tup (pda_cons pd_int (pda_cons pd_int pda_nil))) pda_nil))) (pda_cons (pd_var 14) pda_nil))))) pda_nil)) [("k", 18), ("one", 19)] (blkOk_by (by with_unfolding_all rfl)) (by decide) (fun _ _ _ _ _ => (pdg_tup (n := 2) (by rfl) (pdgs_cons (pdg_name nd (i := 18)) (pdgs_cons (pdg_name nd (i := 19)) pdgs_nil)))) (fun _ _ _ _ _ => (pdts_one (pdt_cmp (od_ne (hu64 hr)) (pd_var 19) (pd_bi hM (cd_max (by rfl)) 6 (by rfl) (by rfl) bt_max (pda_cons pd_int (pda_cons (pd_bi hM (cd_min (by rfl)) 5 (by rfl) (by rfl) bt_min (pda_cons (pd_var 14) (pda_cons (pd_op od_div (pd_op od_mul (pd_op od_sub (pd_op od_mul (pd_ix (pd_ix (pd_var 4) (pd_var 18)) pd_int) (pd_ix (pd_var 17) pd_int)) (pd_op od_mul (pd_ix (pd_var 17) pd_int) (pd_ix (pd_ix (pd_var 4) (pd_var 18)) pd_int))) (pd_var 14)) (pd_op od_mul (pd_op od_mul (pd_ix (pd_ix (pd_var 4) (pd_var 18)) pd_int) (pd_ix (pd_var 17) pd_int)) pd_int)) pda_nil))) pda_nil)))))) (fun _ _ _ _ _ => (pd_var 18))) (pd_lst pda_nil)) (pdss_one (pds_ret pd_bl)) pdss_nil))))) pdss_nil)
    (pdss_one (pds_if (pdt_not (pdt_tru (pd_call hM hr 36 3 (by rfl) (by rfl) (pda_cons (pd_var 2) (pda_cons (pd_var 4) (pda_cons (pd_var 14) pda_nil)))))) (pdss_one (pds_ret pd_bl)) pdss_nil)))))))))))))))))
    (pdss_cons (pds_set nd (i := 3) (pd_lst (pda_cons (pd_lam 0 ((hlm 0).trans rfl) (T A outer s H E) (by rfl) (by rfl) (by rfl) (by rfl) ⟨rfl, rfl, rfl, by decide +kernel⟩) (pda_cons (pd_lam 1 ((hlm 1).trans rfl) (T A outer s H E) (by rfl) (by rfl) (by rfl) (by rfl) ⟨rfl, rfl, rfl, by decide +kernel⟩) (pda_cons (pd_lam 2 ((hlm 2).trans rfl) (T A outer s H E) (by rfl) (by rfl) (by rfl) (by rfl) ⟨rfl, rfl, rfl, by decide +kernel⟩) (pda_cons (pd_lam 3 ((hlm 3).trans rfl) (T A outer s H E) (by rfl) (by rfl) (by rfl) (by rfl) ⟨rfl, rfl, rfl, by decide +kernel⟩) (pda_cons (pd_lam 4 ((hlm 4).trans rfl) (T A outer s H E) (by rfl) (by rfl) (by rfl) (by rfl) ⟨rfl, rfl, rfl, by decide +kernel⟩) (pda_cons (pd_lam 5 ((hlm 5).trans rfl) (T A outer s H E) (by rfl) (by rfl) (by rfl) (by rfl) ⟨rfl, rfl, rfl, by decide +kernel⟩) (pda_cons (pd_lam 6 ((hlm 6).trans rfl) (T A outer s H E) (by rfl) (by rfl) (by rfl) (by rfl) ⟨rfl, rfl, rfl, by decide +kernel⟩) (pda_cons (pd_lam 7 ((hlm 7).trans rfl) (T A outer s H E) (by rfl) (by rfl) (by rfl) (by rfl) ⟨rfl, rfl, rfl, by decide +kernel⟩) (pda_cons (pd_lam 8 ((hlm 8).trans rfl) (T A outer s H E) (by rfl) (by rfl) (by rfl) (by rfl) ⟨rfl, rfl, rfl, by decide +kernel⟩) (pda_cons (pd_lam 9 ((hlm 9).trans rfl) (T A outer s H E) (by rfl) (by rfl) (by rfl) (by rfl) ⟨rfl, rfl, rfl, by decide +kernel⟩) (pda_cons (pd_lam 10 ((hlm 10).trans rfl) (T A outer s H E) (by rfl) (by rfl) (by rfl) (by rfl) ⟨rfl, rfl, rfl, by decide +kernel⟩) (pda_cons (pd_lam 11 ((hlm 11).trans rfl) (T A outer s H E) (by rfl) (by rfl) (by rfl) (by rfl) ⟨rfl, rfl, rfl, by decide +kernel⟩) (pda_cons (pd_lam 12 ((hlm 12).trans rfl) (T A outer s H E) (by rfl) (by rfl) (by rfl) (by rfl) ⟨rfl, rfl, rfl, by decide +kernel⟩) (pda_cons (pd_lam 13 ((hlm 13).trans rfl) (T A outer s H E) (by rfl) (by rfl) (by rfl) (by rfl) ⟨rfl, rfl, rfl, by decide +kernel⟩) (pda_cons (pd_lam 14 ((hlm 14).trans rfl) (T A outer s H E) (by rfl) (by rfl) (by rfl) (by rfl) ⟨rfl, rfl, rfl, by decide +kernel⟩) pda_nil)))))))))))))))))
    (pdss_one (pds_ret (pd_and (pd_cmp (od_eq (hu64 hr)) (pd_lc (by rfl) nd (pdi_any (pd_var 3)) [("f", 20)] (blkOk_by (by with_unfolding_all rfl)) (by decide) (fun _ _ _ _ _ => (pdg_name nd (i := 20))) (fun _ _ _ _ _ => (pdts_one (pdt_cmp (od_ne (hu64 hr)) (pd_call hM hr 33 1 (by rfl) (by rfl) (pda_cons (pd_var 20) pda_nil)) pd_str))) (fun _ _ _ _ _ => pd_int)) (pd_lst pda_nil)) (pd_and (pd_cmp (od_eq (hu64 hr)) (pd_tup (pda_cons (pd_glob hM 0 (by rfl) (by rfl)) (pda_cons (pd_glob hM 1 (by rfl) (by rfl)) pda_nil))) (pd_tup (pda_cons pd_int (pda_cons pd_int pda_nil)))) (pd_and (pd_cmp (od_eq (hu64 hr)) (pd_lst (pda_cons (pd_call hM hr 9 1 (by rfl) (by rfl) (pda_cons pd_int pda_nil)) (pda_cons (pd_call hM hr 9 1 (by rfl) (by rfl) (pda_cons (pd_neg pd_int) pda_nil)) (pda_cons (pd_call hM hr 2 2 (by rfl) (by rfl) (pda_cons pd_int (pda_cons pd_int pda_nil))) (pda_cons (pd_call hM hr 2 2 (by rfl) (by rfl) (pda_cons pd_int (pda_cons (pd_neg pd_int) pda_nil))) pda_nil))))) (pd_lst (pda_cons (pd_tup (pda_cons pd_int (pda_cons pd_int pda_nil))) (pda_cons (pd_tup (pda_cons pd_int (pda_cons pd_int pda_nil))) (pda_cons (pd_tup (pda_cons pd_int (pda_cons pd_int pda_nil))) (pda_cons (pd_tup (pda_cons (pd_neg pd_int) (pda_cons pd_int pda_nil))) pda_nil)))))) (pd_one (pd_cmp (od_eq (hu64 hr)) (pd_call hM hr 14 2 (by rfl) (by rfl) (pda_cons (pd_lst (pda_cons (pd_tup (pda_cons pd_int (pda_cons pd_int pda_nil))) (pda_cons (pd_tup (pda_cons pd_int (pda_cons pd_int pda_nil))) (pda_cons (pd_tup (pda_cons pd_int (pda_cons pd_int pda_nil))) pda_nil)))) (pda_cons pd_int pda_nil))) (pd_tup (pda_cons pd_int (pda_cons pd_int (pda_cons pd_int pda_nil))))))))))))))) (fun ds S Q E h => ?hb)
  case len => obtain ⟨_, _, rfl, _⟩ := h; rfl
  case hb =>
    exact law_read ds S Q E h
end K09

set_option Elab.async false
set_option linter.all false
set_option maxRecDepth 100000
set_option maxHeartbeats 4000000
namespace K09
open PySem PySem.Spec PyProof.Rows L2 G
theorem all_mk {l : PySem.W.OpenLaw} {w : World} {K : PySem.W.Frag} {h : Heap} {mg mb : Str → Option Value} {mean : ExcName → Option Value} {q : Program} {loose : List Str} {fa : Addr} (X : K.In h) (T : Top q loose mean mg mb h) (hfa : mg "law" = some (.ref fa))
    (hrec : ∀ x ∈ (["bars", "shares", "law"] : List Str), ((recsOf q).any fun e => e.name == x) = true)
    {f0 f1 f2 f3 f4 f5 f6 f7 f8 f9 f10 f11 f12 f13 f14 f15 f16 f17 f18 f19 f20 f21 f22 X0 cA13 PA13 cA14 PA14 cA22 PA22 : Addr}
    {od0 an0 od1 an1 od2 an2 od3 an3 od4 an4 od5 an5 od6 an6 od7 an7 od8 an8 od9 an9 od10 an10 od11 an11 od12 an12 od13 an13 od14 an14 od15 an15 od16 an16 od17 an17 od18 an18 od19 an19 od20 an20 od21 an21 od22 an22 dt13 dt14 dt22 : Option Addr}
    {sl0 sl1 sl2 sl3 sl4 sl5 sl6 sl7 sl8 sl9 sl10 sl11 sl12 sl13 sl14 sl15 sl16 sl17 sl18 sl19 sl20 sl21 sl22 st13 st14 st22 : Array (Option Value)}
    {oc0 kV0 dc0 pm0 cd0 ct0 oc1 kV1 dc1 pm1 cd1 ct1 oc2 kV2 dc2 pm2 cd2 ct2 oc3 kV3 dc3 pm3 cd3 ct3 oc4 kV4 dc4 pm4 cd4 ct4 oc5 kV5 dc5 pm5 cd5 ct5 oc6 kV6 dc6 pm6 cd6 ct6 oc7 kV7 dc7 pm7 cd7 ct7 oc8 kV8 dc8 pm8 cd8 ct8 oc9 kV9 dc9 pm9 cd9 ct9 oc10 kV10 dc10 pm10 cd10 ct10 oc11 kV11 dc11 pm11 cd11 ct11 oc12 kV12 dc12 pm12 cd12 ct12 oc13 kV13 dc13 pm13  ct13 oc14 kV14 dc14 pm14  ct14 oc15 kV15 dc15 pm15 cd15 ct15 oc16 kV16 dc16 pm16 cd16 ct16 oc17 kV17 dc17 pm17 cd17 ct17 oc18 kV18 dc18 pm18 cd18 ct18 oc19 kV19 dc19 pm19 cd19 ct19 oc20 kV20 dc20 pm20 cd20 ct20 oc21 kV21 dc21 pm21 cd21 ct21 oc22 kV22 dc22 pm22  ct22 et13 et14 et22 : Value}
    {vt13 vt14 vt22 : Array Value}
    {tk0 tk1 : Tok}
    (a0 : PySem.W.nsIn K mainGlobals "ten_to" = some (some (.ref f0)))
    (l0 : K.lookup f0 = some ⟨oc0, od0, .func (PySem.W.fnOf "ten_to" "ten_to" (defArgs s_ten_to) (defBody s_ten_to) (defScope s_ten_to) .none kV0 dc0 pm0 an0 cd0 ct0), sl0⟩)
    (c0 : PySem.W.codeIn K cd0 "ten_to" = true)
    (k0 : PySem.W.keepIn K (.ref f0) = true)
    (a1 : PySem.W.nsIn K mainGlobals "greatest_part" = some (some (.ref f1)))
    (l1 : K.lookup f1 = some ⟨oc1, od1, .func (PySem.W.fnOf "greatest_part" "greatest_part" (defArgs s_greatest_part) (defBody s_greatest_part) (defScope s_greatest_part) .none kV1 dc1 pm1 an1 cd1 ct1), sl1⟩)
    (c1 : PySem.W.codeIn K cd1 "greatest_part" = true)
    (k1 : PySem.W.keepIn K (.ref f1) = true)
    (a2 : PySem.W.nsIn K mainGlobals "exact" = some (some (.ref f2)))
    (l2 : K.lookup f2 = some ⟨oc2, od2, .func (PySem.W.fnOf "exact" "exact" (defArgs s_exact) (defBody s_exact) (defScope s_exact) .none kV2 dc2 pm2 an2 cd2 ct2), sl2⟩)
    (c2 : PySem.W.codeIn K cd2 "exact" = true)
    (k2 : PySem.W.keepIn K (.ref f2) = true)
    (a3 : PySem.W.nsIn K mainGlobals "plus" = some (some (.ref f3)))
    (l3 : K.lookup f3 = some ⟨oc3, od3, .func (PySem.W.fnOf "plus" "plus" (defArgs s_plus) (defBody s_plus) (defScope s_plus) .none kV3 dc3 pm3 an3 cd3 ct3), sl3⟩)
    (c3 : PySem.W.codeIn K cd3 "plus" = true)
    (k3 : PySem.W.keepIn K (.ref f3) = true)
    (a4 : PySem.W.nsIn K mainGlobals "minus" = some (some (.ref f4)))
    (l4 : K.lookup f4 = some ⟨oc4, od4, .func (PySem.W.fnOf "minus" "minus" (defArgs s_minus) (defBody s_minus) (defScope s_minus) .none kV4 dc4 pm4 an4 cd4 ct4), sl4⟩)
    (c4 : PySem.W.codeIn K cd4 "minus" = true)
    (k4 : PySem.W.keepIn K (.ref f4) = true)
    (a5 : PySem.W.nsIn K mainGlobals "less" = some (some (.ref f5)))
    (l5 : K.lookup f5 = some ⟨oc5, od5, .func (PySem.W.fnOf "less" "less" (defArgs s_less) (defBody s_less) (defScope s_less) .none kV5 dc5 pm5 an5 cd5 ct5), sl5⟩)
    (c5 : PySem.W.codeIn K cd5 "less" = true)
    (k5 : PySem.W.keepIn K (.ref f5) = true)
    (a6 : PySem.W.nsIn K mainGlobals "largest" = some (some (.ref f6)))
    (l6 : K.lookup f6 = some ⟨oc6, od6, .func (PySem.W.fnOf "largest" "largest" (defArgs s_largest) (defBody s_largest) (defScope s_largest) .none kV6 dc6 pm6 an6 cd6 ct6), sl6⟩)
    (c6 : PySem.W.codeIn K cd6 "largest" = true)
    (k6 : PySem.W.keepIn K (.ref f6) = true)
    (a7 : PySem.W.nsIn K mainGlobals "smallest" = some (some (.ref f7)))
    (l7 : K.lookup f7 = some ⟨oc7, od7, .func (PySem.W.fnOf "smallest" "smallest" (defArgs s_smallest) (defBody s_smallest) (defScope s_smallest) .none kV7 dc7 pm7 an7 cd7 ct7), sl7⟩)
    (c7 : PySem.W.codeIn K cd7 "smallest" = true)
    (k7 : PySem.W.keepIn K (.ref f7) = true)
    (a8 : PySem.W.nsIn K mainGlobals "covers" = some (some (.ref f8)))
    (l8 : K.lookup f8 = some ⟨oc8, od8, .func (PySem.W.fnOf "covers" "covers" (defArgs s_covers) (defBody s_covers) (defScope s_covers) .none kV8 dc8 pm8 an8 cd8 ct8), sl8⟩)
    (c8 : PySem.W.codeIn K cd8 "covers" = true)
    (k8 : PySem.W.keepIn K (.ref f8) = true)
    (a9 : PySem.W.nsIn K mainGlobals "power_of" = some (some (.ref f9)))
    (l9 : K.lookup f9 = some ⟨oc9, od9, .func (PySem.W.fnOf "power_of" "power_of" (defArgs s_power_of) (defBody s_power_of) (defScope s_power_of) .none kV9 dc9 pm9 an9 cd9 ct9), sl9⟩)
    (c9 : PySem.W.codeIn K cd9 "power_of" = true)
    (k9 : PySem.W.keepIn K (.ref f9) = true)
    (a10 : PySem.W.nsIn K mainGlobals "step_for" = some (some (.ref f10)))
    (l10 : K.lookup f10 = some ⟨oc10, od10, .func (PySem.W.fnOf "step_for" "step_for" (defArgs s_step_for) (defBody s_step_for) (defScope s_step_for) .none kV10 dc10 pm10 an10 cd10 ct10), sl10⟩)
    (c10 : PySem.W.codeIn K cd10 "step_for" = true)
    (k10 : PySem.W.keepIn K (.ref f10) = true)
    (a11 : PySem.W.nsIn K mainGlobals "axis" = some (some (.ref f11)))
    (l11 : K.lookup f11 = some ⟨oc11, od11, .func (PySem.W.fnOf "axis" "axis" (defArgs s_axis) (defBody s_axis) (defScope s_axis) .none kV11 dc11 pm11 an11 cd11 ct11), sl11⟩)
    (c11 : PySem.W.codeIn K cd11 "axis" = true)
    (k11 : PySem.W.keepIn K (.ref f11) = true)
    (a12 : PySem.W.nsIn K mainGlobals "heights" = some (some (.ref f12)))
    (l12 : K.lookup f12 = some ⟨oc12, od12, .func (PySem.W.fnOf "heights" "heights" (defArgs s_heights) (defBody s_heights) (defScope s_heights) .none kV12 dc12 pm12 an12 cd12 ct12), sl12⟩)
    (c12 : PySem.W.codeIn K cd12 "heights" = true)
    (k12 : PySem.W.keepIn K (.ref f12) = true)
    (a13 : PySem.W.nsIn K mainGlobals "bars" = some (some (.ref f13)))
    (l13 : K.lookup f13 = some ⟨oc13, od13, .func (PySem.W.fnOf "bars" "bars" (defArgs s_bars) (defBody s_bars) (defScope s_bars) .none kV13 dc13 pm13 an13 (.ref cA13) ct13), sl13⟩)
    (c13 : PySem.W.codeIn K (.ref cA13) "bars" = true)
    (k13 : PySem.W.keepIn K (.ref f13) = true)
    (t13 : K.lookup cA13 = some ⟨et13, dt13, .fields vt13, st13⟩)
    (p13 : vt13[11]? = some (.ref PA13))
    (n13 : K.lookup PA13 = none)
    (a14 : PySem.W.nsIn K mainGlobals "shares" = some (some (.ref f14)))
    (l14 : K.lookup f14 = some ⟨oc14, od14, .func (PySem.W.fnOf "shares" "shares" (defArgs s_shares) (defBody s_shares) (defScope s_shares) .none kV14 dc14 pm14 an14 (.ref cA14) ct14), sl14⟩)
    (c14 : PySem.W.codeIn K (.ref cA14) "shares" = true)
    (k14 : PySem.W.keepIn K (.ref f14) = true)
    (t14 : K.lookup cA14 = some ⟨et14, dt14, .fields vt14, st14⟩)
    (p14 : vt14[11]? = some (.ref PA14))
    (n14 : K.lookup PA14 = none)
    (a15 : PySem.W.nsIn K mainGlobals "_law_dice" = some (some (.ref f15)))
    (l15 : K.lookup f15 = some ⟨oc15, od15, .func (PySem.W.fnOf "_law_dice" "_law_dice" (defArgs s__law_dice) (defBody s__law_dice) (defScope s__law_dice) .none kV15 dc15 pm15 an15 cd15 ct15), sl15⟩)
    (c15 : PySem.W.codeIn K cd15 "_law_dice" = true)
    (k15 : PySem.W.keepIn K (.ref f15) = true)
    (a16 : PySem.W.nsIn K mainGlobals "_law_roll" = some (some (.ref f16)))
    (l16 : K.lookup f16 = some ⟨oc16, od16, .func (PySem.W.fnOf "_law_roll" "_law_roll" (defArgs s__law_roll) (defBody s__law_roll) (defScope s__law_roll) .none kV16 dc16 pm16 an16 cd16 ct16), sl16⟩)
    (c16 : PySem.W.codeIn K cd16 "_law_roll" = true)
    (k16 : PySem.W.keepIn K (.ref f16) = true)
    (a17 : PySem.W.nsIn K mainGlobals "_law_rounds" = some (some (.ref f17)))
    (l17 : K.lookup f17 = some ⟨oc17, od17, .func (PySem.W.fnOf "_law_rounds" "_law_rounds" (defArgs s__law_rounds) (defBody s__law_rounds) (defScope s__law_rounds) .none kV17 dc17 pm17 an17 cd17 ct17), sl17⟩)
    (c17 : PySem.W.codeIn K cd17 "_law_rounds" = true)
    (k17 : PySem.W.keepIn K (.ref f17) = true)
    (a18 : PySem.W.nsIn K mainGlobals "_law_told" = some (some (.ref f18)))
    (l18 : K.lookup f18 = some ⟨oc18, od18, .func (PySem.W.fnOf "_law_told" "_law_told" (defArgs s__law_told) (defBody s__law_told) (defScope s__law_told) .none kV18 dc18 pm18 an18 cd18 ct18), sl18⟩)
    (c18 : PySem.W.codeIn K cd18 "_law_told" = true)
    (k18 : PySem.W.keepIn K (.ref f18) = true)
    (a19 : PySem.W.nsIn K mainGlobals "_law_exact" = some (some (.ref f19)))
    (l19 : K.lookup f19 = some ⟨oc19, od19, .func (PySem.W.fnOf "_law_exact" "_law_exact" (defArgs s__law_exact) (defBody s__law_exact) (defScope s__law_exact) .none kV19 dc19 pm19 an19 cd19 ct19), sl19⟩)
    (c19 : PySem.W.codeIn K cd19 "_law_exact" = true)
    (k19 : PySem.W.keepIn K (.ref f19) = true)
    (a20 : PySem.W.nsIn K mainGlobals "_law_steps" = some (some (.ref f20)))
    (l20 : K.lookup f20 = some ⟨oc20, od20, .func (PySem.W.fnOf "_law_steps" "_law_steps" (defArgs s__law_steps) (defBody s__law_steps) (defScope s__law_steps) .none kV20 dc20 pm20 an20 cd20 ct20), sl20⟩)
    (c20 : PySem.W.codeIn K cd20 "_law_steps" = true)
    (k20 : PySem.W.keepIn K (.ref f20) = true)
    (a21 : PySem.W.nsIn K mainGlobals "_law_parts" = some (some (.ref f21)))
    (l21 : K.lookup f21 = some ⟨oc21, od21, .func (PySem.W.fnOf "_law_parts" "_law_parts" (defArgs s__law_parts) (defBody s__law_parts) (defScope s__law_parts) .none kV21 dc21 pm21 an21 cd21 ct21), sl21⟩)
    (c21 : PySem.W.codeIn K cd21 "_law_parts" = true)
    (k21 : PySem.W.keepIn K (.ref f21) = true)
    (a22 : PySem.W.nsIn K mainGlobals "law" = some (some (.ref f22)))
    (l22 : K.lookup f22 = some ⟨oc22, od22, .func (PySem.W.fnOf "law" "law" (defArgs s_law) (defBody s_law) (defScope s_law) .none kV22 dc22 pm22 an22 (.ref cA22) ct22), sl22⟩)
    (c22 : PySem.W.codeIn K (.ref cA22) "law" = true)
    (k22 : PySem.W.keepIn K (.ref f22) = true)
    (t22 : K.lookup cA22 = some ⟨et22, dt22, .fields vt22, st22⟩)
    (p22 : vt22[11]? = some (.ref PA22))
    (n22 : K.lookup PA22 = none)
    (v0 : PySem.W.nsIn K mainGlobals "MOST_STEPS" = some (some (.int 20 tk0)))
    (v1 : PySem.W.nsIn K mainGlobals "MOST_SIZE" = some (some (.int 200 tk1)))
    (z0 : PySem.W.nsIn K mainGlobals "len" = some none)
    (z1 : PySem.W.nsIn K mainGlobals "any" = some none)
    (z2 : PySem.W.nsIn K mainGlobals "int" = some none)
    (z3 : PySem.W.nsIn K mainGlobals "range" = some none)
    (z4 : PySem.W.nsIn K mainGlobals "list" = some none)
    (z5 : PySem.W.nsIn K mainGlobals "min" = some none)
    (z6 : PySem.W.nsIn K mainGlobals "max" = some none)
    (z7 : PySem.W.nsIn K mainGlobals "abs" = some none)
    (z8 : PySem.W.nsIn K mainGlobals "tuple" = some none)
    (z9 : PySem.W.nsIn K mainGlobals "enumerate" = some none)
    (z10 : PySem.W.nsIn K mainGlobals "zip" = some none)
    (z11 : PySem.W.nsIn K mainGlobals "sum" = some none)
    (x0 : PySem.W.nsIn K mainGlobals "TableError" = some (some (.ref X0)))
    (xe0 : PySem.W.excIn K X0 [.type "ValueError", .type "Exception", .type "BaseException", .type "object"] "ValueError.__new__" = true)
    (xk0 : PySem.W.keepIn K (.ref X0) = true)
    (xb0 : PySem.W.subIn K (.ref X0) (.type "BaseException") = some true)
    (xt0 : PySem.W.typeIn K (.ref X0) = some (.type "type"))
    (xc0 : PySem.W.isClsIn K X0 = true)
    (xs0_0 : PySem.W.subIn K (.ref X0) (.ref X0) = some true)
    (ne13_22 : PA22 ≠ PA13)
    (ne14_22 : PA22 ≠ PA14)
    : LamX.LawAtS l w K (L2.CX l.prog w) 9 63 "script" mg fa h := by
  have GN := T.g
  have e := hfa.symm.trans (PySem.W.mg_of X GN a22)
  have e2 : f22 = fa := (Value.ref.inj (Option.some.inj e)).symm
  subst e2
  let Z : Zt := { T := [PA13, PA14], TL := [(PA22, "law.<locals>.<lambda>")], lm := lmT, cm := fun c => match c with  | _ => 0, fn := fnOf' fnT, ex := fun i => match i with | 0 => .ref X0 | _ => .none, inj := fnOf'_inj (by decide +kernel) (by decide +kernel) }
  let fad : Nat → Addr := fun i => match i with | 0 => f0 | 1 => f1 | 2 => f2 | 3 => f3 | 4 => f4 | 5 => f5 | 6 => f6 | 7 => f7 | 8 => f8 | 9 => f9 | 10 => f10 | 11 => f11 | 12 => f12 | 13 => f13 | 14 => f14 | 15 => f15 | 16 => f16 | 17 => f17 | 33 => f18 | 34 => f19 | 35 => f20 | 36 => f21 | 37 => f22 | _ => 0
  have hfn : ∀ i, Z.fn i = fnOf' fnT i := fun _ => rfl
  have hlm : ∀ j, Z.lm j = lmT j := fun _ => rfl
  have tb13 := tab_ofTop T X (hrec "bars" (by simp)) (PySem.W.mg_of X GN a13) l13 rfl t13 p13
  have tb14 := tab_ofTop T X (hrec "shares" (by simp)) (PySem.W.mg_of X GN a14) l14 rfl t14 p14
  have tb22 := tab_ofTop T X (hrec "law" (by simp)) (PySem.W.mg_of X GN a22) l22 rfl t22 p22
  have F0 := fun_mkC (st := s_ten_to) l0 c0
  have F1 := fun_mkC (st := s_greatest_part) l1 c1
  have F2 := fun_mkC (st := s_exact) l2 c2
  have F3 := fun_mkC (st := s_plus) l3 c3
  have F4 := fun_mkC (st := s_minus) l4 c4
  have F5 := fun_mkC (st := s_less) l5 c5
  have F6 := fun_mkC (st := s_largest) l6 c6
  have F7 := fun_mkC (st := s_smallest) l7 c7
  have F8 := fun_mkC (st := s_covers) l8 c8
  have F9 := fun_mkC (st := s_power_of) l9 c9
  have F10 := fun_mkC (st := s_step_for) l10 c10
  have F11 := fun_mkC (st := s_axis) l11 c11
  have F12 := fun_mkC (st := s_heights) l12 c12
  have F13 := fun_mkC (st := s_bars) l13 c13
  have F14 := fun_mkC (st := s_shares) l14 c14
  have F15 := fun_mkC (st := s__law_dice) l15 c15
  have F16 := fun_mkC (st := s__law_roll) l16 c16
  have F17 := fun_mkC (st := s__law_rounds) l17 c17
  have F18 := fun_mkC (st := s__law_told) l18 c18
  have F19 := fun_mkC (st := s__law_exact) l19 c19
  have F20 := fun_mkC (st := s__law_steps) l20 c20
  have F21 := fun_mkC (st := s__law_parts) l21 c21
  have F22 := fun_mkC (st := s_law) l22 c22
  have TS : TxS K mg Z tx fad := by
    refine ⟨fun i x h => ?fn, fun c m i h => ?mt, fun c x i hx h => ?it, fun c i h => ?fl, fun i x d h => ?va, fun i x h => ?bl, fun i x h => ?xn, fun i j b h => ?sb⟩
    case fn =>
      match i, h with
      | 0, h => cases h; exact ⟨PySem.W.mg_of X GN a0, k0⟩
      | 1, h => cases h; exact ⟨PySem.W.mg_of X GN a1, k1⟩
      | 2, h => cases h; exact ⟨PySem.W.mg_of X GN a2, k2⟩
      | 3, h => cases h; exact ⟨PySem.W.mg_of X GN a3, k3⟩
      | 4, h => cases h; exact ⟨PySem.W.mg_of X GN a4, k4⟩
      | 5, h => cases h; exact ⟨PySem.W.mg_of X GN a5, k5⟩
      | 6, h => cases h; exact ⟨PySem.W.mg_of X GN a6, k6⟩
      | 7, h => cases h; exact ⟨PySem.W.mg_of X GN a7, k7⟩
      | 8, h => cases h; exact ⟨PySem.W.mg_of X GN a8, k8⟩
      | 9, h => cases h; exact ⟨PySem.W.mg_of X GN a9, k9⟩
      | 10, h => cases h; exact ⟨PySem.W.mg_of X GN a10, k10⟩
      | 11, h => cases h; exact ⟨PySem.W.mg_of X GN a11, k11⟩
      | 12, h => cases h; exact ⟨PySem.W.mg_of X GN a12, k12⟩
      | 13, h => cases h; exact ⟨PySem.W.mg_of X GN a13, k13⟩
      | 14, h => cases h; exact ⟨PySem.W.mg_of X GN a14, k14⟩
      | 15, h => cases h; exact ⟨PySem.W.mg_of X GN a15, k15⟩
      | 16, h => cases h; exact ⟨PySem.W.mg_of X GN a16, k16⟩
      | 17, h => cases h; exact ⟨PySem.W.mg_of X GN a17, k17⟩
      | 33, h => cases h; exact ⟨PySem.W.mg_of X GN a18, k18⟩
      | 34, h => cases h; exact ⟨PySem.W.mg_of X GN a19, k19⟩
      | 35, h => cases h; exact ⟨PySem.W.mg_of X GN a20, k20⟩
      | 36, h => cases h; exact ⟨PySem.W.mg_of X GN a21, k21⟩
      | 37, h => cases h; exact ⟨PySem.W.mg_of X GN a22, k22⟩
      | 18, h => exact nomatch (show (none : Option Str) = some x from h)
      | 19, h => exact nomatch (show (none : Option Str) = some x from h)
      | 20, h => exact nomatch (show (none : Option Str) = some x from h)
      | 21, h => exact nomatch (show (none : Option Str) = some x from h)
      | 22, h => exact nomatch (show (none : Option Str) = some x from h)
      | 23, h => exact nomatch (show (none : Option Str) = some x from h)
      | 24, h => exact nomatch (show (none : Option Str) = some x from h)
      | 25, h => exact nomatch (show (none : Option Str) = some x from h)
      | 26, h => exact nomatch (show (none : Option Str) = some x from h)
      | 27, h => exact nomatch (show (none : Option Str) = some x from h)
      | 28, h => exact nomatch (show (none : Option Str) = some x from h)
      | 29, h => exact nomatch (show (none : Option Str) = some x from h)
      | 30, h => exact nomatch (show (none : Option Str) = some x from h)
      | 31, h => exact nomatch (show (none : Option Str) = some x from h)
      | 32, h => exact nomatch (show (none : Option Str) = some x from h)
      | n + 38, h => exact nomatch (show (none : Option Str) = some x from h)
    case mt =>
      exact nomatch (show (none : Option Nat) = some i from h)
    case it =>
      exact nomatch (show (none : Option Nat) = some i from h)
    case fl =>
      exact nomatch (show false = true from h)
    case va =>
      match i, h with
      | 0, h => cases h; exact ⟨_, .int 20, PySem.W.mg_of X GN v0, ⟨_, rfl⟩, fun _ => dv_int.mpr rfl⟩
      | 1, h => cases h; exact ⟨_, .int 200, PySem.W.mg_of X GN v1, ⟨_, rfl⟩, fun _ => dv_int.mpr rfl⟩
      | n + 2, h => exact nomatch (show (none : Option (Str × D)) = some (x, d) from h)
    case bl =>
      match i, h with
      | 0, h => cases h; exact PySem.W.mg_none_of X GN z0
      | 1, h => cases h; exact PySem.W.mg_none_of X GN z1
      | 2, h => cases h; exact PySem.W.mg_none_of X GN z2
      | 3, h => cases h; exact PySem.W.mg_none_of X GN z3
      | 4, h => cases h; exact PySem.W.mg_none_of X GN z4
      | 5, h => cases h; exact PySem.W.mg_none_of X GN z5
      | 6, h => cases h; exact PySem.W.mg_none_of X GN z6
      | 7, h => cases h; exact PySem.W.mg_none_of X GN z7
      | 8, h => cases h; exact PySem.W.mg_none_of X GN z8
      | 9, h => cases h; exact PySem.W.mg_none_of X GN z9
      | 10, h => cases h; exact PySem.W.mg_none_of X GN z10
      | 11, h => cases h; exact PySem.W.mg_none_of X GN z11
      | n + 12, h => exact nomatch (show (none : Option Str) = some x from h)
    case xn =>
      match i, h with
      | 0, h => cases h; exact ⟨X0, _, _, _, _, rfl, PySem.W.mg_of X GN x0, PySem.F.excBase_ValueError, xe0, xk0, xb0, xt0⟩
      | n + 1, h => exact nomatch (show (none : Option Str) = some x from h)
    case sb =>
      have key : ∀ i j b, tx.sb i j = some b → (i = 0 ∧ j = 0 ∧ b = true) := by
        intro i j b h
        unfold tx at h
        simp only at h
        split at h <;> simp_all
      rcases key i j b h with ⟨rfl, rfl, rfl⟩
      · exact exm_of xb0 xc0 xt0 xs0_0
  refine ⟨PySem.W.fnOf "law" "law" (defArgs s_law) (defBody s_law) (defScope s_law) .none kV22 dc22 pm22 an22 (.ref cA22) ct22, [(cA13, PA13), (cA14, PA14), (cA22, PA22)], liftSp K Z sp_law, ?c1, ?c2, ?c3, fun s u => .of_eq rfl, ?c4, fun base KB GB hTB => ?c5⟩
  case c1 =>
    intro p hp
    simp only [List.mem_cons, List.mem_nil_iff, or_false] at hp
    rcases hp with rfl | rfl | rfl
    · exact tb13.2
    · exact tb14.2
    · exact tb22.2
  case c2 =>
    intro p hp
    simp only [List.mem_cons, List.mem_nil_iff, or_false] at hp
    rcases hp with rfl | rfl | rfl
    · exact n13
    · exact n14
    · exact n22
  case c3 =>
    intro p hp
    simp only [List.mem_cons, List.mem_nil_iff, or_false] at hp
    rcases hp with rfl | rfl | rfl
    · exact tb13.1
    · exact tb14.1
    · exact tb22.1
  case c4 =>
    intro H a ns _ _ hH hS
    refine start_sp (fun P hP => ?_) (fun p hp => ?_) hS fun S x Q E hx hQ => ⟨ns, x, rfl, hx, hQ⟩
    · have hP : P ∈ ([PA13, PA14] : List Addr) := hP
      simp only [List.mem_cons, List.mem_nil_iff, or_false] at hP
      rcases hP with eP | eP
      · rw [eP]; exact hH (cA13, PA13) (by simp)
      · rw [eP]; exact hH (cA14, PA14) (by simp)
    · have hp : p ∈ ([(PA22, "law.<locals>.<lambda>")] : List (Addr × Str)) := hp
      simp only [List.mem_cons, List.mem_nil_iff, or_false] at hp
      rcases hp with rfl
      · exact hH (cA22, PA22) (by simp)
  case c5 =>
    have B13 := hTB (cA13, PA13) (by simp)
    have B14 := hTB (cA14, PA14) (by simp)
    have B22 := hTB (cA22, PA22) (by simp)
    have D0 : Done l.prog w K mg base Z fad [] := Done.nil
    have M0' := TS.ok D0
    have D1 : Done l.prog w K mg base Z fad (M1 Z) := D0.snoc (M := M0 Z) (Good.ofFn rfl (ok_ten_to (f := f0) hfn hlm M0' F0))
    have M1' := TS.ok D1
    have D2 : Done l.prog w K mg base Z fad (M2 Z) := D1.snoc (M := M1 Z) (Good.ofFn rfl (ok_greatest_part (f := f1) hfn hlm M1' F1))
    have M2' := TS.ok D2
    have D3 : Done l.prog w K mg base Z fad (M3 Z) := D2.snoc (M := M2 Z) (Good.ofFn rfl (ok_exact (f := f2) hfn hlm M2' F2))
    have M3' := TS.ok D3
    have D4 : Done l.prog w K mg base Z fad (M4 Z) := D3.snoc (M := M3 Z) (Good.ofFn rfl (ok_plus (f := f3) hfn hlm M3' F3))
    have M4' := TS.ok D4
    have D5 : Done l.prog w K mg base Z fad (M5 Z) := D4.snoc (M := M4 Z) (Good.ofFn rfl (ok_minus (f := f4) hfn hlm M4' F4))
    have M5' := TS.ok D5
    have D6 : Done l.prog w K mg base Z fad (M6 Z) := D5.snoc (M := M5 Z) (Good.ofFn rfl (ok_less (f := f5) hfn hlm M5' F5))
    have M6' := TS.ok D6
    have D7 : Done l.prog w K mg base Z fad (M7 Z) := D6.snoc (M := M6 Z) (Good.ofFn rfl (ok_largest (f := f6) hfn hlm M6' F6))
    have M7' := TS.ok D7
    have D8 : Done l.prog w K mg base Z fad (M8 Z) := D7.snoc (M := M7 Z) (Good.ofFn rfl (ok_smallest (f := f7) hfn hlm M7' F7))
    have M8' := TS.ok D8
    have D9 : Done l.prog w K mg base Z fad (M9 Z) := D8.snoc (M := M8 Z) (Good.ofFn rfl (ok_covers (f := f8) hfn hlm M8' F8))
    have M9' := TS.ok D9
    have D10 : Done l.prog w K mg base Z fad (M10 Z) := D9.snoc (M := M9 Z) (Good.ofFn rfl (ok_power_of (f := f9) hfn hlm M9' F9))
    have M10' := TS.ok D10
    have D11 : Done l.prog w K mg base Z fad (M11 Z) := D10.snoc (M := M10 Z) (Good.ofFn rfl (ok_step_for (f := f10) hfn hlm M10' F10))
    have M11' := TS.ok D11
    have D12 : Done l.prog w K mg base Z fad (M12 Z) := D11.snoc (M := M11 Z) (Good.ofFn rfl (ok_axis (f := f11) hfn hlm M11' F11))
    have M12' := TS.ok D12
    have D13 : Done l.prog w K mg base Z fad (M13 Z) := D12.snoc (M := M12 Z) (Good.ofFn rfl (ok_heights (f := f12) hfn hlm M12' F12))
    have M13' := TS.ok D13
    have D14 : Done l.prog w K mg base Z fad (M14 Z) := D13.snoc (M := M13 Z) (Good.ofFn rfl (ok_bars (f := f13) hfn hlm M13' F13 rfl ⟨B13.code, B13.bm, B13.gP⟩ (by simp [Z]) (fun p hp => by simp [Z] at hp; rw [hp]; exact ne13_22)))
    have M14' := TS.ok D14
    have D15 : Done l.prog w K mg base Z fad (M15 Z) := D14.snoc (M := M14 Z) (Good.ofFn rfl (ok_shares (f := f14) hfn hlm M14' F14 rfl ⟨B14.code, B14.bm, B14.gP⟩ (by simp [Z]) (fun p hp => by simp [Z] at hp; rw [hp]; exact ne14_22)))
    have M15' := TS.ok D15
    have D16 : Done l.prog w K mg base Z fad (M16 Z) := D15.snoc (M := M15 Z) (Good.ofFn rfl (ok__law_dice (f := f15) hfn hlm M15' F15))
    have M16' := TS.ok D16
    have D17 : Done l.prog w K mg base Z fad (M17 Z) := D16.snoc (M := M16 Z) (Good.ofFn rfl (ok__law_roll (f := f16) hfn hlm M16' F16))
    have M17' := TS.ok D17
    have D18 : Done l.prog w K mg base Z fad (M18 Z) := D17.snoc (M := M17 Z) (Good.ofFn rfl (ok__law_rounds (f := f17) hfn hlm M17' F17))
    have M18' := TS.ok D18
    have D19 : Done l.prog w K mg base Z fad (M19 Z) := D18.snoc (M := M18 Z) (Good.ofLam (j := 0) rfl rfl (ok_lam_0 hfn M18' rfl))
    have M19' := TS.ok D19
    have D20 : Done l.prog w K mg base Z fad (M20 Z) := D19.snoc (M := M19 Z) (Good.ofLam (j := 1) rfl rfl (ok_lam_1 hfn M19' rfl))
    have M20' := TS.ok D20
    have D21 : Done l.prog w K mg base Z fad (M21 Z) := D20.snoc (M := M20 Z) (Good.ofLam (j := 2) rfl rfl (ok_lam_2 hfn M20' rfl))
    have M21' := TS.ok D21
    have D22 : Done l.prog w K mg base Z fad (M22 Z) := D21.snoc (M := M21 Z) (Good.ofLam (j := 3) rfl rfl (ok_lam_3 hfn M21' rfl))
    have M22' := TS.ok D22
    have D23 : Done l.prog w K mg base Z fad (M23 Z) := D22.snoc (M := M22 Z) (Good.ofLam (j := 4) rfl rfl (ok_lam_4 hfn M22' rfl))
    have M23' := TS.ok D23
    have D24 : Done l.prog w K mg base Z fad (M24 Z) := D23.snoc (M := M23 Z) (Good.ofLam (j := 5) rfl rfl (ok_lam_5 hfn M23' rfl))
    have M24' := TS.ok D24
    have D25 : Done l.prog w K mg base Z fad (M25 Z) := D24.snoc (M := M24 Z) (Good.ofLam (j := 6) rfl rfl (ok_lam_6 hfn M24' rfl))
    have M25' := TS.ok D25
    have D26 : Done l.prog w K mg base Z fad (M26 Z) := D25.snoc (M := M25 Z) (Good.ofLam (j := 7) rfl rfl (ok_lam_7 hfn M25' rfl))
    have M26' := TS.ok D26
    have D27 : Done l.prog w K mg base Z fad (M27 Z) := D26.snoc (M := M26 Z) (Good.ofLam (j := 8) rfl rfl (ok_lam_8 hfn M26' rfl))
    have M27' := TS.ok D27
    have D28 : Done l.prog w K mg base Z fad (M28 Z) := D27.snoc (M := M27 Z) (Good.ofLam (j := 9) rfl rfl (ok_lam_9 hfn M27' rfl))
    have M28' := TS.ok D28
    have D29 : Done l.prog w K mg base Z fad (M29 Z) := D28.snoc (M := M28 Z) (Good.ofLam (j := 10) rfl rfl (ok_lam_10 hfn M28' rfl))
    have M29' := TS.ok D29
    have D30 : Done l.prog w K mg base Z fad (M30 Z) := D29.snoc (M := M29 Z) (Good.ofLam (j := 11) rfl rfl (ok_lam_11 hfn M29' rfl))
    have M30' := TS.ok D30
    have D31 : Done l.prog w K mg base Z fad (M31 Z) := D30.snoc (M := M30 Z) (Good.ofLam (j := 12) rfl rfl (ok_lam_12 hfn M30' rfl))
    have M31' := TS.ok D31
    have D32 : Done l.prog w K mg base Z fad (M32 Z) := D31.snoc (M := M31 Z) (Good.ofLam (j := 13) rfl rfl (ok_lam_13 hfn M31' rfl))
    have M32' := TS.ok D32
    have D33 : Done l.prog w K mg base Z fad (M33 Z) := D32.snoc (M := M32 Z) (Good.ofLam (j := 14) rfl rfl (ok_lam_14 hfn M32' rfl))
    have M33' := TS.ok D33
    have D34 : Done l.prog w K mg base Z fad (M34 Z) := D33.snoc (M := M33 Z) (Good.ofFn rfl (ok__law_told (f := f18) hfn hlm M33' F18))
    have M34' := TS.ok D34
    have D35 : Done l.prog w K mg base Z fad (M35 Z) := D34.snoc (M := M34 Z) (Good.ofFn rfl (ok__law_exact (f := f19) hfn hlm M34' F19))
    have M35' := TS.ok D35
    have D36 : Done l.prog w K mg base Z fad (M36 Z) := D35.snoc (M := M35 Z) (Good.ofFn rfl (ok__law_steps (f := f20) hfn hlm M35' F20))
    have M36' := TS.ok D36
    have D37 : Done l.prog w K mg base Z fad (M37 Z) := D36.snoc (M := M36 Z) (Good.ofFn rfl (ok__law_parts (f := f21) hfn hlm M36' F21))
    have M37' := TS.ok D37
    exact ok_law (f := f22) hfn hlm M37' F22 rfl B22 (by simp [Z]) (fun p hp _ => by simp [Z] at hp; rw [hp])
end K09

open PySem PySem.W PyProof.Rows in
set_option maxRecDepth 100000 in
set_option maxHeartbeats 0 in
theorem PySem.Challenge.cw_cellstack_k09_numbers_as_charts_holds : PySem.Challenge.rw_cellstack_k09_numbers_as_charts.Holds := by
  w_on; o_law; k_head; (case hw => w_witness2)
  k_fill
  refine G.walk_all (l := PySem.Challenge.rw_cellstack_k09_numbers_as_charts) (n := 63) (k := 9) (x := "script") (CX := fun w => L2.CX PySem.Challenge.rw_cellstack_k09_numbers_as_charts.prog w) rfl (by decide) rfl ⟨rfl, by decide, by decide⟩ (fun w h Y => by first | exact PySem.W.km_in_of Y | exact PySem.W.kIn_of Y) ?F (fun w H s e s' ⟨_, _, _, _, _, _, _, _, _, _, _, _, z⟩ => z)
  case F =>
    intro w mg mb mean fa h Y KX T hmg
    refine' K09.all_mk KX T hmg ?hrec ?a0 ?l0 ?c0 ?k0 ?a1 ?l1 ?c1 ?k1 ?a2 ?l2 ?c2 ?k2 ?a3 ?l3 ?c3 ?k3 ?a4 ?l4 ?c4 ?k4 ?a5 ?l5 ?c5 ?k5 ?a6 ?l6 ?c6 ?k6 ?a7 ?l7 ?c7 ?k7 ?a8 ?l8 ?c8 ?k8 ?a9 ?l9 ?c9 ?k9 ?a10 ?l10 ?c10 ?k10 ?a11 ?l11 ?c11 ?k11 ?a12 ?l12 ?c12 ?k12 ?a13 ?l13 ?c13 ?k13 ?t13 ?p13 ?n13 ?a14 ?l14 ?c14 ?k14 ?t14 ?p14 ?n14 ?a15 ?l15 ?c15 ?k15 ?a16 ?l16 ?c16 ?k16 ?a17 ?l17 ?c17 ?k17 ?a18 ?l18 ?c18 ?k18 ?a19 ?l19 ?c19 ?k19 ?a20 ?l20 ?c20 ?k20 ?a21 ?l21 ?c21 ?k21 ?a22 ?l22 ?c22 ?k22 ?t22 ?p22 ?n22 ?v0 ?v1 ?z0 ?z1 ?z2 ?z3 ?z4 ?z5 ?z6 ?z7 ?z8 ?z9 ?z10 ?z11 ?x0 ?xe0 ?xk0 ?xb0 ?xt0 ?xc0 ?xs0_0 ?ne13_22 ?ne14_22
    (case hrec => decide +kernel)
    (case a0 => k_is)
    (case l0 => k_is)
    (case c0 => k_is)
    (case k0 => k_is)
    (case a1 => k_is)
    (case l1 => k_is)
    (case c1 => k_is)
    (case k1 => k_is)
    (case a2 => k_is)
    (case l2 => k_is)
    (case c2 => k_is)
    (case k2 => k_is)
    (case a3 => k_is)
    (case l3 => k_is)
    (case c3 => k_is)
    (case k3 => k_is)
    (case a4 => k_is)
    (case l4 => k_is)
    (case c4 => k_is)
    (case k4 => k_is)
    (case a5 => k_is)
    (case l5 => k_is)
    (case c5 => k_is)
    (case k5 => k_is)
    (case a6 => k_is)
    (case l6 => k_is)
    (case c6 => k_is)
    (case k6 => k_is)
    (case a7 => k_is)
    (case l7 => k_is)
    (case c7 => k_is)
    (case k7 => k_is)
    (case a8 => k_is)
    (case l8 => k_is)
    (case c8 => k_is)
    (case k8 => k_is)
    (case a9 => k_is)
    (case l9 => k_is)
    (case c9 => k_is)
    (case k9 => k_is)
    (case a10 => k_is)
    (case l10 => k_is)
    (case c10 => k_is)
    (case k10 => k_is)
    (case a11 => k_is)
    (case l11 => k_is)
    (case c11 => k_is)
    (case k11 => k_is)
    (case a12 => k_is)
    (case l12 => k_is)
    (case c12 => k_is)
    (case k12 => k_is)
    (case a13 => k_is)
    (case l13 => k_is)
    (case c13 => k_is)
    (case k13 => k_is)
    (case t13 => k_is)
    (case p13 => first | rfl | with_unfolding_all rfl | decide)
    (case n13 => first | k_is | rfl | kernel_rfl | decide +kernel)
    (case a14 => k_is)
    (case l14 => k_is)
    (case c14 => k_is)
    (case k14 => k_is)
    (case t14 => k_is)
    (case p14 => first | rfl | with_unfolding_all rfl | decide)
    (case n14 => first | k_is | rfl | kernel_rfl | decide +kernel)
    (case a15 => k_is)
    (case l15 => k_is)
    (case c15 => k_is)
    (case k15 => k_is)
    (case a16 => k_is)
    (case l16 => k_is)
    (case c16 => k_is)
    (case k16 => k_is)
    (case a17 => k_is)
    (case l17 => k_is)
    (case c17 => k_is)
    (case k17 => k_is)
    (case a18 => k_is)
    (case l18 => k_is)
    (case c18 => k_is)
    (case k18 => k_is)
    (case a19 => k_is)
    (case l19 => k_is)
    (case c19 => k_is)
    (case k19 => k_is)
    (case a20 => k_is)
    (case l20 => k_is)
    (case c20 => k_is)
    (case k20 => k_is)
    (case a21 => k_is)
    (case l21 => k_is)
    (case c21 => k_is)
    (case k21 => k_is)
    (case a22 => k_is)
    (case l22 => k_is)
    (case c22 => k_is)
    (case k22 => k_is)
    (case t22 => k_is)
    (case p22 => first | rfl | with_unfolding_all rfl | decide)
    (case n22 => first | k_is | rfl | kernel_rfl | decide +kernel)
    (case v0 => k_is)
    (case v1 => k_is)
    (case z0 => k_is)
    (case z1 => k_is)
    (case z2 => k_is)
    (case z3 => k_is)
    (case z4 => k_is)
    (case z5 => k_is)
    (case z6 => k_is)
    (case z7 => k_is)
    (case z8 => k_is)
    (case z9 => k_is)
    (case z10 => k_is)
    (case z11 => k_is)
    (case x0 => k_is)
    (case xe0 => k_exc)
    (case xk0 => k_is)
    (case xb0 => k_is)
    (case xt0 => k_is)
    (case xc0 => k_is)
    (case xs0_0 => first | rfl | k_is)
    (case ne13_22 => decide)
    (case ne14_22 => decide)

