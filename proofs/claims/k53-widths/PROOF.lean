import PyProof.Rows.All
import Wide.All
import OpenK.AllK
import Wide.FinOn
import HandS.ForMost
import HandS.ForExc
import HandS.TupAny
import HandS.TupMul
import HandS.Deep
import HandS.Style
import HandS.IsInst
import HandS.SortInts
import HandS.Conv
import HandS.Walk
import HandS.Zip
import HandS.Flow
import HandS.Dict
import PyProof.EnumMake
import PyProof.Draws
import HandS.Iter
import HandS.Zip0
import KE.KTupSum
import HandS.Gcd
import HandS.DictComp
import HandS.More
import HandS.SortKw
import HandS.Ends
import PySem.Challenge.RW_greenshares_k53_whole_widths_of_bands
import KE.RegKIsAll
set_option Elab.async false
set_option linter.all false
set_option maxRecDepth 100000
set_option maxHeartbeats 0
/-! values by value -/
namespace Bv
open PySem PySem.Spec PyProof.Rows L2

/-- a value by value; mref: an object of the store -/
inductive D where
  | non | bl (b : Bool) | int (i : Int) | str (x : Str)
  | lst (xs : List D) | tup (xs : List D)
  | dic (kvs : List (D × D))
  | inst (C : Str) (fs : List (Str × D))
  | fn (x : Str)
  | mref (n : Nat)
  | scr (xs : List D)

/-- an object of the store -/
inductive MO where
  | dic (fs : List (Str × D))
  | inst (C : Str) (fs : List (Str × D))

/-- what a slot holds: a shared value, or an own list, dict, instance that nothing else knows -/
inductive L where
  | sh (d : D) | ol (ds : List D) | od (kvs : List (D × D)) | oi (b : Bool) (C : Str) (fs : List (Str × D))
def L.d : L → D
  | .sh d => d
  | .ol ds => .lst ds
  | .od kvs => .dic kvs
  | .oi _ C fs => .inst C fs

structure S where
  sl : List (Option L)
  st : List MO

inductive Res (α : Type) where
  | ok (a : α) (s : S) | exc (C : Str) (fs : List (Str × D)) (s : S) | bad

def M (α : Type) := S → Res α
def M.pure {α : Type} (a : α) : M α := fun s => .ok a s
def M.bind {α β : Type} (m : M α) (k : α → M β) : M β := fun s => match m s with
  | .ok a s' => k a s'
  | .exc C fs s' => .exc C fs s'
  | .bad => .bad
instance : Monad M where
  pure := M.pure
  bind := M.bind
def bad {α : Type} : M α := fun _ => .bad

/-- statements -/
inductive Fl where
  | nx (s : S) | rt (x : L) (s : S) | bk (s : S) | ct (s : S) | exc (C : Str) (fs : List (Str × D)) (s : S) | bad
abbrev MS := S → Fl

/-- the classes and defs of the text by name -/
structure Nm where
  K : PySem.W.Frag
  cA : Str → Option Addr
  gA : Str → Option Addr

def isT : D → Bool
  | .tup _ => true
  | _ => false
def keyOf : D → Option Key
  | .int i => some (.inl i)
  | .str x => some (.inr x)
  | _ => none
def keysOf : List D → Option (List Key)
  | [] => some []
  | d :: ds => match keyOf d, keysOf ds with
    | some k, some ks => some (k :: ks)
    | _, _ => none
def tkeyOf : D → Option (List Key)
  | .tup ds => keysOf ds
  | _ => none

mutual
inductive Is (n : Nm) (F : Hp) (φ : List Addr) : V → D → Prop
  | non : Is n F φ .non .non
  | bl (b : Bool) : Is n F φ (.bl b) (.bl b)
  | int (i : Int) : Is n F φ (.int i) (.int i)
  | str (x : Str) : Is n F φ (.str x) (.str x)
  | lst {a : Addr} {xs : List V} {ds : List D} : F a = some (.lst xs) → IsL n F φ xs ds → Is n F φ (.ref a) (.lst ds)
  | tup {a : Addr} {xs : List V} {ds : List D} : SqT n.K F a xs → IsL n F φ xs ds → Is n F φ (.ref a) (.tup ds)
  | dicK {a : Addr} {kvs : List (Key × V)} {ds : List (D × D)} : F a = some (.dK kvs) → IsK n F φ kvs ds → Is n F φ (.ref a) (.dic ds)
  | dicT {a : Addr} {kvs : List (List Key × V)} {ds : List (D × D)} : F a = some (.dT kvs) → IsKT n F φ kvs ds → Is n F φ (.ref a) (.dic ds)
  | inst {a C dx : Addr} {x : Str} {fs : List (Str × V)} {ds : List (Str × D)} : n.cA x = some C → F a = some (.ins C dx fs) → IsF n F φ fs ds → Is n F φ (.ref a) (.inst x ds)
  | fn {a : Addr} {x : Str} : n.gA x = some a → Is n F φ (.ref a) (.fn x)
  | mref {a : Addr} {k : Nat} : φ[k]? = some a → Is n F φ (.ref a) (.mref k)
  | scr {a : Addr} {xs : List V} {ds : List D} : SqL n.K F a xs → IsL n F φ xs ds → Is n F φ (.ref a) (.scr ds)
inductive IsL (n : Nm) (F : Hp) (φ : List Addr) : List V → List D → Prop
  | nil : IsL n F φ [] []
  | cons {v : V} {vs : List V} {d : D} {ds : List D} : Is n F φ v d → IsL n F φ vs ds → IsL n F φ (v :: vs) (d :: ds)
inductive IsF (n : Nm) (F : Hp) (φ : List Addr) : List (Str × V) → List (Str × D) → Prop
  | nil : IsF n F φ [] []
  | cons {f : Str} {v : V} {vs : List (Str × V)} {d : D} {ds : List (Str × D)} : Is n F φ v d → IsF n F φ vs ds → IsF n F φ ((f, v) :: vs) ((f, d) :: ds)
inductive IsK (n : Nm) (F : Hp) (φ : List Addr) : List (Key × V) → List (D × D) → Prop
  | nil : IsK n F φ [] []
  | cons {k : Key} {v : V} {vs : List (Key × V)} {kd d : D} {ds : List (D × D)} : keyOf kd = some k → Is n F φ v d → IsK n F φ vs ds → IsK n F φ ((k, v) :: vs) ((kd, d) :: ds)
inductive IsKT (n : Nm) (F : Hp) (φ : List Addr) : List (List Key × V) → List (D × D) → Prop
  | one {k : List Key} {v : V} {kd d : D} : tkeyOf kd = some k → Is n F φ v d → IsKT n F φ [(k, v)] [(kd, d)]
  | cons {k : List Key} {v : V} {vs : List (List Key × V)} {kd d : D} {ds : List (D × D)} : tkeyOf kd = some k → Is n F φ v d → IsKT n F φ vs ds → IsKT n F φ ((k, v) :: vs) ((kd, d) :: ds)
end

/-- parts of a heap -/
def Sub (F G : Hp) : Prop := ∀ b o, F b = some o → G b = some o
theorem Sub.refl (F : Hp) : Sub F F := fun _ _ h => h
theorem Sub.trans {F G H : Hp} (a : Sub F G) (b : Sub G H) : Sub F H := fun c o h => b c o (a c o h)
theorem Sub.seqL {K : PySem.W.Frag} {F G : Hp} (s : Sub F G) {a : Addr} {xs : List V} (h : SqL K F a xs) : SqL K G a xs := Same.seq s h
theorem Sub.seqT {K : PySem.W.Frag} {F G : Hp} (s : Sub F G) {a : Addr} {xs : List V} (h : SqT K F a xs) : SqT K G a xs := by
  rcases h with (h | ⟨o, h⟩) | h
  · exact .inl (.inl (s _ _ h))
  · exact .inl (.inr ⟨o, s _ _ h⟩)
  · exact .inr h

section
variable {n : Nm} {F G : Hp} {φ ψ : List Addr}
mutual
theorem Is.mono (s : Sub F G) : ∀ {v : V} {d : D}, Is n F φ v d → Is n G (φ ++ ψ) v d
  | _, _, .non => .non
  | _, _, .bl b => .bl b
  | _, _, .int i => .int i
  | _, _, .str x => .str x
  | _, _, .lst h t => .lst (s _ _ h) (IsL.mono s t)
  | _, _, .tup h t => .tup (s.seqT h) (IsL.mono s t)
  | _, _, .dicK h t => .dicK (s _ _ h) (IsK.mono s t)
  | _, _, .dicT h t => .dicT (s _ _ h) (IsKT.mono s t)
  | _, _, .inst c h t => .inst c (s _ _ h) (IsF.mono s t)
  | _, _, .fn h => .fn h
  | _, _, .scr h t => .scr (s.seqL h) (IsL.mono s t)
  | _, _, .mref h => .mref (by rw [List.getElem?_append_left]; exact h; exact (List.getElem?_eq_some_iff.mp h).1)
theorem IsL.mono (s : Sub F G) : ∀ {v : List V} {d : List D}, IsL n F φ v d → IsL n G (φ ++ ψ) v d
  | _, _, .nil => .nil
  | _, _, .cons h t => .cons (Is.mono s h) (IsL.mono s t)
theorem IsF.mono (s : Sub F G) : ∀ {v : List (Str × V)} {d : List (Str × D)}, IsF n F φ v d → IsF n G (φ ++ ψ) v d
  | _, _, .nil => .nil
  | _, _, .cons h t => .cons (Is.mono s h) (IsF.mono s t)
theorem IsK.mono (s : Sub F G) : ∀ {v : List (Key × V)} {d : List (D × D)}, IsK n F φ v d → IsK n G (φ ++ ψ) v d
  | _, _, .nil => .nil
  | _, _, .cons k h t => .cons k (Is.mono s h) (IsK.mono s t)
theorem IsKT.mono (s : Sub F G) : ∀ {v : List (List Key × V)} {d : List (D × D)}, IsKT n F φ v d → IsKT n G (φ ++ ψ) v d
  | _, _, .one k h => .one k (Is.mono s h)
  | _, _, .cons k h t => .cons k (Is.mono s h) (IsKT.mono s t)
end
theorem IsL.length : ∀ {v : List V} {d : List D}, IsL n F φ v d → v.length = d.length
  | _, _, .nil => rfl
  | _, _, .cons _ t => by rw [List.length_cons, List.length_cons, IsL.length t]
theorem IsL.get {d : D} : ∀ {vs : List V} {ds : List D} {i : Nat}, IsL n F φ vs ds → ds[i]? = some d → ∃ v, vs[i]? = some v ∧ Is n F φ v d
  | _, _, _, .nil, h => by simp at h
  | _, _, 0, .cons h _, e => by
    simp at e; subst e; exact ⟨_, rfl, h⟩
  | _, _, i + 1, .cons _ t, e => by
    obtain ⟨v, h1, h2⟩ := IsL.get (i := i) t (by simpa using e)
    exact ⟨v, by simpa using h1, h2⟩
theorem IsL.getV {v : V} : ∀ {vs : List V} {ds : List D} {i : Nat}, IsL n F φ vs ds → vs[i]? = some v → ∃ d, ds[i]? = some d ∧ Is n F φ v d
  | _, _, _, .nil, h => by simp at h
  | _, _, 0, .cons h _, e => by
    simp at e; subst e; exact ⟨_, rfl, h⟩
  | _, _, i + 1, .cons _ t, e => by
    obtain ⟨v, h1, h2⟩ := IsL.getV (i := i) t (by simpa using e)
    exact ⟨v, by simpa using h1, h2⟩
theorem IsL.append : ∀ {vs ws : List V} {ds es : List D}, IsL n F φ vs ds → IsL n F φ ws es → IsL n F φ (vs ++ ws) (ds ++ es)
  | _, _, _, _, .nil, s => s
  | _, _, _, _, .cons h t, s => .cons h (IsL.append t s)
theorem IsL.take : ∀ {vs : List V} {ds : List D} (i : Nat), IsL n F φ vs ds → IsL n F φ (vs.take i) (ds.take i)
  | _, _, 0, _ => .nil
  | _, _, _ + 1, .nil => .nil
  | _, _, i + 1, .cons h t => .cons h (IsL.take i t)
theorem IsL.drop : ∀ {vs : List V} {ds : List D} (i : Nat), IsL n F φ vs ds → IsL n F φ (vs.drop i) (ds.drop i)
  | _, _, 0, t => t
  | _, _, _ + 1, .nil => .nil
  | _, _, i + 1, .cons _ t => IsL.drop i t
theorem IsL.set {v : V} {d : D} (h : Is n F φ v d) : ∀ {vs : List V} {ds : List D} (i : Nat), IsL n F φ vs ds → IsL n F φ (vs.set i v) (ds.set i d)
  | _, _, _, .nil => .nil
  | _, _, 0, .cons _ t => .cons h t
  | _, _, i + 1, .cons q t => .cons q (IsL.set h i t)
theorem IsL.ints : ∀ {vs : List V} {ns : List Int}, IsL n F φ vs (ns.map D.int) → vs = ns.map V.int
  | _, [], h => by cases h; rfl
  | _, i :: ns, h => by
    cases h with
    | cons h t => cases h; rw [IsL.ints t]; rfl
theorem IsL.bls : ∀ {vs : List V} {ns : List Bool}, IsL n F φ vs (ns.map D.bl) → vs = ns.map V.bl
  | _, [], h => by cases h; rfl
  | _, i :: ns, h => by
    cases h with
    | cons h t => cases h; rw [IsL.bls t]; rfl
theorem IsL.strs : ∀ {vs : List V} {ns : List Str}, IsL n F φ vs (ns.map D.str) → vs = ns.map V.str
  | _, [], h => by cases h; rfl
  | _, i :: ns, h => by
    cases h with
    | cons h t => cases h; rw [IsL.strs t]; rfl
theorem IsF.look {f : Str} {d : D} : ∀ {vs : List (Str × V)} {ds : List (Str × D)}, IsF n F φ vs ds → ds.lookup f = some d → ∃ v, vs.lookup f = some v ∧ Is n F φ v d
  | _, _, .nil, h => by simp at h
  | _, _, .cons (f := g) (v := v) h t, e => by
    rw [List.lookup_cons] at e ⊢
    split at e
    · rename_i z
      cases e
      exact ⟨_, rfl, h⟩
    · exact IsF.look t e
theorem IsF.keys : ∀ {vs : List (Str × V)} {ds : List (Str × D)}, IsF n F φ vs ds → vs.map (·.1) = ds.map (·.1)
  | _, _, .nil => rfl
  | _, _, .cons h t => by rw [List.map_cons, List.map_cons, IsF.keys t]
theorem IsF.length {vs : List (Str × V)} {ds : List (Str × D)} (h : IsF n F φ vs ds) : vs.length = ds.length := by
  have := congrArg List.length h.keys
  simpa using this
end

/-! ### configurations -/
/-- what is known at a place of a body: the state by value, the slots, the store's addresses, the frozen part, the heap -/
structure Cf where
  S : S
  σ : List (Option V)
  φ : List Addr
  F : Hp
  H : Hp
  an : Addr

/-- an own object at a -/
def L.own : L → Bool
  | .sh _ => false
  | _ => true
def OwnA (c : Cf) (a : Addr) : Prop := ∃ (i : Nat) (x : L), c.S.sl[i]? = some (some x) ∧ x.own = true ∧ c.σ[i]? = some (some (V.ref a))
def Mut (c : Cf) (a : Addr) : Prop := OwnA c a ∨ a ∈ c.φ

def NT (o : HO) : Prop := ∀ ps, o ≠ .tbl ps

structure Stp (c c' : Cf) : Prop where
  F : Sub c.F c'.F
  H : ∀ b o, c.H b = some o → ¬ Mut c b → NT o → c'.H b = some o
  new : ∀ b, c'.F b ≠ none → c.F b ≠ none ∨ c.H b = none ∨ Mut c b
  mono : ∀ b, Mut c' b → Mut c b ∨ c.H b = none
  there : ∀ b, c'.H b = none → c.H b = none
  φ : ∃ ψ, c'.φ = c.φ ++ ψ
  an : c'.an = c.an
theorem Stp.refl (c : Cf) : Stp c c := ⟨Sub.refl _, fun _ _ h _ _ => h, fun _ h => .inl h, fun _ h => .inl h, fun _ h => h, ⟨[], by simp⟩, rfl⟩
theorem Stp.trans {c c' c'' : Cf} (a : Stp c c') (b : Stp c' c'') : Stp c c'' where
  F := a.F.trans b.F
  H := fun x o h m t => b.H x o (a.H x o h m t) (fun z => by
    rcases a.mono x z with z | z
    · exact m z
    · rw [h] at z; cases z) t
  new := fun x h => by
    rcases b.new x h with z | z | z
    · exact a.new x z
    · exact .inr (.inl (a.there x z))
    · rcases a.mono x z with z | z
      · exact .inr (.inr z)
      · exact .inr (.inl z)
  mono := fun x h => by
    rcases b.mono x h with z | z
    · exact a.mono x z
    · exact .inr (a.there x z)
  there := fun x h => a.there x (b.there x h)
  φ := by
    obtain ⟨p, e⟩ := a.φ
    obtain ⟨q, f⟩ := b.φ
    exact ⟨p ++ q, by rw [f, e, List.append_assoc]⟩
  an := b.an.trans a.an
theorem Stp.is {n : Nm} {c c' : Cf} (s : Stp c c') {v : V} {d : D} (h : Is n c.F c.φ v d) : Is n c'.F c'.φ v d := by
  obtain ⟨ψ, e⟩ := s.φ
  rw [e]; exact h.mono s.F
theorem Stp.isL {n : Nm} {c c' : Cf} (s : Stp c c') {v : List V} {d : List D} (h : IsL n c.F c.φ v d) : IsL n c'.F c'.φ v d := by
  obtain ⟨ψ, e⟩ := s.φ
  rw [e]; exact h.mono s.F
theorem Stp.isF {n : Nm} {c c' : Cf} (s : Stp c c') {v : List (Str × V)} {d : List (Str × D)} (h : IsF n c.F c.φ v d) : IsF n c'.F c'.φ v d := by
  obtain ⟨ψ, e⟩ := s.φ
  rw [e]; exact h.mono s.F
theorem Stp.isK {n : Nm} {c c' : Cf} (s : Stp c c') {v : List (Key × V)} {d : List (D × D)} (h : IsK n c.F c.φ v d) : IsK n c'.F c'.φ v d := by
  obtain ⟨ψ, e⟩ := s.φ
  rw [e]; exact h.mono s.F
theorem Stp.isKT {n : Nm} {c c' : Cf} (s : Stp c c') {v : List (List Key × V)} {d : List (D × D)} (h : IsKT n c.F c.φ v d) : IsKT n c'.F c'.φ v d := by
  obtain ⟨ψ, e⟩ := s.φ
  rw [e]; exact h.mono s.F

/-- pairs with texts as keys -/
def kvS (vs : List (Str × V)) : List (Key × V) := vs.map fun p => (Sum.inr p.1, p.2)
def MOk (n : Nm) (c : Cf) (a : Addr) : MO → Prop
  | .dic fs => ∃ vs, c.H a = some (.dK (kvS vs)) ∧ IsF n c.F c.φ vs fs
  | .inst x fs => ∃ C dx vs, n.cA x = some C ∧ c.H a = some (.ins C dx vs) ∧ IsF n c.F c.φ vs fs

/-- what an own object asks, x at v -/
def OIs (n : Nm) (c : Cf) (v : V) : L → Prop
  | .sh d => Is n c.F c.φ v d
  | .ol ds => ∃ a vs, v = .ref a ∧ c.H a = some (.lst vs) ∧ c.F a = none ∧ a ∉ c.φ ∧ IsL n c.F c.φ vs ds
  | .od kvs => ∃ a, v = .ref a ∧ c.F a = none ∧ a ∉ c.φ ∧ ((∃ vs, c.H a = some (.dK vs) ∧ IsK n c.F c.φ vs kvs) ∨ ∃ vs, c.H a = some (.dT vs) ∧ IsKT n c.F c.φ vs kvs)
  | .oi b x fs => ∃ a C dx vs, v = .ref a ∧ (b = true → a = c.an) ∧ n.cA x = some C ∧ c.H a = some (.ins C dx vs) ∧ c.F a = none ∧ a ∉ c.φ ∧ IsF n c.F c.φ vs fs

structure Ok (n : Nm) (c : Cf) : Prop where
  len : c.S.sl.length = c.σ.length
  sub : Sub c.F c.H
  sl : ∀ (i : Nat) (x : L), c.S.sl[i]? = some (some x) → ∃ v, c.σ[i]? = some (some v) ∧ OIs n c v x
  dist : ∀ (i j : Nat) (x y : L) (a : Addr), i ≠ j → c.S.sl[i]? = some (some x) → c.S.sl[j]? = some (some y) → x.own = true → y.own = true → c.σ[i]? = some (some (V.ref a)) → c.σ[j]? = some (some (V.ref a)) → False
  nd : c.φ.Nodup
  slen : c.S.st.length = c.φ.length
  st : ∀ (k : Nat) (o : MO) (a : Addr), c.S.st[k]? = some o → c.φ[k]? = some a → MOk n c a o
  fφ : ∀ a ∈ c.φ, c.F a = none

theorem OIs.at {n : Nm} {c : Cf} {v : V} {x : L} (h : OIs n c v x) (o : x.own = true) : ∃ a, v = .ref a ∧ c.F a = none ∧ a ∉ c.φ ∧ ∃ u, c.H a = some u ∧ NT u := by
  cases x with
  | sh d => cases o
  | ol ds => obtain ⟨a, vs, e, h1, h2, h3, _⟩ := h; exact ⟨a, e, h2, h3, _, h1, fun _ z => by cases z⟩
  | od kvs =>
    obtain ⟨a, e, h2, h3, ⟨vs, h1, _⟩ | ⟨vs, h1, _⟩⟩ := h
    · exact ⟨a, e, h2, h3, _, h1, fun _ z => by cases z⟩
    · exact ⟨a, e, h2, h3, _, h1, fun _ z => by cases z⟩
  | oi b C fs => obtain ⟨a, C, dx, vs, e, _, _, h1, h2, h3, _⟩ := h; exact ⟨a, e, h2, h3, _, h1, fun _ z => by cases z⟩

/-- an own object (or a value) over a step that does not touch it -/
theorem OIs.step {n : Nm} {c c' : Cf} {v : V} {x : L} (h : OIs n c v x) (s : Stp c c') (hm : x.own = true → ∀ a, v = .ref a → ¬ Mut c a ∧ a ∉ c'.φ) : OIs n c' v x := by
  have key : x.own = true → ∀ a, v = .ref a → (∀ u, c.H a = some u → NT u → c'.H a = some u) ∧ (c.F a = none → (∃ u, c.H a = some u) → c'.F a = none) ∧ a ∉ c'.φ := fun o a e => by
    obtain ⟨m1, m2⟩ := hm o a e
    refine ⟨fun u hu ht => s.H a u hu m1 ht, fun hf ⟨u, hu⟩ => ?_, m2⟩
    cases q : c'.F a with
    | none => rfl
    | some w =>
      rcases s.new a (by rw [q]; simp) with z | z | z
      · exact absurd hf z
      · rw [hu] at z; cases z
      · exact absurd z m1
  cases x with
  | sh d => exact s.is h
  | ol ds =>
    obtain ⟨a, vs, e, h1, h2, h3, h4⟩ := h
    obtain ⟨k1, k2, k3⟩ := key rfl a e
    exact ⟨a, vs, e, k1 _ h1 (fun _ z => by cases z), k2 h2 ⟨_, h1⟩, k3, s.isL h4⟩
  | od kvs =>
    obtain ⟨a, e, h2, h3, ⟨vs, h1, h4⟩ | ⟨vs, h1, h4⟩⟩ := h
    · obtain ⟨k1, k2, k3⟩ := key rfl a e
      exact ⟨a, e, k2 h2 ⟨_, h1⟩, k3, .inl ⟨vs, k1 _ h1 (fun _ z => by cases z), s.isK h4⟩⟩
    · obtain ⟨k1, k2, k3⟩ := key rfl a e
      exact ⟨a, e, k2 h2 ⟨_, h1⟩, k3, .inr ⟨vs, k1 _ h1 (fun _ z => by cases z), s.isKT h4⟩⟩
  | oi b C fs =>
    obtain ⟨a, C, dx, vs, e, hb, hC, h1, h2, h3, h4⟩ := h
    obtain ⟨k1, k2, k3⟩ := key rfl a e
    exact ⟨a, C, dx, vs, e, fun z => (hb z).trans s.an.symm, hC, k1 _ h1 (fun _ z => by cases z), k2 h2 ⟨_, h1⟩, k3, s.isF h4⟩
end Bv

/-! configurations changed -/
namespace Bv
open PySem PySem.Spec PyProof.Rows L2

theorem sub_upd {F : Hp} {a : Addr} {o : HO} (h : F a = none) : Sub F (upd F a o) := fun b u e => by
  rw [upd_ne (ne_of_none e h)]; exact e
theorem upd_some {F : Hp} {a b : Addr} {o u : HO} (h : upd F a o b = some u) : (b = a ∧ u = o) ∨ F b = some u := by
  by_cases e : b = a
  · subst e; rw [upd_same] at h; cases h; exact .inl ⟨rfl, rfl⟩
  · rw [upd_ne e] at h; exact .inr h
theorem upd_nn {F : Hp} {a b : Addr} {o : HO} (h : upd F a o b ≠ none) : b = a ∨ F b ≠ none := by
  by_cases e : b = a
  · exact .inl e
  · rw [upd_ne e] at h; exact .inr h
theorem upd_none' {F : Hp} {a b : Addr} {o : HO} (h : upd F a o b = none) : b ≠ a ∧ F b = none := by
  by_cases e : b = a
  · subst e; rw [upd_same] at h; cases h
  · rw [upd_ne e] at h; exact ⟨e, h⟩

variable {n : Nm}

/-- an own object is the object that is frozen -/
theorem OIs.frozen {c : Cf} {v : V} {x : L} (h : OIs n c v x) (hs : Sub c.F c.H) : ∃ F', Sub c.F F' ∧ Sub F' c.H ∧ Is n F' c.φ v x.d ∧ (∀ b, F' b ≠ none → c.F b ≠ none ∨ (x.own = true ∧ v = .ref b)) := by
  have m : ∀ {a : Addr} {o : HO}, c.F a = none → c.H a = some o → Sub c.F (upd c.F a o) ∧ Sub (upd c.F a o) c.H := fun {a o} h1 h2 => ⟨sub_upd h1, fun b u e => by
    rcases upd_some e with ⟨rfl, rfl⟩ | e
    · exact h2
    · exact hs _ _ e⟩
  have mm : ∀ {G : Hp} {P : Hp → List Addr → Prop}, P G (c.φ ++ []) → P G c.φ := fun {G P} h => by rw [List.append_nil] at h; exact h
  cases x with
  | sh d => exact ⟨c.F, Sub.refl _, hs, h, fun b h => .inl h⟩
  | ol ds =>
    obtain ⟨a, vs, rfl, h1, h2, h3, h4⟩ := h
    obtain ⟨m1, m2⟩ := m h2 h1
    refine ⟨_, m1, m2, .lst upd_same ?_, fun b hb => ?_⟩
    · have z := h4.mono (ψ := []) m1; rw [List.append_nil] at z; exact z
    · rcases upd_nn hb with rfl | z
      · exact .inr ⟨rfl, rfl⟩
      · exact .inl z
  | od kvs =>
    obtain ⟨a, rfl, h2, h3, ⟨vs, h1, h4⟩ | ⟨vs, h1, h4⟩⟩ := h
    all_goals
      obtain ⟨m1, m2⟩ := m h2 h1
      have z := h4.mono (ψ := []) m1
      rw [List.append_nil] at z
    · refine ⟨_, m1, m2, .dicK upd_same z, fun b hb => ?_⟩
      rcases upd_nn hb with rfl | z
      · exact .inr ⟨rfl, rfl⟩
      · exact .inl z
    · refine ⟨_, m1, m2, .dicT upd_same z, fun b hb => ?_⟩
      rcases upd_nn hb with rfl | z
      · exact .inr ⟨rfl, rfl⟩
      · exact .inl z
  | oi b C fs =>
    obtain ⟨a, C, dx, vs, rfl, hb, hC, h1, h2, h3, h4⟩ := h
    obtain ⟨m1, m2⟩ := m h2 h1
    have z := h4.mono (ψ := []) m1
    rw [List.append_nil] at z
    refine ⟨_, m1, m2, .inst hC upd_same z, fun b hb => ?_⟩
    rcases upd_nn hb with rfl | z
    · exact .inr ⟨rfl, rfl⟩
    · exact .inl z

theorem OIs.grow {c : Cf} {v : V} {x : L} {F' : Hp} (h : OIs n c v x) (s : Sub c.F F') (ho : x.own = true → ∀ a, v = .ref a → F' a = none) : OIs n { c with F := F' } v x := by
  have e : c.φ ++ [] = c.φ := List.append_nil _
  cases x with
  | sh d =>
    have z := Is.mono (ψ := []) s h
    rw [e] at z; exact z
  | ol ds =>
    obtain ⟨a, vs, rfl, h1, h2, h3, h4⟩ := h
    have z := h4.mono (ψ := []) s
    rw [e] at z; exact ⟨a, vs, rfl, h1, ho rfl a rfl, h3, z⟩
  | od kvs =>
    obtain ⟨a, rfl, h2, h3, ⟨vs, h1, h4⟩ | ⟨vs, h1, h4⟩⟩ := h
    · have z := h4.mono (ψ := []) s
      rw [e] at z; exact ⟨a, rfl, ho rfl a rfl, h3, .inl ⟨vs, h1, z⟩⟩
    · have z := h4.mono (ψ := []) s
      rw [e] at z; exact ⟨a, rfl, ho rfl a rfl, h3, .inr ⟨vs, h1, z⟩⟩
  | oi b C fs =>
    obtain ⟨a, C, dx, vs, rfl, hb, hC, h1, h2, h3, h4⟩ := h
    have z := h4.mono (ψ := []) s
    rw [e] at z; exact ⟨a, C, dx, vs, rfl, hb, hC, h1, ho rfl a rfl, h3, z⟩
theorem MOk.grow {c : Cf} {a : Addr} {o : MO} {F' : Hp} (h : MOk n c a o) (s : Sub c.F F') : MOk n { c with F := F' } a o := by
  cases o with
  | dic p =>
    obtain ⟨vs, h1, h3⟩ := h
    have z := h3.mono (ψ := []) s
    rw [List.append_nil] at z; exact ⟨vs, h1, z⟩
  | inst x fs =>
    obtain ⟨C, dx, vs, h1, h2, h3⟩ := h
    have z := h3.mono (ψ := []) s
    rw [List.append_nil] at z; exact ⟨C, dx, vs, h1, h2, z⟩

/-- more is frozen: nothing that is own -/
theorem Ok.grow {c : Cf} {F' : Hp} (k : Ok n c) (s : Sub c.F F') (t : Sub F' c.H) (ho : ∀ a, Mut c a → F' a = none) : Ok n { c with F := F' } where
  len := k.len
  sub := t
  sl := fun i x e => by
    obtain ⟨v, h1, h2⟩ := k.sl i x e
    refine ⟨v, h1, h2.grow s fun o a ea => ho a (.inl ⟨i, x, e, o, by subst ea; exact h1⟩)⟩
  dist := k.dist
  nd := k.nd
  slen := k.slen
  st := fun j o a h1 h2 => (k.st j o a h1 h2).grow s
  fφ := fun a ha => ho a (.inr ha)

/-- a slot is no longer own -/
theorem Ok.unown {c : Cf} {i : Nat} {y : Option L} (k : Ok n c) (h : ∀ d, y = some d → d.own = false ∧ ∃ v, c.σ[i]? = some (some v) ∧ OIs n c v d) : Ok n { c with S := { c.S with sl := c.S.sl.set i y } } where
  len := by simp [k.len]
  sub := k.sub
  sl := fun j x e => by
    by_cases hij : i = j
    · subst hij
      have e : (c.S.sl.set i y)[i]? = some (some x) := e
      rw [List.getElem?_set_self'] at e
      cases q : c.S.sl[i]? with
      | none => rw [q] at e; cases e
      | some z =>
        rw [q] at e
        have e : y = some x := by simpa using e
        obtain ⟨_, v, h1, h2⟩ := h x e
        refine ⟨v, h1, ?_⟩
        cases x <;> exact h2
    · have e : (c.S.sl.set i y)[j]? = some (some x) := e
      rw [List.getElem?_set_ne hij] at e
      obtain ⟨v, h1, h2⟩ := k.sl j x e
      refine ⟨v, h1, ?_⟩
      cases x <;> exact h2
  dist := fun j l x z a hjl h1 h2 o1 o2 => by
    have key : ∀ j (x : L), (c.S.sl.set i y)[j]? = some (some x) → x.own = true → c.S.sl[j]? = some (some x) := fun j x e o => by
      by_cases hij : i = j
      · subst hij
        rw [List.getElem?_set_self'] at e
        cases q : c.S.sl[i]? with
        | none => rw [q] at e; cases e
        | some w =>
          rw [q] at e
          have e : y = some x := by simpa using e
          rw [(h x e).1] at o; cases o
      · rw [List.getElem?_set_ne hij] at e; exact e
    exact k.dist j l x z a hjl (key j x h1 o1) (key l z h2 o2) o1 o2
  nd := k.nd
  slen := k.slen
  st := fun j o a h1 h2 => by
    have := k.st j o a h1 h2
    cases o <;> exact this
  fφ := k.fφ

theorem unown_mut {c : Cf} {i : Nat} {y : Option L} (h : ∀ d, y = some d → d.own = false) {a : Addr} (m : Mut { c with S := { c.S with sl := c.S.sl.set i y } } a) : Mut c a := by
  rcases m with ⟨j, x, e, o, s⟩ | m
  · by_cases hij : i = j
    · subst hij
      have e : (c.S.sl.set i y)[i]? = some (some x) := e
      rw [List.getElem?_set_self'] at e
      cases q : c.S.sl[i]? with
      | none => rw [q] at e; cases e
      | some w =>
        rw [q] at e
        have e : y = some x := by simpa using e
        rw [h x e] at o; cases o
    · have e : (c.S.sl.set i y)[j]? = some (some x) := e
      rw [List.getElem?_set_ne hij] at e
      exact .inl ⟨j, x, e, o, s⟩
  · exact .inr m

/-- the value of a slot handed on: from now on it is shared -/
theorem Ok.escape {c : Cf} {i : Nat} {x : L} (k : Ok n c) (e : c.S.sl[i]? = some (some x)) : ∃ (v : V) (F' : Hp), c.σ[i]? = some (some v) ∧
    Stp c { c with S := { c.S with sl := c.S.sl.set i (some (.sh x.d)) }, F := F' } ∧ Ok n { c with S := { c.S with sl := c.S.sl.set i (some (.sh x.d)) }, F := F' } ∧ Is n F' c.φ v x.d := by
  obtain ⟨v, h1, h2⟩ := k.sl i x e
  obtain ⟨F', s, t, q, nw⟩ := h2.frozen k.sub
  refine ⟨v, F', h1, ?_, ?_, q⟩
  · refine ⟨s, fun b o h _ _ => h, fun b h => ?_, fun b h => ?_, fun b h => h, ⟨[], by simp⟩, rfl⟩
    · rcases nw b h with z | ⟨o, z⟩
      · exact .inl z
      · exact .inr (.inr (.inl ⟨i, x, e, o, by rw [h1, z]⟩))
    · exact .inl (unown_mut (c := c) (y := some (.sh x.d)) (fun d q => by cases q; rfl) (by
        rcases h with ⟨j, y, a1, a2, a3⟩ | h
        · exact .inl ⟨j, y, a1, a2, a3⟩
        · exact .inr h))
  · -- first unown with the old frozen part is not possible: the slot's value is not yet shared; so slot forgotten, grown, then set
    refine ⟨by simp [k.len], t, fun j y ej => ?_, fun j l y z a hjl h3 h4 o1 o2 s1 s2 => ?_, k.nd, k.slen, fun j o a h3 h4 => (k.st j o a h3 h4).grow s, fun a ha => ?_⟩
    · by_cases hij : i = j
      · subst hij
        have ej : (c.S.sl.set i (some (L.sh x.d)))[i]? = some (some y) := ej
        rw [List.getElem?_set_self', e] at ej
        have ej : L.sh x.d = y := by simpa using ej
        subst ej
        exact ⟨v, h1, q⟩
      · have ej : (c.S.sl.set i (some (L.sh x.d)))[j]? = some (some y) := ej
        rw [List.getElem?_set_ne hij] at ej
        obtain ⟨w, h3, h4⟩ := k.sl j y ej
        refine ⟨w, h3, (h4.grow s fun o a ea => ?_)⟩
        subst ea
        cases qa : F' a with
        | none => rfl
        | some u =>
          rcases nw a (by rw [qa]; simp) with z | ⟨o', z⟩
          · obtain ⟨_, ee, hf, _⟩ := h4.at o
            cases ee
            exact absurd hf z
          · subst z
            exact absurd (k.dist i j x y a hij e ej o' o h1 h3) id
    · have key : ∀ j (y : L), (c.S.sl.set i (some (L.sh x.d)))[j]? = some (some y) → y.own = true → c.S.sl[j]? = some (some y) := fun j y e' o => by
        by_cases hij : i = j
        · subst hij
          rw [List.getElem?_set_self', e] at e'
          have e' : L.sh x.d = y := by simpa using e'
          subst e'; cases o
        · rw [List.getElem?_set_ne hij] at e'; exact e'
      exact k.dist j l y z a hjl (key j y h3 o1) (key l z h4 o2) o1 o2 s1 s2
    · show F' a = none
      cases qa : F' a with
      | none => rfl
      | some u =>
        rcases nw a (by rw [qa]; simp) with z | ⟨o', z⟩
        · exact absurd (k.fφ a ha) z
        · subst z
          obtain ⟨_, ee, _, h3, _⟩ := h2.at o'
          cases ee
          exact absurd ha h3

/-- an object is made: own -/
theorem Ok.alloc {c : Cf} {p : Addr} {o : HO} (k : Ok n c) (hp : c.H p = none) : Ok n { c with H := upd c.H p o } ∧ Stp c { c with H := upd c.H p o } ∧ p ∉ c.φ ∧ c.F p = none ∧ ¬ OwnA c p := by
  have hF : c.F p = none := by
    cases q : c.F p with
    | none => rfl
    | some u => have := k.sub _ _ q; rw [hp] at this; cases this
  have hO : ¬ OwnA c p := fun ⟨i, x, e, o, s⟩ => by
    obtain ⟨v, h1, h2⟩ := k.sl i x e
    rw [s] at h1; cases h1
    obtain ⟨_, ee, _, _, u, hu, _⟩ := h2.at o
    cases ee
    rw [hp] at hu; cases hu
  have hφ : p ∉ c.φ := fun m => by
    obtain ⟨j, hj⟩ := List.getElem?_of_mem m
    have hl : j < c.S.st.length := by rw [k.slen]; exact (List.getElem?_eq_some_iff.mp hj).1
    have z := k.st j c.S.st[j] p (List.getElem?_eq_getElem hl) hj
    cases q : c.S.st[j] with
    | dic p' => rw [q] at z; obtain ⟨_, h1, _⟩ := z; rw [hp] at h1; cases h1
    | inst C fs => rw [q] at z; obtain ⟨_, _, _, _, h1, _⟩ := z; rw [hp] at h1; cases h1
  have st : Stp c { c with H := upd c.H p o } := ⟨Sub.refl _, fun b u h _ _ => by
      show upd c.H p o b = some u
      rw [upd_ne (ne_of_none h hp)]; exact h, fun b h => .inl h, fun b h => .inl (by
      rcases h with ⟨j, y, a1, a2, a3⟩ | h
      · exact .inl ⟨j, y, a1, a2, a3⟩
      · exact .inr h), fun b h => (upd_none' h).2, ⟨[], by simp⟩, rfl⟩
  refine ⟨⟨k.len, k.sub.trans (sub_upd hp), fun i x e => ?_, k.dist, k.nd, k.slen, fun j m a h1 h2 => ?_, k.fφ⟩, st, hφ, hF, hO⟩
  · obtain ⟨v, h1, h2⟩ := k.sl i x e
    refine ⟨v, h1, ?_⟩
    cases x with
    | sh d => exact h2
    | ol ds => obtain ⟨a, vs, e1, h3, h4, h5, h6⟩ := h2; exact ⟨a, vs, e1, sub_upd hp _ _ h3, h4, h5, h6⟩
    | od kvs =>
      obtain ⟨a, e1, h4, h5, ⟨vs, h3, h6⟩ | ⟨vs, h3, h6⟩⟩ := h2
      · exact ⟨a, e1, h4, h5, .inl ⟨vs, sub_upd hp _ _ h3, h6⟩⟩
      · exact ⟨a, e1, h4, h5, .inr ⟨vs, sub_upd hp _ _ h3, h6⟩⟩
    | oi b C fs => obtain ⟨a, C, dx, vs, e1, hb, hC, h3, h4, h5, h6⟩ := h2; exact ⟨a, C, dx, vs, e1, hb, hC, sub_upd hp _ _ h3, h4, h5, h6⟩
  · have z := k.st j m a h1 h2
    cases m with
    | dic p' => obtain ⟨lc, h3, h4⟩ := z; exact ⟨lc, sub_upd hp _ _ h3, h4⟩
    | inst C fs => obtain ⟨C, dx, vs, h3, h4, h5⟩ := z; exact ⟨C, dx, vs, h3, sub_upd hp _ _ h4, h5⟩

/-- an object is made: frozen at once -/
theorem Ok.allocF {c : Cf} {p : Addr} {o : HO} (k : Ok n c) (hp : c.H p = none) : Ok n { c with H := upd c.H p o, F := upd c.F p o } ∧ Stp c { c with H := upd c.H p o, F := upd c.F p o } := by
  obtain ⟨k1, s1, h1, h2, h3⟩ := k.alloc (o := o) hp
  have h4 := k1.grow (F' := upd c.F p o) (sub_upd h2) (fun b u e => by
      show upd c.H p o b = some u
      rcases upd_some e with ⟨rfl, rfl⟩ | e
      · exact upd_same
      · exact sub_upd hp _ _ (k.sub _ _ e)) (fun a m => by
      have hne : a ≠ p := fun z => by
        subst z
        rcases m with m | m
        · exact h3 m
        · exact h1 m
      show upd c.F p o a = none
      rw [upd_ne hne]
      rcases m with ⟨i, x, e, ow, s⟩ | m
      · obtain ⟨v, e1, e2⟩ := k.sl i x e
        have s : c.σ[i]? = some (some (V.ref a)) := s
        rw [s] at e1; cases e1
        obtain ⟨_, ee, hf, _⟩ := e2.at ow
        cases ee
        exact hf
      · exact k.fφ a m)
  refine ⟨h4, ⟨sub_upd h2, fun b u h m t => s1.H b u h m t, fun b h => ?_, fun b h => .inl (by
      rcases h with ⟨j, y, a1, a2, a3⟩ | h
      · exact .inl ⟨j, y, a1, a2, a3⟩
      · exact .inr h), fun b h => s1.there b h, ⟨[], by simp⟩, rfl⟩⟩
  rcases upd_nn h with rfl | z
  · exact .inr (.inl hp)
  · exact .inl z
end Bv

namespace L2
open PySem PySem.Spec PyProof.Rows
/-! tuple * k for k at most 1 -/
theorem tup_mul_one (l : Addr) (items : Array Value) (n : Nat) (dd : Option Addr) (sl : Array (Option Value)) (x : Int) (u : Tok) (c0 : (decide (x < -(2 ^ 63)) || decide (x ≥ 2 ^ 63)) = false) (c1 : (items.isEmpty || x == 1) = true) :
    Meets (Builtin.«tuple.__mul__» ⟨[.ref l, .int x u], []⟩) (fun _ R s => s.heap.get? l = some { cls := .type "tuple", dict := dd, data := .seq items n, slots := sl } ∧ R (.ok (.ret (Value.ref l))) s) :=
  .of_wp fun prog w A R s h => by
    obtain ⟨hp, g, d, tk, os⟩ := s
    obtain ⟨hl, h⟩ := h
    have f1 := AutoSeq1.idx_int
    wp_walk using wpAny_loadPart' hl
    repeat (first
      | (refine wpAny_ite_false (decide_eq_false (by rw [c0]; exact Bool.false_ne_true)) ?_; wp_walk using wpAny_loadPart' hl)
      | (refine wpAny_ite_true (decide_eq_true (by rw [c1])) ?_; wp_walk using wpAny_loadPart' hl))
    exact ⟨_, rfl, h⟩
theorem tup_mul_none (l : Addr) (items : Array Value) (n : Nat) (dd : Option Addr) (sl : Array (Option Value)) (x : Int) (u : Tok) (c0 : (decide (x < -(2 ^ 63)) || decide (x ≥ 2 ^ 63)) = false) (c1 : (items.isEmpty || x == 1) = false) (c2 : (decide (x ≤ 0) || items.isEmpty) = true) :
    Meets (Builtin.«tuple.__mul__» ⟨[.ref l, .int x u], []⟩) (fun _ R s => s.heap.get? l = some { cls := .type "tuple", dict := dd, data := .seq items n, slots := sl } ∧
      R (.ok (.ret (Value.ref s.heap.objs.size))) { s with heap := s.heap.push { cls := Value.type "tuple", data := Data.seq #[] }, toks := s.toks }) :=
  .of_wp fun prog w A R s h => by
    obtain ⟨hp, g, d, tk, os⟩ := s
    obtain ⟨hl, h⟩ := h
    have f1 := AutoSeq1.idx_int
    wp_walk using wpAny_loadPart' hl
    repeat (first
      | (refine wpAny_ite_false (decide_eq_false (by rw [c0]; exact Bool.false_ne_true)) ?_; wp_walk using wpAny_loadPart' hl)
      | (refine wpAny_ite_false (decide_eq_false (by rw [c1]; exact Bool.false_ne_true)) ?_; wp_walk using wpAny_loadPart' hl)
      | (refine wpAny_ite_true (decide_eq_true (by rw [c2])) ?_; wp_walk using wpAny_loadPart' hl))
    exact ⟨_, rfl, h⟩
def rRepN (K : PySem.W.Frag) : R2 := fun x y H Q => ∃ l k xs, x = .ref l ∧ y = .int k ∧ SqT K H l xs ∧ xs ≠ [] ∧ -(2 ^ 62) ≤ k ∧ k ≤ 1 ∧ (k = 1 → Q (.ref l) H) ∧ (k ≤ 0 → ∀ p, H p = none → Q (.ref p) (upd H p (.tup [])))
theorem op_repN {X : Cx} : OpR X (binaryOp .Mult) (rRepN X.K) := by
  intro pins s σ H x y v u Q I rx ry h
  obtain ⟨l, k, xs, rfl, rfl, hT, hne, h1, h2, q1, q2⟩ := h
  cases rx
  obtain ⟨t, rfl⟩ := ry
  obtain ⟨its, r, ⟨⟨cls, dd, data, sl⟩, ho, hc, n, hd⟩, hs⟩ := I.tuple hT
  simp only at hc hd
  subst hc hd
  have c0 : (decide (k < -(2 ^ 63)) || decide (k ≥ 2 ^ 63)) = false := by
    rw [decide_eq_false (by omega), decide_eq_false (by omega)] <;> rfl
  by_cases hk : k = 1
  · have c1 : (its.toArray.isEmpty || k == 1) = true := by rw [hk]; simp
    refine wpAny_binaryOp_repeat_ref (T := "tuple") (U := "int") (by decide) ⟨_, ho, rfl⟩ (fun s' => typeIs_int s' k t) noFill_tuple_mul F.fills_int_mul F.slot_int_rmul repeat_tuple F.slot_int_index.lookup
      (call_meets F.slot_int_rmul (typeIs_int s k t) F.entry_int_rmul (F.args_int_rmul_2 _ _) (int_rmul_tuple k t l its.toArray n dd sl)
        ⟨ho, rfl, ⟨_, ho, rfl⟩, call_meets F.slot_tuple_mul ⟨_, ho, rfl⟩ F.entry_tuple_mul (F.args_tuple_mul_2 _ _) (tup_mul_one l its.toArray n dd sl k t c0 c1) ⟨ho, ?_⟩⟩)
    exact ⟨.ref l, H, I, rfl, q1 hk⟩
  · have hi : its.toArray.isEmpty = false := by
      cases its with
      | nil => exact absurd (List.eq_nil_of_length_eq_zero r.length) hne
      | cons a b => rfl
    have c1 : (its.toArray.isEmpty || k == 1) = false := by
      rw [hi, Bool.false_or]
      exact beq_eq_false_iff_ne.mpr hk
    have c2 : (decide (k ≤ 0) || its.toArray.isEmpty) = true := by
      rw [hi, Bool.or_false]
      exact decide_eq_true (by omega)
    refine wpAny_binaryOp_repeat_ref (T := "tuple") (U := "int") (by decide) ⟨_, ho, rfl⟩ (fun s' => typeIs_int s' k t) noFill_tuple_mul F.fills_int_mul F.slot_int_rmul repeat_tuple F.slot_int_index.lookup
      (call_meets F.slot_int_rmul (typeIs_int s k t) F.entry_int_rmul (F.args_int_rmul_2 _ _) (int_rmul_tuple k t l its.toArray n dd sl)
        ⟨ho, rfl, ⟨_, ho, rfl⟩, call_meets F.slot_tuple_mul ⟨_, ho, rfl⟩ F.entry_tuple_mul (F.args_tuple_mul_2 _ _) (tup_mul_none l its.toArray n dd sl k t c0 c1 c2) ⟨ho, ?_⟩⟩)
    refine ⟨.ref s.heap.objs.size, _, I.laid (t' := s.toks) (o := .tup []) (fun b ob q => Heap.get?_push_of_some _ q) (Nat.le_refl _) ?_, rfl, q2 (by omega) _ (I.hok.fresh (Nat.le_refl _))⟩
    exact ⟨by rw [sizeLine_eq]; simp, [], .nil, IsTup.new _ _⟩
end L2
/-! readings by value -/
namespace Bv
open PySem PySem.Spec PyProof.Rows L2

section
variable (n : Nm) (W : WX)
/-- the dict of an exception -/
def XD (c : Cf) (d : Option Addr) (fs : List (Str × D)) : Prop := ∃ dx vs, d = some dx ∧ c.H dx = some (.xd vs) ∧ IsF n c.F c.φ vs fs
def ExcP (c : Cf) (C : Str) (fs : List (Str × D)) (S' : S) : Prop :=
  ∀ (Ca : Addr) (d : Option Addr) (c' : Cf), c'.S = S' → c'.σ = c.σ → Stp c c' → Ok n c' → n.cA C = some Ca → XD n c' d fs → W (.ref Ca) d c'.σ c'.H
def Out {α γ : Type} (P : Cf → Cf → γ → α → Prop) (c : Cf) (r : Res α) (Q : γ → Hp → Prop) : Prop := match r with
  | .ok x S' => ∀ v c', c'.S = S' → c'.σ = c.σ → Stp c c' → Ok n c' → P c c' v x → Q v c'.H
  | .exc C fs S' => ExcP n W c C fs S'
  | .bad => False
def PX : Cf → Cf → V → D → Prop := fun _ c' v d => Is n c'.F c'.φ v d
structure RV (c c' : Cf) (v : V) (x : L) : Prop where
  is : OIs n c' v x
  own : x.own = true → ∀ a, v = .ref a → ¬ OwnA c' a ∧ (c.H a = none ∨ Mut c a)
def PB : Cf → Cf → V → L → Prop := fun _ c' v x => OIs n c' v x
/-- readings -/
def tV {α : Type} (P : Cf → Cf → V → α → Prop) (f : M α) : TE := fun σ H Q => ∃ c : Cf, c.σ = σ ∧ c.H = H ∧ Ok n c ∧ Out n W P c (f c.S) Q
def tX (f : M D) : TE := tV n W (PX n) f
def tO (f : M L) : TE := tV n W (RV n) f
def tW (f : M L) : TE := tV n W (PB n) f
/-- a test -/
def tT (f : M Bool) : TT := fun σ H Q => ∃ c : Cf, c.σ = σ ∧ c.H = H ∧ Ok n c ∧ Out n W (fun _ _ v b => v = b) c (f c.S) Q
/-- the P that may begin earlier -/
def Trans {α γ : Type} (P : Cf → Cf → γ → α → Prop) : Prop := ∀ c c1 c2 v x, Stp c c1 → P c1 c2 v x → P c c2 v x
end
variable {n : Nm} {W : WX}
theorem trX : Trans (PX n) := fun _ _ _ _ _ _ h => h
theorem trB : Trans (PB n) := fun _ _ _ _ _ _ h => h
theorem trO : Trans (RV n) := fun c c1 c2 v x s h => ⟨h.is, fun o a e => by
  obtain ⟨h1, h2⟩ := h.own o a e
  refine ⟨h1, ?_⟩
  rcases h2 with z | z
  · exact .inl (s.there a z)
  · rcases s.mono a z with z | z
    · exact .inr z
    · exact .inl z⟩
theorem trT {α : Type} : Trans (fun _ _ (v : α) (b : α) => v = b) := fun _ _ _ _ _ _ h => h

section
variable {α β γ γ1 : Type} {P : Cf → Cf → γ → α → Prop} {P1 : Cf → Cf → γ1 → β → Prop}
theorem ExcP.later {c c' : Cf} {C : Str} {fs : List (Str × D)} {S' : S} (h : ExcP n W c C fs S') (s : Stp c c') (e : c'.σ = c.σ) : ExcP n W c' C fs S' :=
  fun Ca d c2 h1 h2 h3 h4 h5 h6 => h Ca d c2 h1 (h2.trans e) (s.trans h3) h4 h5 h6
theorem Out.later {c c' : Cf} {r : Res α} {Q : γ → Hp → Prop} (tr : Trans P) (h : Out n W P c r Q) (s : Stp c c') (e : c'.σ = c.σ) : Out n W P c' r Q := by
  cases r with
  | ok x S' => exact fun v c2 h1 h2 h3 h4 h5 => h v c2 h1 (h2.trans e) (s.trans h3) h4 (tr _ _ _ _ _ s h5)
  | exc C fs S' => exact ExcP.later (n := n) (W := W) h s e
  | bad => exact h
theorem Out.bind {c : Cf} {m : M β} {k : β → M α} {Q : γ → Hp → Prop} {Q1 : γ1 → Hp → Prop} (tr : Trans P) (o : Out n W P c ((m >>= k) c.S) Q)
    (h : ∀ v c' a, c'.σ = c.σ → Stp c c' → Ok n c' → P1 c c' v a → Out n W P c' (k a c'.S) Q → Q1 v c'.H) : Out n W P1 c (m c.S) Q1 := by
  have o : Out n W P c (M.bind m k c.S) Q := o
  unfold M.bind at o
  cases e : m c.S with
  | ok a S' =>
    rw [e] at o
    exact fun v c' h1 h2 h3 h4 h5 => h v c' a h2 h3 h4 h5 (by rw [h1]; exact Out.later tr o h3 h2)
  | exc C fs S' => rw [e] at o; exact o
  | bad => rw [e] at o; exact o
theorem Out.imp {c : Cf} {r : Res α} {Q Q' : γ → Hp → Prop} (h : Out n W P c r Q) (q : ∀ v H, Q v H → Q' v H) : Out n W P c r Q' := by
  cases r with
  | ok x S' => exact fun v c2 h1 h2 h3 h4 h5 => q _ _ (h v c2 h1 h2 h3 h4 h5)
  | exc C fs S' => exact h
  | bad => exact h
/-- an outcome that is there -/
theorem Out.fin {c : Cf} {x : α} {v : γ} {Q : γ → Hp → Prop} (h : Out n W P c (.ok x c.S) Q) (k : Ok n c) (p : P c c v x) : Q v c.H := h v c rfl rfl (Stp.refl c) k p
theorem Out.to {c c' : Cf} {x : α} {S' : S} {v : γ} {Q : γ → Hp → Prop} (h : Out n W P c (.ok x S') Q) (e : c'.S = S') (eσ : c'.σ = c.σ) (s : Stp c c') (k : Ok n c') (p : P c c' v x) : Q v c'.H := h v c' e eσ s k p
theorem Out.not_bad {c : Cf} {Q : γ → Hp → Prop} {R : Prop} (h : Out n W P c .bad Q) : R := False.elim h
end
section
variable {X : Cx}
theorem _root_.L2.PE.imp {e : Expr} {t t' : TE} (h : PE X e t) (q : ∀ σ H Q, t' σ H Q → t σ H Q) : PE X e t' := ⟨fun pins s σ H Q I hw => h.run pins s σ H Q I (q σ H Q hw)⟩
theorem _root_.L2.PT.imp {e : Expr} {t t' : TT} (h : PT X e t) (q : ∀ σ H Q, t' σ H Q → t σ H Q) : PT X e t' := ⟨fun pins s σ H Q I hw => h.run pins s σ H Q I (q σ H Q hw)⟩
theorem _root_.L2.PS.imp {e : Stmt} {t t' : TS} (h : PS X e t) (q : ∀ D σ H, t' D σ H → t D σ H) : PS X e t' := ⟨fun pins s σ H D I hw => h.run pins s σ H D I (q D σ H hw)⟩
theorem _root_.L2.PSs.imp {e : List Stmt} {t t' : TS} (h : PSs X e t) (q : ∀ D σ H, t' D σ H → t D σ H) : PSs X e t' := ⟨fun pins s σ H D I hw => h.run pins s σ H D I (q D σ H hw)⟩
theorem _root_.L2.PA.imp {e : List Expr} {t t' : TA} (h : PA X e t) (q : ∀ σ H Q, t' σ H Q → t σ H Q) : PA X e t' := ⟨fun pos pins s σ H Q I hw => h.run pos pins s σ H Q I (q σ H Q hw)⟩

/-- own results are shared from here on -/
def dM (f : M L) : M D := do let x ← f; pure x.d
theorem OIs.freeze {c c' : Cf} {v : V} {x : L} (k : Ok n c') (s : Stp c c') (r : RV n c c' v x) : ∃ F', let c2 : Cf := { c' with F := F' }; Stp c c2 ∧ Ok n c2 ∧ Is n c2.F c2.φ v x.d := by
  obtain ⟨F', h1, h2, h3, h4⟩ := r.is.frozen k.sub
  have hm : ∀ a, Mut c' a → F' a = none := fun a m => by
    cases q : F' a with
    | none => rfl
    | some u =>
      rcases h4 a (by rw [q]; simp) with z | ⟨o, z⟩
      · rcases m with ⟨i, y, e1, e2, e3⟩ | m
        · obtain ⟨w, e4, e5⟩ := k.sl i y e1
          rw [e3] at e4; cases e4
          obtain ⟨_, ee, hf, _⟩ := e5.at e2
          cases ee
          exact absurd hf z
        · exact absurd (k.fφ a m) z
      · obtain ⟨n1, _⟩ := r.own o a z
        rcases m with m | m
        · exact absurd m n1
        · obtain ⟨_, ee, _, hn, _⟩ := r.is.at o
          rw [z] at ee; cases ee
          exact absurd m hn
  refine ⟨F', ?_, k.grow h1 h2 hm, h3⟩
  refine ⟨s.F.trans h1, s.H, fun b hb => ?_, fun b hb => s.mono b (by
    rcases hb with ⟨i, y, e1, e2, e3⟩ | m
    · exact .inl ⟨i, y, e1, e2, e3⟩
    · exact .inr m), s.there, s.φ, s.an⟩
  rcases h4 b hb with z | ⟨o, z⟩
  · exact s.new b z
  · obtain ⟨_, h⟩ := r.own o b z
    exact .inr h
theorem be_x {e : Expr} {f : M L} (h : PE X e (tO n W f)) : PE X e (tX n W (dM f)) := h.imp fun σ H Q ⟨c, e1, e2, k, o⟩ => by
  refine ⟨c, e1, e2, k, ?_⟩
  have o : Out n W (PX n) c (M.bind f (fun x => pure x.d) c.S) Q := o
  unfold M.bind at o
  cases q : f c.S with
  | ok x S' =>
    rw [q] at o
    exact fun v c' h1 h2 s k' r => by
      obtain ⟨F', s2, k2, i2⟩ := OIs.freeze k' s r
      exact o v { c' with F := F' } h1 h2 s2 k2 i2
  | exc C fs S' => rw [q] at o; exact o
  | bad => rw [q] at o; exact o
/-- a shared result, as one -/
def sM (f : M D) : M L := do let d ← f; pure (.sh d)
theorem OIs.sh {c : Cf} {v : V} {d : D} (h : Is n c.F c.φ v d) : OIs n c v (.sh d) := h
theorem be_o {e : Expr} {f : M D} (h : PE X e (tX n W f)) : PE X e (tO n W (sM f)) := h.imp fun σ H Q ⟨c, e1, e2, k, o⟩ =>
  ⟨c, e1, e2, k, Out.bind trO o fun v c' a hσ s k' r o' => o'.fin k' ⟨OIs.sh r, fun o => by cases o⟩⟩
theorem be_w {e : Expr} {f : M L} (h : PE X e (tO n W f)) : PE X e (tW n W f) := h.imp fun σ H Q ⟨c, e1, e2, k, o⟩ => by
  refine ⟨c, e1, e2, k, ?_⟩
  cases q : f c.S with
  | ok x S' => rw [q] at o; exact fun v c' h1 h2 s k' r => o v c' h1 h2 s k' r.is
  | exc C fs S' => rw [q] at o; exact o
  | bad => rw [q] at o; exact o
theorem be_xw {e : Expr} {f : M D} (h : PE X e (tX n W f)) : PE X e (tW n W (sM f)) := be_w (be_o h)

/-! ### names and constants -/
/-- a slot's value, shared from now on -/
def escN (i : Nat) : M D := fun s => match s.sl[i]? with
  | some (some x) => .ok x.d { s with sl := s.sl.set i (some (.sh x.d)) }
  | _ => .bad
/-- a slot as it is -/
def slN (i : Nat) : M L := fun s => match s.sl[i]? with
  | some (some x) => .ok x s
  | _ => .bad
section
variable {i : Nat} {x : Str} {pos : Pos}
theorem be_name (hN : X.N[i]? = some x) (hv : Vis X.env.scope x) (hd : (x == ("__debug__" : Str)) = false := by decide) (hcd : (x == ("__classdict__" : Str)) = false := by decide) : PE X (.Name x pos) (tX n W (escN i)) :=
  (pe_var hN hv hd hcd).imp fun σ H Q ⟨c, e1, e2, k, o⟩ => by
    subst e1 e2
    unfold escN at o
    cases e : c.S.sl[i]? with
    | none => rw [e] at o; exact o.not_bad
    | some y =>
      cases y with
      | none => rw [e] at o; exact o.not_bad
      | some y =>
        rw [e] at o
        obtain ⟨v, F', h1, h2, h3, h4⟩ := k.escape e
        exact ⟨v, h1, o v { c with S := { c.S with sl := c.S.sl.set i (some (.sh y.d)) }, F := F' } rfl rfl h2 h3 h4⟩
theorem be_nameW (hN : X.N[i]? = some x) (hv : Vis X.env.scope x) (hd : (x == ("__debug__" : Str)) = false := by decide) (hcd : (x == ("__classdict__" : Str)) = false := by decide) : PE X (.Name x pos) (tW n W (slN i)) :=
  (pe_var hN hv hd hcd).imp fun σ H Q ⟨c, e1, e2, k, o⟩ => by
    subst e1 e2
    unfold slN at o
    cases e : c.S.sl[i]? with
    | none => rw [e] at o; exact o.not_bad
    | some y =>
      cases y with
      | none => rw [e] at o; exact o.not_bad
      | some y =>
        rw [e] at o
        obtain ⟨v, h1, h2⟩ := k.sl i y e
        exact ⟨v, h1, o v c rfl rfl (Stp.refl c) k h2⟩
/-- a constant value -/
def isC (d : D) : V → Prop
  | .non => d = .non
  | .bl b => d = .bl b
  | .int i => d = .int i
  | .str x => d = .str x
  | _ => False
theorem be_c {e : Expr} {v : V} {d : D} (h : PE X e (tC v)) (i : ∀ F φ, Is n F φ v d) : PE X e (tX n W (pure d)) := h.imp fun σ H Q ⟨c, e1, e2, k, o⟩ => by
  subst e1 e2
  exact o.fin k (i _ _)
theorem be_int {z : Int} {j : Nat} : PE X (.Constant (.int z) j pos) (tX n W (pure (.int z))) := be_c pe_int fun _ _ => .int z
theorem be_bl {b : Bool} {j : Nat} : PE X (.Constant (.bool b) j pos) (tX n W (pure (.bl b))) := be_c pe_bl fun _ _ => .bl b
theorem be_non {j : Nat} : PE X (.Constant .none j pos) (tX n W (pure .non)) := be_c pe_non fun _ _ => .non
theorem be_str {z : Str} {j : Nat} : PE X (.Constant (.str z) j pos) (tX n W (pure (.str z))) := be_c pe_str fun _ _ => .str z
end

/-! ### operators -/
/-- g tells by value what r asks -/
def OpS (n : Nm) (W : WX) (r : R2) (g : D → D → M L) : Prop := ∀ (c : Cf) (x y : V) (d e : D) (Q : VK), Ok n c → Is n c.F c.φ x d → Is n c.F c.φ y e → Out n W (RV n) c (g d e c.S) Q → r x y c.H Q
def bin2 (fa fb : M D) (g : D → D → M L) : M L := do let x ← fa; let y ← fb; g x y
section
variable {a b : Expr} {fa fb : M D} {pos : Pos}
theorem be_tOp {r : R2} {g : D → D → M L} (h : OpS n W r g) {σ : L2.St} {H : Hp} {Q : VK} (o : tO n W (bin2 fa fb g) σ H Q) : tOp r (tX n W fa) (tX n W fb) σ H Q := by
  obtain ⟨c, rfl, rfl, k, o⟩ := o
  refine ⟨c, rfl, rfl, k, Out.bind (P1 := PX n) trO o fun x c1 d e1 s1 k1 i1 o1 => ?_⟩
  refine ⟨c1, e1, rfl, k1, Out.bind (P1 := PX n) trO o1 fun y c2 e e2 s2 k2 i2 o2 => ?_⟩
  exact h c2 x y d e Q k2 (s2.is i1) i2 o2
theorem be_op {op : Operator} {r : R2} {g : D → D → M L} (ho : OpR X (binaryOp op) r) (h : OpS n W r g) (ha : PE X a (tX n W fa)) (hb : PE X b (tX n W fb)) : PE X (.BinOp a op b pos) (tO n W (bin2 fa fb g)) :=
  (pe_op ho ha hb).imp fun _ _ _ o => be_tOp h o
theorem be_cmp {op : CmpOp} {r : R2} {g : D → D → M L} (ho : OpR X (compareOp op) r) (h : OpS n W r g) (ha : PE X a (tX n W fa)) (hb : PE X b (tX n W fb)) (hm : behindInMarks op b = false) : PE X (.Compare a [op] [b] pos) (tO n W (bin2 fa fb g)) :=
  (pe_cmpR ho ha hb hm).imp fun _ _ _ o => be_tOp h o
end
theorem is_int {F : Hp} {φ : List Addr} {x : V} {i : Int} (h : Is n F φ x (.int i)) : x = .int i := by cases h; rfl
theorem is_bl {F : Hp} {φ : List Addr} {x : V} {i : Bool} (h : Is n F φ x (.bl i)) : x = .bl i := by cases h; rfl
theorem is_str {F : Hp} {φ : List Addr} {x : V} {i : Str} (h : Is n F φ x (.str i)) : x = .str i := by cases h; rfl
theorem is_tup {F : Hp} {φ : List Addr} {x : V} {ds : List D} (h : Is n F φ x (.tup ds)) : ∃ a vs, x = .ref a ∧ SqT n.K F a vs ∧ IsL n F φ vs ds := by
  cases h with
  | tup h t => exact ⟨_, _, rfl, h, t⟩
theorem is_lst {F : Hp} {φ : List Addr} {x : V} {ds : List D} (h : Is n F φ x (.lst ds)) : ∃ a vs, x = .ref a ∧ F a = some (.lst vs) ∧ IsL n F φ vs ds := by
  cases h with
  | lst h t => exact ⟨_, _, rfl, h, t⟩
/-- a shared end -/
theorem Out.sh {c : Cf} {d : D} {v : V} {Q : VK} (h : Out n W (RV n) c (.ok (.sh d) c.S) Q) (k : Ok n c) (i : Is n c.F c.φ v d) : Q v c.H := h.fin k ⟨OIs.sh i, fun o => by cases o⟩
/-- an end that is a new tuple -/
theorem Out.newTup {c : Cf} {ds : List D} {vs : List V} {p : Addr} {Q : VK} (h : Out n W (RV n) c (.ok (.sh (.tup ds)) c.S) Q) (k : Ok n c) (i : IsL n c.F c.φ vs ds) (hp : c.H p = none) : Q (.ref p) (upd c.H p (.tup vs)) := by
  obtain ⟨k2, s2⟩ := k.allocF (o := .tup vs) hp
  exact h.to (c' := { c with H := upd c.H p (.tup vs), F := upd c.F p (.tup vs) }) rfl rfl s2 k2 ⟨OIs.sh (.tup (.of upd_same) (s2.isL i)), fun o => by cases o⟩
/-- an end that is a new list, own -/
theorem Out.newLst {c : Cf} {ds : List D} {vs : List V} {p : Addr} {Q : VK} (h : Out n W (RV n) c (.ok (.ol ds) c.S) Q) (k : Ok n c) (i : IsL n c.F c.φ vs ds) (hp : c.H p = none) : Q (.ref p) (upd c.H p (.lst vs)) := by
  obtain ⟨k2, s2, h1, h2, h3⟩ := k.alloc (o := .lst vs) hp
  refine h.to (c' := { c with H := upd c.H p (.lst vs) }) rfl rfl s2 k2 ⟨⟨p, vs, rfl, upd_same, h2, h1, s2.isL i⟩, fun _ a e => ?_⟩
  cases e
  exact ⟨fun ⟨j, y, a1, a2, a3⟩ => h3 ⟨j, y, a1, a2, a3⟩, .inl hp⟩

/-- whole numbers alone -/
def gI (C : Int → Int → Bool) (f : Int → Int → D) : D → D → M L
  | .int i, .int j => if C i j then pure (.sh (f i j)) else bad
  | _, _ => bad
theorem ops_I {r : R2} {C : Int → Int → Bool} {f : Int → Int → D} {C' : Int → Int → Prop} {f' : Int → Int → V} (hr : ∀ i j H Q, C' i j → Q (f' i j) H → r (.int i) (.int j) H Q) (hC : ∀ i j, C i j = true → C' i j) (hf : ∀ i j F φ, Is n F φ (f' i j) (f i j)) :
    OpS n W r (gI C f) := fun c x y d e Q k hi hj o => by
  unfold gI at o
  split at o
  · rename_i i j
    rw [is_int hi, is_int hj]
    split at o
    · rename_i hc
      exact hr i j _ _ (hC i j hc) (o.sh k (hf i j _ _))
    · exact o.not_bad
  · exact o.not_bad
def lineN : Nat := 16777216
theorem lineN_eq : sizeLine = lineN := sizeLine_eq
/-! #### + -/
def gAdd : D → D → M L
  | .int i, .int j => pure (.sh (.int (i + j)))
  | .tup xs, .tup ys => if xs.length + ys.length ≤ lineN then pure (.sh (.tup (xs ++ ys))) else bad
  | .lst xs, .lst ys => if xs.length + ys.length ≤ lineN then pure (.ol (xs ++ ys)) else bad
  | .str x, .str y => if x.length + y.length ≤ lineN then pure (.sh (.str (x ++ y))) else bad
  | _, _ => bad
def rAddA (K : PySem.W.Frag) : R2 := fun x y H Q => rI0 (fun i j => .int (i + j)) x y H Q ∨ rCatA K x y H Q ∨ rCat x y H Q ∨ ∃ i j, x = .str i ∧ y = .str j ∧ i.length + j.length ≤ sizeLine ∧ Q (.str (i ++ j)) H
theorem op_addA : OpR X (binaryOp .Add) (rAddA X.K) := op_add.or (op_catA.or (op_cat.or op_add_str))
theorem ops_add : OpS n W (rAddA n.K) gAdd := fun c x y d e Q k hi hj o => by
  unfold gAdd at o
  split at o
  · rw [is_int hi, is_int hj]
    exact .inl ⟨_, _, rfl, rfl, o.sh k (.int _)⟩
  · obtain ⟨a, vs, rfl, h1, h2⟩ := is_tup hi
    obtain ⟨b, ws, rfl, h3, h4⟩ := is_tup hj
    split at o
    · rename_i hz
      refine .inr (.inl ⟨a, b, vs, ws, rfl, rfl, k.sub.seqT h1, k.sub.seqT h3, by rw [h2.length, h4.length, lineN_eq]; exact hz, fun e => ?_, fun _ e => ?_, fun _ _ p hp => o.newTup k (h2.append h4) hp⟩)
      · subst e
        cases h2
        rw [List.nil_append] at o
        exact o.sh k hj
      · subst e
        cases h4
        rw [List.append_nil] at o
        exact o.sh k hi
    · exact o.not_bad
  · obtain ⟨a, vs, rfl, h1, h2⟩ := is_lst hi
    obtain ⟨b, ws, rfl, h3, h4⟩ := is_lst hj
    split at o
    · rename_i hz
      exact .inr (.inr (.inl ⟨a, b, vs, ws, rfl, rfl, k.sub _ _ h1, k.sub _ _ h3, by rw [h2.length, h4.length, lineN_eq]; exact hz, fun p hp => o.newLst k (h2.append h4) hp⟩))
    · exact o.not_bad
  · rw [is_str hi, is_str hj]
    split at o
    · rename_i hz
      exact .inr (.inr (.inr ⟨_, _, rfl, rfl, by rw [lineN_eq]; exact hz, o.sh k (.str _)⟩))
    · exact o.not_bad
  · exact o.not_bad
/-! #### -, *, //, %, ** -/
def gSub : D → D → M L := gI (fun _ _ => true) fun i j => .int (i - j)
theorem ops_sub : OpS n W (rI0 fun i j => .int (i - j)) gSub := ops_I (C' := fun _ _ => True) (fun i j _ _ _ q => ⟨i, j, rfl, rfl, q⟩) (fun _ _ _ => trivial) fun _ _ _ _ => .int _
def gMul : D → D → M L
  | .int i, .int j => if decide (-(2 ^ 64) < i) && decide (i < 2 ^ 64) || decide (-(2 ^ 64) < j) && decide (j < 2 ^ 64) then pure (.sh (.int (i * j))) else bad
  | .lst xs, .int j => if decide (-(2 ^ 63) ≤ j) && decide (j < 2 ^ 63) && decide (xs.length * j.toNat ≤ lineN) then pure (.ol (List.replicate j.toNat xs).flatten) else bad
  | .tup xs, .int j => if decide (0 < xs.length) && decide (-(2 ^ 62) ≤ j) && decide (j ≤ 1000) && decide (xs.length ≤ 1000) then pure (.sh (.tup (List.replicate j.toNat xs).flatten)) else bad
  | _, _ => bad
def rMulA (K : PySem.W.Frag) : R2 := fun x y H Q => rI CMul (fun i j => .int (i * j)) x y H Q ∨ rRep x y H Q ∨ rRepT K x y H Q ∨ rRepN K x y H Q
theorem op_mulA : OpR X (binaryOp .Mult) (rMulA X.K) := op_mul.or (op_rep.or (op_repT.or op_repN))
theorem IsL.rep {F : Hp} {φ : List Addr} {vs : List V} {ds : List D} (h : IsL n F φ vs ds) : ∀ k : Nat, IsL n F φ (List.replicate k vs).flatten (List.replicate k ds).flatten
  | 0 => .nil
  | k + 1 => by
    rw [List.replicate_succ, List.replicate_succ, List.flatten_cons, List.flatten_cons]
    exact h.append (IsL.rep h k)
theorem ops_mul : OpS n W (rMulA n.K) gMul := fun c x y d e Q k hi hj o => by
  unfold gMul at o
  split at o
  · rw [is_int hi, is_int hj]
    split at o
    · rename_i hz
      refine .inl ⟨_, _, rfl, rfl, ?_, o.sh k (.int _)⟩
      simpa [CMul, Bool.or_eq_true, Bool.and_eq_true] using hz
    · exact o.not_bad
  · obtain ⟨a, vs, rfl, h1, h2⟩ := is_lst hi
    rw [is_int hj]
    split at o
    · rename_i hz
      simp only [Bool.and_eq_true, decide_eq_true_eq] at hz
      exact .inr (.inl ⟨a, _, vs, rfl, rfl, k.sub _ _ h1, hz.1.1, hz.1.2, by rw [h2.length, lineN_eq]; exact hz.2, fun p hp => o.newLst k (h2.rep _) hp⟩)
    · exact o.not_bad
  · obtain ⟨a, vs, rfl, h1, h2⟩ := is_tup hi
    rw [is_int hj]
    split at o
    · rename_i hz
      simp only [Bool.and_eq_true, decide_eq_true_eq] at hz
      have hvs : vs ≠ [] := fun z => by
        have := h2.length
        rw [z, List.length_nil] at this
        omega
      rename_i xs jj
      by_cases hj2 : 2 ≤ jj
      · exact .inr (.inr (.inl ⟨a, _, vs, rfl, rfl, k.sub.seqT h1, hvs, hj2, hz.1.2, by rw [h2.length]; exact hz.2, fun p hp => o.newTup k (h2.rep _) hp⟩))
      · refine .inr (.inr (.inr ⟨a, _, vs, rfl, rfl, k.sub.seqT h1, hvs, hz.1.1.2, by omega, fun e => ?_, fun e p hp => ?_⟩))
        · subst e
          simp only [Int.toNat_one, List.replicate_succ, List.replicate_zero, List.flatten_cons, List.flatten_nil, List.append_nil] at o
          exact o.sh k (.tup h1 h2)
        · rw [show jj.toNat = 0 by omega] at o
          exact o.newTup k .nil hp
    · exact o.not_bad
  · exact o.not_bad
def gFdv : D → D → M L := gI (fun _ j => decide (0 < j) && decide (j < 1073741824)) fun i j => .int (i / j)
theorem ops_fdv : OpS n W (rI CDiv fun i j => .int (i / j)) gFdv := ops_I (C' := CDiv) (fun i j _ _ c q => ⟨i, j, rfl, rfl, c, q⟩) (fun i j h => by
  simp only [Bool.and_eq_true, decide_eq_true_eq] at h
  exact h) fun _ _ _ _ => .int _
def gMod : D → D → M L := gI (fun _ j => decide (0 < j)) fun i j => .int (i % j)
theorem ops_mod : OpS n W (rI (fun _ j => 0 < j) fun i j => .int (i % j)) gMod := ops_I (C' := fun _ j => 0 < j) (fun i j _ _ c q => ⟨i, j, rfl, rfl, c, q⟩) (fun i j h => of_decide_eq_true h) fun _ _ _ _ => .int _
def gPow : D → D → M L := gI (fun i j => decide (0 ≤ j) && decide (j ≤ 1000000) && decide (i.natAbs < 2 ^ 64)) fun i j => .int (i ^ j.toNat)
theorem ops_pow : OpS n W (rI CPow fun i j => .int (i ^ j.toNat)) gPow := ops_I (C' := CPow) (fun i j _ _ c q => ⟨i, j, rfl, rfl, c, q⟩) (fun i j h => by
  simp only [Bool.and_eq_true, decide_eq_true_eq] at h
  exact ⟨h.1.1, h.1.2, h.2⟩) fun _ _ _ _ => .int _
/-! #### comparisons of numbers -/
def gCmp (p : Int → Int → Bool) : D → D → M L := gI (fun _ _ => true) fun i j => .bl (p i j)
theorem ops_cmp (p : Int → Int → Bool) : OpS n W (rI0 fun i j => .bl (p i j)) (gCmp p) := ops_I (C' := fun _ _ => True) (fun i j _ _ _ q => ⟨i, j, rfl, rfl, q⟩) (fun _ _ _ => trivial) fun _ _ _ _ => .bl _
end
end Bv

/-! data: ==, in, is -/
namespace Bv
open PySem PySem.Spec PyProof.Rows L2
mutual
/-- as plain data -/
def D.py : D → Option PyData
  | .non => some .none
  | .bl b => some (.bool b)
  | .int i => some (.int i)
  | .str x => some (.str x)
  | .lst xs => (pyL xs).map .list
  | .tup xs => (pyL xs).map .tuple
  | _ => none
def pyL : List D → Option (List PyData)
  | [] => some []
  | d :: ds => match D.py d, pyL ds with
    | some p, some ps => some (p :: ps)
    | _, _ => none
end
variable {n : Nm} {W : WX}
mutual
theorem Is.dp {F H : Hp} {φ : List Addr} (s : Sub F H) : ∀ {v : V} {d : D} {p : PyData}, Is n F φ v d → d.py = some p → Dp n.K H v p
  | _, _, _, .non, e => by cases e; exact .non
  | _, _, _, .bl b, e => by cases e; exact .bl b
  | _, _, _, .int i, e => by cases e; exact .int i
  | _, _, _, .str x, e => by cases e; exact .str x
  | _, .lst ds, p, .lst h t, e => by
    unfold D.py at e
    cases q : pyL ds with
    | none => rw [q] at e; cases e
    | some ps => rw [q] at e; cases e; exact .lst (.of (s _ _ h)) (IsL.dp s t q)
  | _, .tup ds, p, .tup h t, e => by
    unfold D.py at e
    cases q : pyL ds with
    | none => rw [q] at e; cases e
    | some ps => rw [q] at e; cases e; exact .tup (s.seqT h) (IsL.dp s t q)
  | _, _, _, .dicK _ _, e => by cases e
  | _, _, _, .dicT _ _, e => by cases e
  | _, _, _, .inst _ _ _, e => by cases e
  | _, _, _, .fn _, e => by cases e
  | _, _, _, .mref _, e => by cases e
  | _, _, _, .scr _ _, e => by cases e
theorem IsL.dp {F H : Hp} {φ : List Addr} (s : Sub F H) : ∀ {vs : List V} {ds : List D} {ps : List PyData}, IsL n F φ vs ds → pyL ds = some ps → DpAll n.K H vs ps
  | _, _, _, .nil, e => by cases e; exact .nil
  | _, d :: ds, ps, .cons h t, e => by
    unfold pyL at e
    cases q : D.py d with
    | none => rw [q] at e; cases e
    | some p =>
      cases q2 : pyL ds with
      | none => rw [q, q2] at e; cases e
      | some ps => rw [q, q2] at e; cases e; exact .cons (Is.dp s h q) (IsL.dp s t q2)
end
/-- == by value, None where it is not known -/
def eqD (d e : D) : Option Bool := match d.py, e.py with
  | some p, some q => if SeqAt.shaped p && SeqAt.shaped q then some (PyData.eqv p q) else none
  | _, _ => none
def gEq (d e : D) : M L := match eqD d e with
  | some b => pure (.sh (.bl b))
  | none => bad
def gNe (d e : D) : M L := match eqD d e with
  | some b => pure (.sh (.bl !b))
  | none => bad
theorem eqD_some {d e : D} {b : Bool} (h : eqD d e = some b) : ∃ p q, d.py = some p ∧ e.py = some q ∧ SeqAt.shaped p = true ∧ SeqAt.shaped q = true ∧ PyData.eqv p q = b := by
  unfold eqD at h
  split at h
  · rename_i p q h1 h2
    split at h
    · rename_i h3
      rw [Bool.and_eq_true] at h3
      exact ⟨p, q, h1, h2, h3.1, h3.2, Option.some.inj h⟩
    · cases h
  · cases h
theorem ops_eq : OpS n W (rEqD n.K) gEq := fun c x y d e Q k hi hj o => by
  unfold gEq at o
  cases hb : eqD d e with
  | some b =>
    rw [hb] at o
    obtain ⟨p, q, h1, h2, h3, h4, rfl⟩ := eqD_some hb
    exact ⟨p, q, hi.dp k.sub h1, hj.dp k.sub h2, h3, h4, o.sh k (.bl _)⟩
  | none => rw [hb] at o; exact o.not_bad
theorem ops_ne : OpS n W (rNeD n.K) gNe := fun c x y d e Q k hi hj o => by
  unfold gNe at o
  cases hb : eqD d e with
  | some b =>
    rw [hb] at o
    obtain ⟨p, q, h1, h2, h3, h4, rfl⟩ := eqD_some hb
    exact ⟨p, q, hi.dp k.sub h1, hj.dp k.sub h2, h3, h4, o.sh k (.bl _)⟩
  | none => rw [hb] at o; exact o.not_bad
/-- is there an equal one -/
def inD (d : D) : D → Option Bool
  | .lst es => (match d.py, pyL es with
    | some p, some qs => if SeqAt.shaped p && SeqAt.shaped (.list qs) then some (qs.any fun z => PyData.eqv z p) else none
    | _, _ => none)
  | .tup es => (match d.py, pyL es with
    | some p, some qs => if SeqAt.shaped p && SeqAt.shaped (.tuple qs) then some (qs.any fun z => PyData.eqv z p) else none
    | _, _ => none)
  | _ => none
/-- x in t, a tuple -/
def rInT (K : PySem.W.Frag) (neg : Bool) : R2 := fun x y H Q => ∃ d ds, Dp K H x d ∧ Dp K H y (.tuple ds) ∧ SeqAt.shaped d = true ∧ SeqAt.shaped (.tuple ds) = true ∧ Q (.bl (if neg then !ds.any fun z => PyData.eqv z d else ds.any fun z => PyData.eqv z d)) H
section
variable {X : Cx}
theorem op_inT (hu : X.A.units + 65 < cLine) : OpR X (compareOp .In) (rInT X.K false) := by
  intro pins s σ H x y v u Q I rx ry h
  obtain ⟨d, ds, hd, he, sd, se, q⟩ := h
  obtain ⟨as, r1⟩ := Dp.reads I d x v hd rx
  obtain ⟨bs, r2⟩ := Dp.reads I (.tuple ds) y u he ry
  exact SeqAt.in_tuple_reads r2 r1 (SeqAt.canLay_of_shaped se) (SeqAt.canLay_of_shaped sd) (room_in_shaped sd hu) ⟨.bl _, H, I, rfl, q⟩
theorem op_notInT (hu : X.A.units + 65 < cLine) : OpR X (compareOp .NotIn) (rInT X.K true) := by
  intro pins s σ H x y v u Q I rx ry h
  obtain ⟨d, ds, hd, he, sd, se, q⟩ := h
  obtain ⟨as, r1⟩ := Dp.reads I d x v hd rx
  obtain ⟨bs, r2⟩ := Dp.reads I (.tuple ds) y u he ry
  exact SeqAt.notIn_tuple_reads r2 r1 (SeqAt.canLay_of_shaped se) (SeqAt.canLay_of_shaped sd) (room_in_shaped sd hu) ⟨.bl _, H, I, rfl, q⟩
/-! ### is -/
def rIsP (neg : Bool) : R2 := fun x y H Q => (y = .non ∨ ∃ b, y = .bl b) ∧ Q (.bl (if neg then !decide (x = y) else decide (x = y))) H
theorem relV_isP {x y : V} {v u : Value} (hy : y = .non ∨ ∃ b, y = .bl b) (rx : RelV x v) (ry : RelV y u) : plainIs v u = true ∧ (v == u) = decide (x = y) := by
  rcases hy with rfl | ⟨b, rfl⟩
  · cases ry
    cases x <;> first
      | (cases rx; exact ⟨rfl, rfl⟩)
      | (obtain ⟨t, rfl⟩ := rx; exact ⟨rfl, rfl⟩)
  · cases ry
    cases x <;> first
      | (cases rx; exact ⟨rfl, rfl⟩)
      | (cases rx; exact ⟨rfl, by rw [dec_bl]; rename_i a; cases a <;> cases b <;> rfl⟩)
      | (obtain ⟨t, rfl⟩ := rx; exact ⟨rfl, rfl⟩)
theorem op_isP : OpR X (compareOp .Is) (rIsP false) := by
  intro pins s σ H x y v u Q I rx ry h
  obtain ⟨hy, q⟩ := h
  obtain ⟨h1, h2⟩ := relV_isP hy rx ry
  exact wpAny_is_plain h1 ⟨.bl _, H, I, by rw [h2]; rfl, q⟩
theorem op_isNotP : OpR X (compareOp .IsNot) (rIsP true) := by
  intro pins s σ H x y v u Q I rx ry h
  obtain ⟨hy, q⟩ := h
  obtain ⟨h1, h2⟩ := relV_isP hy rx ry
  exact wpAny_isNot_plain h1 ⟨.bl _, H, I, by rw [h2]; rfl, q⟩
end
def isD : D → D → Option Bool
  | .non, .non => some true
  | .bl a, .bl b => some (a == b)
  | _, .non => some false
  | _, .bl _ => some false
  | _, _ => none
def gIs (neg : Bool) (d e : D) : M L := match isD d e with
  | some b => pure (.sh (.bl (if neg then !b else b)))
  | none => bad
theorem isD_some {d e : D} {b : Bool} {F : Hp} {φ : List Addr} {x y : V} (h : isD d e = some b) (hx : Is n F φ x d) (hy : Is n F φ y e) : (y = .non ∨ ∃ b, y = .bl b) ∧ decide (x = y) = b := by
  unfold isD at h
  split at h
  · cases hx; cases hy; cases h; exact ⟨.inl rfl, rfl⟩
  · cases hx; cases hy; cases h; exact ⟨.inr ⟨_, rfl⟩, dec_bl⟩
  · cases hy
    cases h
    refine ⟨.inl rfl, decide_eq_false fun z => ?_⟩
    subst z
    cases hx
    simp_all
  · cases hy
    cases h
    refine ⟨.inr ⟨_, rfl⟩, decide_eq_false fun z => ?_⟩
    subst z
    cases hx
    simp_all
  · cases h
theorem ops_is (neg : Bool) : OpS n W (rIsP neg) (gIs neg) := fun c x y d e Q k hi hj o => by
  unfold gIs at o
  cases hb : isD d e with
  | some b =>
    rw [hb] at o
    obtain ⟨h1, h2⟩ := isD_some hb hi hj
    refine ⟨h1, ?_⟩
    rw [h2]
    exact o.sh k (.bl _)
  | none => rw [hb] at o; exact o.not_bad
def gIn (neg : Bool) (d e : D) : M L := match inD d e with
  | some b => pure (.sh (.bl (if neg then !b else b)))
  | none => bad
def rInA (K : PySem.W.Frag) (neg : Bool) : R2 := fun x y H Q => (if neg then rNotInD K x y H Q else rInD K x y H Q) ∨ rInT K neg x y H Q
theorem op_inA {X : Cx} (hu : X.A.units + 65 < cLine) : OpR X (compareOp .In) (rInA X.K false) := OpR.or (op_inD hu) (op_inT hu)
theorem op_notInA {X : Cx} (hu : X.A.units + 65 < cLine) : OpR X (compareOp .NotIn) (rInA X.K true) := OpR.or (op_notInD hu) (op_notInT hu)
theorem ops_in (neg : Bool) : OpS n W (rInA n.K neg) (gIn neg) := fun c x y d e Q k hi hj o => by
  unfold gIn at o
  cases hb : inD d e with
  | none => rw [hb] at o; exact o.not_bad
  | some b =>
    rw [hb] at o
    unfold inD at hb
    split at hb
    · rename_i es
      split at hb
      · rename_i p qs h1 h2
        split at hb
        · rename_i h3
          rw [Bool.and_eq_true] at h3
          cases hb
          have hl : (D.lst es).py = some (.list qs) := by unfold D.py; rw [h2]; rfl
          refine .inl ?_
          cases neg with
          | true => exact ⟨p, qs, hi.dp k.sub h1, hj.dp k.sub hl, h3.1, h3.2, o.sh k (.bl _)⟩
          | false => exact ⟨p, qs, hi.dp k.sub h1, hj.dp k.sub hl, h3.1, h3.2, o.sh k (.bl _)⟩
        · cases hb
      · cases hb
    · rename_i es
      split at hb
      · rename_i p qs h1 h2
        split at hb
        · rename_i h3
          rw [Bool.and_eq_true] at h3
          cases hb
          have hl : (D.tup es).py = some (.tuple qs) := by unfold D.py; rw [h2]; rfl
          refine .inr ⟨p, qs, hi.dp k.sub h1, hj.dp k.sub hl, h3.1, h3.2, ?_⟩
          cases neg with
          | true => exact o.sh k (.bl _)
          | false => exact o.sh k (.bl _)
        · cases hb
      · cases hb
    · cases hb
end Bv

/-! argument lists, displays, calls -/
namespace Bv
open PySem PySem.Spec PyProof.Rows L2
section
variable (n : Nm) (W : WX)
def PL : Cf → Cf → List V → List D → Prop := fun _ c' vs ds => IsL n c'.F c'.φ vs ds
def tA (f : M (List D)) : TA := fun σ H Q => ∃ c : Cf, c.σ = σ ∧ c.H = H ∧ Ok n c ∧ Out n W (PL n) c (f c.S) Q
end
variable {n : Nm} {W : WX} {X : Cx}
theorem trL : Trans (PL n) := fun _ _ _ _ _ _ h => h
def nilM : M (List D) := pure []
def consM (f : M D) (fs : M (List D)) : M (List D) := do let d ← f; let ds ← fs; pure (d :: ds)
theorem ba_nil : PA X [] (tA n W nilM) := pa_nil.imp fun σ H Q ⟨c, e1, e2, k, o⟩ => by
  subst e1 e2
  exact o [] c rfl rfl (Stp.refl c) k .nil
theorem ba_cons {e : Expr} {es : List Expr} {f : M D} {fs : M (List D)} (h : PE X e (tX n W f)) (hs : PA X es (tA n W fs)) (he : starEach (e :: es) X.env = (false, eval e X.env) :: starEach es X.env) : PA X (e :: es) (tA n W (consM f fs)) :=
  (pa_cons h hs he).imp fun σ H Q ⟨c, e1, e2, k, o⟩ => by
    subst e1 e2
    refine ⟨c, rfl, rfl, k, Out.bind (P1 := PX n) trL o fun x c1 d e1 s1 k1 i1 o1 => ?_⟩
    refine ⟨c1, e1, rfl, k1, Out.bind (P1 := PL n) trL o1 fun xs c2 ds e2 s2 k2 i2 o2 => ?_⟩
    exact o2 (x :: xs) c2 rfl rfl (Stp.refl c2) k2 (.cons (s2.is i1) i2)
/-- a tuple display -/
def gTup (ds : List D) : M L := if ds.length ≤ lineN then pure (.sh (.tup ds)) else bad
def gLst (ds : List D) : M L := if ds.length ≤ lineN then pure (.ol ds) else bad
def fnM (fs : M (List D)) (g : List D → M L) : M L := do let ds ← fs; g ds
theorem be_tup {es : List Expr} {k1 : Nat} {pos : Pos} {fs : M (List D)} (h : PA X es (tA n W fs)) : PE X (.Tuple es k1 pos) (tO n W (fnM fs gTup)) := (pe_tup h).imp fun σ H Q ⟨c, e1, e2, k, o⟩ => by
  subst e1 e2
  refine ⟨c, rfl, rfl, k, Out.bind (P1 := PL n) trO o fun vs c1 ds e1 s1 k1 i1 o1 => ?_⟩
  unfold gTup at o1
  split at o1
  · rename_i hz
    exact ⟨by rw [i1.length, lineN_eq]; exact hz, fun p hp => o1.newTup k1 i1 hp⟩
  · exact o1.not_bad
theorem be_lst {es : List Expr} {pos : Pos} {fs : M (List D)} (h : PA X es (tA n W fs)) : PE X (.List es pos) (tO n W (fnM fs gLst)) := (pe_lst h).imp fun σ H Q ⟨c, e1, e2, k, o⟩ => by
  subst e1 e2
  refine ⟨c, rfl, rfl, k, Out.bind (P1 := PL n) trO o fun vs c1 ds e1 s1 k1 i1 o1 => ?_⟩
  unfold gLst at o1
  split at o1
  · rename_i hz
    exact ⟨by rw [i1.length, lineN_eq]; exact hz, fun p hp => o1.newLst k1 i1 hp⟩
  · exact o1.not_bad
/-- a call's values -/
def CallS (n : Nm) (W : WX) (r : List V → Hp → VK → Prop) (g : List D → M L) : Prop := ∀ (c : Cf) (vs : List V) (ds : List D) (Q : VK), Ok n c → IsL n c.F c.φ vs ds → Out n W (RV n) c (g ds c.S) Q → r vs c.H Q
theorem be_tCB {r : List V → Hp → VK → Prop} {g : List D → M L} {fs : M (List D)} (h : CallS n W r g) {σ : L2.St} {H : Hp} {Q : VK} (o : tO n W (fnM fs g) σ H Q) : tCB r (tA n W fs) σ H Q := by
  obtain ⟨c, rfl, rfl, k, o⟩ := o
  exact ⟨c, rfl, rfl, k, Out.bind (P1 := PL n) trO o fun vs c1 ds e1 s1 k1 i1 o1 => h c1 vs ds Q k1 i1 o1⟩
section
variable {x : Str} {p pos : Pos} {e : Expr} {es : List Expr} {fs : M (List D)} {g : List D → M L} {r : List V → Hp → VK → Prop} {id T : String}
theorem be_callB (hc : CallR X (.builtin id) r) (h : CallS n W r g) (hg : Gl X x) (hm : X.mg x = none) (hv : bootBuiltins x = some (.builtin id)) (ha : PA X (e :: es) (tA n W fs)) (hn : x ≠ "__name__") (hdb : (x == ("__debug__" : Str)) = false)
    (he : starEach (e :: es) X.env = (false, eval e X.env) :: starEach es X.env) (hpl : (backTo pos (starEach es X.env)).any (·.1) = false) : PE X (.Call (.Name x p) (e :: es) [] pos) (tO n W (fnM fs g)) :=
  (pe_callB hc hg hm hv ha hn hdb he hpl).imp fun _ _ _ o => be_tCB h o
theorem be_callTy (hc : CallR X (.type T) r) (h : CallS n W r g) (hg : Gl X x) (hm : X.mg x = none) (hv : bootBuiltins x = some (.type T)) (ha : PA X (e :: es) (tA n W fs)) (hn : x ≠ "__name__") (hdb : (x == ("__debug__" : Str)) = false)
    (he : starEach (e :: es) X.env = (false, eval e X.env) :: starEach es X.env) (hpl : (backTo pos (starEach es X.env)).any (·.1) = false) : PE X (.Call (.Name x p) (e :: es) [] pos) (tO n W (fnM fs g)) :=
  (pe_callTy hc hg hm hv ha hn hdb he hpl).imp fun _ _ _ o => be_tCB h o
end

/-! ### defs of the text -/
abbrev FnS := List D → M L
/-- what a def by value promises: f tells the outcome from the arguments and the store -/
def OutF (n : Nm) (c : Cf) (r : Res L) (Q : VK) (E : XK) : Prop := match r with
  | .ok x S' => ∀ v c', c'.S = ⟨[], S'.st⟩ → c'.σ = [] → Stp c c' → Ok n c' → OIs n c' v x → (x.own = true → ∀ a, v = .ref a → c.H a = none) → Q v c'.H
  | .exc C fs S' => ∀ (Ca : Addr) (d : Option Addr) (c' : Cf), c'.S = ⟨[], S'.st⟩ → c'.σ = [] → Stp c c' → Ok n c' → n.cA C = some Ca → XD n c' d fs → E (.ref Ca) d c'.H
  | .bad => False
def spB (n : Nm) (m : Nat) (f : FnS) : Sp := fun vs H Q E => ∃ (c : Cf) (ds : List D), c.H = H ∧ c.σ = [] ∧ c.S.sl = [] ∧ Ok n c ∧ IsL n c.F c.φ vs ds ∧ vs.length = m ∧ OutF n c (f ds c.S) Q E

/-- the state without slots -/
def Cf.bare (c : Cf) : Cf := { c with S := ⟨[], c.S.st⟩, σ := [] }
theorem Ok.bare {c : Cf} (k : Ok n c) : Ok n c.bare where
  len := rfl
  sub := k.sub
  sl := fun i x e => by
    have e : ([] : List (Option L))[i]? = some (some x) := e
    simp at e
  dist := fun i j x y a _ e => by
    have e : ([] : List (Option L))[i]? = some (some x) := e
    simp at e
  nd := k.nd
  slen := k.slen
  st := fun j o a h1 h2 => by
    have := k.st j o a h1 h2
    cases o <;> exact this
  fφ := k.fφ
theorem mut_bare {c : Cf} {a : Addr} (m : Mut c.bare a) : a ∈ c.φ := by
  rcases m with ⟨i, x, e, _⟩ | m
  · have e : ([] : List (Option L))[i]? = some (some x) := e
    simp at e
  · exact m
/-- behind a call: the caller's slots again -/
theorem Ok.back {c c' : Cf} {st : List MO} (k : Ok n c) (s : Stp c.bare c') (k' : Ok n c') (e : c'.S = ⟨[], st⟩) : Ok n { c' with S := ⟨c.S.sl, st⟩, σ := c.σ } ∧ Stp c { c' with S := ⟨c.S.sl, st⟩, σ := c.σ } := by
  obtain ⟨ψ, hψ⟩ := s.φ
  have own : ∀ (i : Nat) (x : L), c.S.sl[i]? = some (some x) → x.own = true → ∀ a : Addr, c.σ[i]? = some (some (V.ref a)) → ¬ Mut c.bare a ∧ a ∉ c'.φ := fun i x e1 o a e2 => by
    obtain ⟨v, h1, h2⟩ := k.sl i x e1
    rw [e2] at h1; cases h1
    obtain ⟨_, ee, hf, hφ, u, hu, _⟩ := h2.at o
    cases ee
    refine ⟨fun m => hφ (mut_bare m), fun m => ?_⟩
    rcases s.mono a (.inr m) with z | z
    · exact hφ (mut_bare z)
    · have z : c.H a = none := z
      rw [hu] at z; cases z
  refine ⟨⟨k.len, k'.sub, fun i x e1 => ?_, k.dist, k'.nd, ?_, fun j o a h1 h2 => ?_, k'.fφ⟩, ⟨s.F, fun b o h m t => s.H b o h (fun z => m (.inr (mut_bare z))) t, fun b h => ?_, fun b h => ?_, s.there, ⟨ψ, hψ⟩, s.an⟩⟩
  · obtain ⟨v, h1, h2⟩ := k.sl i x e1
    refine ⟨v, h1, ?_⟩
    have h3 : OIs n c.bare v x := by cases x <;> exact h2
    have h4 := h3.step s fun o a ea => by subst ea; exact own i x e1 o a h1
    cases x <;> exact h4
  · have z := k'.slen
    rw [e] at z; exact z
  · have h1 : st[j]? = some o := h1
    have z := k'.st j o a (by rw [e]; exact h1) h2
    cases o <;> exact z
  · rcases s.new b h with z | z | z
    · exact .inl z
    · exact .inr (.inl z)
    · exact .inr (.inr (.inr (mut_bare z)))
  · rcases h with ⟨i, x, e1, e2, e3⟩ | h
    · exact .inl (.inl ⟨i, x, e1, e2, e3⟩)
    · rcases s.mono b (.inr h) with z | z
      · exact .inl (.inr (mut_bare z))
      · exact .inr z
/-- a call by value: the callee sees the store alone -/
def callM (f : FnS) (ds : List D) : M L := fun s => match f ds ⟨[], s.st⟩ with
  | .ok x s' => .ok x ⟨s.sl, s'.st⟩
  | .exc C fs s' => .exc C fs ⟨s.sl, s'.st⟩
  | .bad => .bad
theorem call_ok {f : FnS} {m : Nat} {c : Cf} {vs : List V} {ds : List D} {Q : VK} (k : Ok n c) (i : IsL n c.F c.φ vs ds) (hm : ds.length = m) (o : Out n W (RV n) c (callM f ds c.S) Q) : spB n m f vs c.H Q (fun cls d H' => W cls d c.σ H') := by
  refine ⟨c.bare, ds, rfl, rfl, rfl, k.bare, i, by rw [i.length]; exact hm, ?_⟩
  unfold callM at o
  show OutF n c.bare (f ds ⟨[], c.S.st⟩) Q _
  cases q : f ds ⟨[], c.S.st⟩ with
  | ok x S' =>
    rw [q] at o
    intro v c' e1 e2 s' k' r' own
    obtain ⟨k2, s2⟩ := k.back s' k' e1
    refine o.to (c' := { c' with S := ⟨c.S.sl, S'.st⟩, σ := c.σ }) rfl rfl s2 k2 ⟨by cases x <;> exact r', fun ox a ea => ?_⟩
    have hn : c.H a = none := own ox a ea
    refine ⟨fun ⟨j, y, a1, a2, a3⟩ => ?_, .inl hn⟩
    obtain ⟨w, b1, b2⟩ := k.sl j y a1
    have a3 : c.σ[j]? = some (some (V.ref a)) := a3
    rw [a3] at b1; cases b1
    obtain ⟨_, ee, _, _, u, hu, _⟩ := b2.at a2
    cases ee
    rw [hn] at hu; cases hu
  | exc C fs S' =>
    rw [q] at o
    intro Ca d c' e1 e2 s' k' hC hx
    obtain ⟨k2, s2⟩ := k.back s' k' e1
    have z := o Ca d { c' with S := ⟨c.S.sl, S'.st⟩, σ := c.σ } rfl rfl s2 k2 hC hx
    exact z
  | bad => rw [q] at o; exact o
def callN (m : Nat) (f : FnS) (ds : List D) : M L := if ds.length = m then callM f ds else bad
theorem be_call {x : Str} {p pos : Pos} {e : Expr} {es : List Expr} {fs : M (List D)} {f : FnS} {k m : Nat} {a : Addr} {fd : FuncData} {ps : List Str} (tk : Takes X W) (F : FnOk X.prog X.w X.K X.mg X.base (L2.CX X.prog X.w) k a fd ps (spB n m f)) (hr : Room k X.A) (hg : Gl X x) (hm : X.mg x = some (.ref a)) (hk : PySem.W.keepIn X.K (.ref a) = true)
    (hb : Binds X.K fd ps []) (ha : PA X (e :: es) (tA n W fs)) (hdb : (x == ("__debug__" : Str)) = false) (he : starEach (e :: es) X.env = (false, eval e X.env) :: starEach es X.env) (hpl : (backTo pos (starEach es X.env)).any (·.1) = false) :
    PE X (.Call (.Name x p) (e :: es) [] pos) (tO n W (fnM fs (callN m f))) :=
  (pe_callS F hr hg hm hk hb (fun σ => passAt tk σ) ha hdb he hpl).imp fun σ H Q ⟨c, e1, e2, kc, o⟩ => by
    subst e1 e2
    refine ⟨c, rfl, rfl, kc, Out.bind (P1 := PL n) trO o fun vs c1 ds e1 s1 k1 i1 o1 => ?_⟩
    unfold callN at o1
    split at o1
    · rename_i hl
      have z := call_ok (m := m) k1 i1 hl o1
      rw [e1] at z
      exact z
    · exact o1.not_bad
end Bv

/-! built-in functions -/
namespace Bv
open PySem PySem.Spec PyProof.Rows L2
variable {n : Nm} {W : WX} {X : Cx}
theorem OIs.lst {c : Cf} {v : V} {l : L} {ds : List D} (k : Ok n c) (h : OIs n c v l) (e : l.d = .lst ds) : ∃ a vs, v = .ref a ∧ c.H a = some (.lst vs) ∧ IsL n c.F c.φ vs ds := by
  cases l with
  | sh d =>
    have e : d = .lst ds := e
    subst e
    obtain ⟨a, vs, h1, h2, h3⟩ := is_lst h
    exact ⟨a, vs, h1, k.sub _ _ h2, h3⟩
  | ol es =>
    have e : D.lst es = .lst ds := e
    cases e
    obtain ⟨a, vs, h1, h2, _, _, h3⟩ := h
    exact ⟨a, vs, h1, h2, h3⟩
  | od kvs => cases e
  | oi b C fs => cases e
theorem OIs.plain {c : Cf} {v : V} {l : L} {d : D} (h : OIs n c v l) (e : l.d = d) (hd : ∀ ds kvs C fs, d ≠ .lst ds ∧ d ≠ .dic kvs ∧ d ≠ .inst C fs) : Is n c.F c.φ v d := by
  cases l with
  | sh d' =>
    have e : d' = d := e
    subst e; exact h
  | ol ds => exact absurd e.symm (hd ds [] "" []).1
  | od kvs => exact absurd e.symm (hd [] kvs "" []).2.1
  | oi b C fs => exact absurd e.symm (hd [] [] C fs).2.2
theorem OIs.tup {c : Cf} {v : V} {l : L} {ds : List D} (k : Ok n c) (h : OIs n c v l) (e : l.d = .tup ds) : ∃ a vs, v = .ref a ∧ SqT n.K c.H a vs ∧ IsL n c.F c.φ vs ds := by
  obtain ⟨a, vs, h1, h2, h3⟩ := is_tup (h.plain e fun _ _ _ _ => ⟨by simp, by simp, by simp⟩)
  exact ⟨a, vs, h1, k.sub.seqT h2, h3⟩
theorem OIs.int {c : Cf} {v : V} {l : L} {i : Int} (h : OIs n c v l) (e : l.d = .int i) : v = .int i := is_int (h.plain e fun _ _ _ _ => ⟨by simp, by simp, by simp⟩)
theorem OIs.bl {c : Cf} {v : V} {l : L} {i : Bool} (h : OIs n c v l) (e : l.d = .bl i) : v = .bl i := is_bl (h.plain e fun _ _ _ _ => ⟨by simp, by simp, by simp⟩)
theorem OIs.str {c : Cf} {v : V} {l : L} {i : Str} (h : OIs n c v l) (e : l.d = .str i) : v = .str i := is_str (h.plain e fun _ _ _ _ => ⟨by simp, by simp, by simp⟩)
theorem OIs.dic {c : Cf} {v : V} {l : L} {kvs : List (D × D)} (k : Ok n c) (h : OIs n c v l) (e : l.d = .dic kvs) : ∃ a, v = .ref a ∧ ((∃ vs, c.H a = some (.dK vs) ∧ IsK n c.F c.φ vs kvs) ∨ ∃ vs, c.H a = some (.dT vs) ∧ IsKT n c.F c.φ vs kvs) := by
  cases l with
  | sh d =>
    have e : d = .dic kvs := e
    subst e
    have h : Is n c.F c.φ v (.dic kvs) := h
    cases h with
    | dicK h1 t => exact ⟨_, rfl, .inl ⟨_, k.sub _ _ h1, t⟩⟩
    | dicT h1 t => exact ⟨_, rfl, .inr ⟨_, k.sub _ _ h1, t⟩⟩
  | ol es => cases e
  | od es =>
    have e : D.dic es = .dic kvs := e
    cases e
    obtain ⟨a, h1, _, _, h2⟩ := h
    exact ⟨a, h1, h2⟩
  | oi b C fs => cases e
/-- one borrowed argument -/
def CallW (n : Nm) (W : WX) (r : List V → Hp → VK → Prop) (g : L → M L) : Prop := ∀ (c : Cf) (x : V) (l : L) (Q : VK), Ok n c → OIs n c x l → Out n W (RV n) c (g l c.S) Q → r [x] c.H Q
def thM (f : M L) (g : L → M L) : M L := do let l ← f; g l
theorem ba_w {e : Expr} {f : M L} {g : L → M L} {r : List V → Hp → VK → Prop} (h : CallW n W r g) {σ : L2.St} {H : Hp} {Q : VK} (o : tO n W (thM f g) σ H Q) : tCB r (tCons (tW n W f) tNil) σ H Q := by
  obtain ⟨c, rfl, rfl, k, o⟩ := o
  exact ⟨c, rfl, rfl, k, Out.bind (P1 := PB n) trO o fun x c1 l e1 s1 k1 i1 o1 => h c1 x l Q k1 i1 o1⟩
section
variable {x : Str} {p pos : Pos} {e : Expr} {f : M L} {g : L → M L} {r : List V → Hp → VK → Prop} {id T : String}
theorem be_callB1 (hc : CallR X (.builtin id) r) (h : CallW n W r g) (hg : Gl X x) (hm : X.mg x = none) (hv : bootBuiltins x = some (.builtin id)) (ha : PE X e (tW n W f)) (hn : x ≠ "__name__") (hdb : (x == ("__debug__" : Str)) = false)
    (he : starEach (e :: []) X.env = (false, eval e X.env) :: starEach [] X.env) : PE X (.Call (.Name x p) [e] [] pos) (tO n W (thM f g)) :=
  (pe_callB hc hg hm hv (pa_cons ha pa_nil he) hn hdb he rfl).imp fun _ _ _ o => ba_w (e := e) h o
theorem be_callTy1 (hc : CallR X (.type T) r) (h : CallW n W r g) (hg : Gl X x) (hm : X.mg x = none) (hv : bootBuiltins x = some (.type T)) (ha : PE X e (tW n W f)) (hn : x ≠ "__name__") (hdb : (x == ("__debug__" : Str)) = false)
    (he : starEach (e :: []) X.env = (false, eval e X.env) :: starEach [] X.env) : PE X (.Call (.Name x p) [e] [] pos) (tO n W (thM f g)) :=
  (pe_callTy hc hg hm hv (pa_cons ha pa_nil he) hn hdb he rfl).imp fun _ _ _ o => ba_w (e := e) h o
end
/-! #### len -/
theorem IsK.length {F : Hp} {φ : List Addr} : ∀ {vs : List (Key × V)} {ds : List (D × D)}, IsK n F φ vs ds → vs.length = ds.length
  | _, _, .nil => rfl
  | _, _, .cons _ _ t => by rw [List.length_cons, List.length_cons, IsK.length t]
theorem IsKT.length {F : Hp} {φ : List Addr} : ∀ {vs : List (List Key × V)} {ds : List (D × D)}, IsKT n F φ vs ds → vs.length = ds.length
  | _, _, .one _ _ => rfl
  | _, _, .cons _ _ t => by rw [List.length_cons, List.length_cons, IsKT.length t]
theorem call_lenA : CallR X (.builtin "len") (fun xs H Q => (∃ p ys, xs = [.ref p] ∧ (SqL X.K H p ys ∨ SqT X.K H p ys) ∧ Q (.int ys.length) H) ∨ (∃ z, xs = [.str z] ∧ z.length ≤ sizeLine ∧ Q (.int z.length) H)) := CallR.or call_len_seq call_len_str
def lenW (l : L) : M L := match l.d with
    | .lst ds => pure (.sh (.int ds.length))
    | .tup ds => pure (.sh (.int ds.length))
    | .str x => if x.length ≤ lineN then pure (.sh (.int x.length)) else bad
    | _ => bad
theorem calls_len : CallW n W (fun xs H Q => (∃ p ys, xs = [.ref p] ∧ (SqL n.K H p ys ∨ SqT n.K H p ys) ∧ Q (.int ys.length) H) ∨ (∃ z, xs = [.str z] ∧ z.length ≤ sizeLine ∧ Q (.int z.length) H)) lenW := fun c x l Q k i o => by
  unfold lenW at o
  cases e : l.d with
  | lst ds =>
    rw [e] at o
    obtain ⟨a, vs, rfl, h1, h2⟩ := i.lst k e
    exact .inl ⟨a, vs, rfl, .inl (.of h1), by rw [h2.length]; exact o.sh k (.int _)⟩
  | tup ds =>
    rw [e] at o
    obtain ⟨a, vs, rfl, h1, h2⟩ := i.tup k e
    exact .inl ⟨a, vs, rfl, .inr h1, by rw [h2.length]; exact o.sh k (.int _)⟩
  | str z =>
    rw [e] at o
    rw [i.str e]
    dsimp only at o
    split at o
    · rename_i hz
      exact .inr ⟨z, rfl, by rw [lineN_eq]; exact hz, o.sh k (.int _)⟩
    · exact o.not_bad
  | _ => rw [e] at o; exact o.not_bad
/-! #### int, abs -/
def intW (l : L) : M L := match l.d with
  | .int i => pure (.sh (.int i))
  | .bl b => pure (.sh (.int (if b then 1 else 0)))
  | _ => bad
theorem calls_int : CallW n W (fun xs H Q => (∃ i, xs = [.int i] ∧ Q (.int i) H) ∨ ∃ k, xs = [.bl k] ∧ Q (.int (if k then 1 else 0)) H) intW := fun c x l Q k i o => by
  unfold intW at o
  cases e : l.d with
  | int j => rw [e] at o; rw [i.int e]; exact .inl ⟨_, rfl, o.sh k (.int _)⟩
  | bl b => rw [e] at o; rw [i.bl e]; exact .inr ⟨_, rfl, o.sh k (.int _)⟩
  | _ => rw [e] at o; exact o.not_bad
def absW (l : L) : M L := match l.d with
  | .int i => pure (.sh (.int (if i < 0 then -i else i)))
  | _ => bad
theorem calls_abs : CallW n W (fun xs H Q => ∃ i, xs = [.int i] ∧ Q (.int (if i < 0 then -i else i)) H) absW := fun c x l Q k i o => by
  unfold absW at o
  cases e : l.d with
  | int j => rw [e] at o; rw [i.int e]; exact ⟨_, rfl, o.sh k (.int _)⟩
  | _ => rw [e] at o; exact o.not_bad
/-! #### lists of numbers: sum, max, min, sorted; of bools: any, all -/
def intsOf : List D → Option (List Int)
  | [] => some []
  | .int i :: r => (intsOf r).map (i :: ·)
  | _ :: _ => none
theorem intsOf_some : ∀ {ds : List D} {ns : List Int}, intsOf ds = some ns → ds = ns.map D.int
  | [], _, h => by cases h; rfl
  | .int i :: r, ns, h => by
    unfold intsOf at h
    cases e : intsOf r with
    | none => rw [e] at h; cases h
    | some ms => rw [e] at h; cases h; rw [intsOf_some e]; rfl
  | .non :: _, _, h => by cases h
  | .bl _ :: _, _, h => by cases h
  | .str _ :: _, _, h => by cases h
  | .lst _ :: _, _, h => by cases h
  | .tup _ :: _, _, h => by cases h
  | .dic _ :: _, _, h => by cases h
  | .inst _ _ :: _, _, h => by cases h
  | .fn _ :: _, _, h => by cases h
  | .mref _ :: _, _, h => by cases h
  | .scr _ :: _, _, h => by cases h
theorem intsOf_map : ∀ ns : List Int, intsOf (ns.map D.int) = some ns
  | [] => rfl
  | i :: r => by show (intsOf (r.map D.int)).map (i :: ·) = _; rw [intsOf_map r]; rfl
def blsOf : List D → Option (List Bool)
  | [] => some []
  | .bl i :: r => (blsOf r).map (i :: ·)
  | _ :: _ => none
theorem blsOf_some : ∀ {ds : List D} {ns : List Bool}, blsOf ds = some ns → ds = ns.map D.bl
  | [], _, h => by cases h; rfl
  | .bl i :: r, ns, h => by
    unfold blsOf at h
    cases e : blsOf r with
    | none => rw [e] at h; cases h
    | some ms => rw [e] at h; cases h; rw [blsOf_some e]; rfl
  | .non :: _, _, h => by cases h
  | .int _ :: _, _, h => by cases h
  | .str _ :: _, _, h => by cases h
  | .lst _ :: _, _, h => by cases h
  | .tup _ :: _, _, h => by cases h
  | .dic _ :: _, _, h => by cases h
  | .inst _ _ :: _, _, h => by cases h
  | .fn _ :: _, _, h => by cases h
  | .mref _ :: _, _, h => by cases h
  | .scr _ :: _, _, h => by cases h
theorem blsOf_map : ∀ ns : List Bool, blsOf (ns.map D.bl) = some ns
  | [] => rfl
  | i :: r => by show (blsOf (r.map D.bl)).map (i :: ·) = _; rw [blsOf_map r]; rfl
theorem OIs.ints {c : Cf} {v : V} {l : L} {ds : List D} {ns : List Int} (k : Ok n c) (h : OIs n c v l) (e : l.d = .lst ds) (q : intsOf ds = some ns) : ∃ a, v = .ref a ∧ SqL n.K c.H a (ns.map V.int) := by
  obtain ⟨a, vs, rfl, h1, h2⟩ := h.lst k e
  rw [intsOf_some q] at h2
  rw [h2.ints] at h1
  exact ⟨a, rfl, .of h1⟩
theorem OIs.bls {c : Cf} {v : V} {l : L} {ds : List D} {ns : List Bool} (k : Ok n c) (h : OIs n c v l) (e : l.d = .lst ds) (q : blsOf ds = some ns) : ∃ a, v = .ref a ∧ SqL n.K c.H a (ns.map V.bl) := by
  obtain ⟨a, vs, rfl, h1, h2⟩ := h.lst k e
  rw [blsOf_some q] at h2
  rw [h2.bls] at h1
  exact ⟨a, rfl, .of h1⟩
def sumW (l : L) : M L := match l.d with
  | .lst ds => (match intsOf ds with | some ns => pure (.sh (.int ns.sum)) | none => bad)
  | _ => bad
theorem calls_sum : CallW n W (rSum n.K) sumW := fun c x l Q k i o => by
  unfold sumW at o
  cases e : l.d with
  | lst ds =>
    rw [e] at o
    dsimp only at o
    cases q : intsOf ds with
    | some ns =>
      rw [q] at o
      obtain ⟨a, rfl, h⟩ := i.ints k e q
      exact ⟨a, ns, rfl, h, o.sh k (.int _)⟩
    | none => rw [q] at o; exact o.not_bad
  | _ => rw [e] at o; exact o.not_bad
def maxI : List Int → Int
  | [] => 0
  | [x] => x
  | x :: y :: r => max x (maxI (y :: r))
def minI : List Int → Int
  | [] => 0
  | [x] => x
  | x :: y :: r => min x (minI (y :: r))
theorem maxI_mem : ∀ {ns : List Int}, ns ≠ [] → maxI ns ∈ ns
  | [], h => absurd rfl h
  | [x], _ => by simp [maxI]
  | x :: y :: r, _ => by
    have ih := maxI_mem (ns := y :: r) (by simp)
    show max x (maxI (y :: r)) ∈ _
    rcases Int.le_total x (maxI (y :: r)) with h | h
    · rw [Int.max_eq_right h]; exact List.mem_cons_of_mem _ ih
    · rw [Int.max_eq_left h]; exact List.mem_cons_self
theorem maxI_le : ∀ {ns : List Int} {z : Int}, z ∈ ns → z ≤ maxI ns
  | [x], z, h => by simp at h; subst h; exact Int.le_refl _
  | x :: y :: r, z, h => by
    show z ≤ max x (maxI (y :: r))
    rcases List.mem_cons.mp h with h | h
    · subst h; exact Int.le_max_left _ _
    · exact Int.le_trans (maxI_le h) (Int.le_max_right _ _)
theorem minI_mem : ∀ {ns : List Int}, ns ≠ [] → minI ns ∈ ns
  | [], h => absurd rfl h
  | [x], _ => by simp [minI]
  | x :: y :: r, _ => by
    have ih := minI_mem (ns := y :: r) (by simp)
    show min x (minI (y :: r)) ∈ _
    rcases Int.le_total x (minI (y :: r)) with h | h
    · rw [Int.min_eq_left h]; exact List.mem_cons_self
    · rw [Int.min_eq_right h]; exact List.mem_cons_of_mem _ ih
theorem minI_le : ∀ {ns : List Int} {z : Int}, z ∈ ns → minI ns ≤ z
  | [x], z, h => by simp at h; subst h; exact Int.le_refl _
  | x :: y :: r, z, h => by
    show min x (minI (y :: r)) ≤ z
    rcases List.mem_cons.mp h with h | h
    · subst h; exact Int.min_le_left _ _
    · exact Int.le_trans (Int.min_le_right _ _) (minI_le h)
theorem maxI_is {ns : List Int} {m : Int} (h1 : m ∈ ns) (h2 : ∀ y ∈ ns, y ≤ m) : m = maxI ns :=
  Int.le_antisymm (maxI_le h1) (h2 _ (maxI_mem fun z => by subst z; cases h1))
theorem minI_is {ns : List Int} {m : Int} (h1 : m ∈ ns) (h2 : ∀ y ∈ ns, m ≤ y) : m = minI ns :=
  Int.le_antisymm (h2 _ (minI_mem fun z => by subst z; cases h1)) (minI_le h1)
def bestW (f : List Int → Int) (l : L) : M L := match l.d with
  | .lst ds => (match intsOf ds with | some ns => if 0 < ns.length then pure (.sh (.int (f ns))) else bad | none => bad)
  | _ => bad
theorem calls_max : CallW n W (rMax n.K) (bestW maxI) := fun c x l Q k i o => by
  unfold bestW at o
  cases e : l.d with
  | lst ds =>
    rw [e] at o
    dsimp only at o
    cases q : intsOf ds with
    | some ns =>
      rw [q] at o
      dsimp only at o
      obtain ⟨a, rfl, h⟩ := i.ints k e q
      split at o
      · rename_i hz
        exact ⟨a, ns, rfl, h, hz, fun m h1 h2 => by rw [maxI_is h1 h2]; exact o.sh k (.int _)⟩
      · exact o.not_bad
    | none => rw [q] at o; exact o.not_bad
  | _ => rw [e] at o; exact o.not_bad
theorem calls_min : CallW n W (rMin n.K) (bestW minI) := fun c x l Q k i o => by
  unfold bestW at o
  cases e : l.d with
  | lst ds =>
    rw [e] at o
    dsimp only at o
    cases q : intsOf ds with
    | some ns =>
      rw [q] at o
      dsimp only at o
      obtain ⟨a, rfl, h⟩ := i.ints k e q
      split at o
      · rename_i hz
        exact ⟨a, ns, rfl, h, hz, fun m h1 h2 => by rw [minI_is h1 h2]; exact o.sh k (.int _)⟩
      · exact o.not_bad
    | none => rw [q] at o; exact o.not_bad
  | _ => rw [e] at o; exact o.not_bad
def boolsW (f : List Bool → Bool) (l : L) : M L := match l.d with
  | .lst ds => (match blsOf ds with | some ns => pure (.sh (.bl (f ns))) | none => bad)
  | _ => bad
theorem calls_any : CallW n W (rAny n.K) (boolsW fun bs => bs.any id) := fun c x l Q k i o => by
  unfold boolsW at o
  cases e : l.d with
  | lst ds =>
    rw [e] at o
    dsimp only at o
    cases q : blsOf ds with
    | some ns =>
      rw [q] at o
      obtain ⟨a, rfl, h⟩ := i.bls k e q
      exact ⟨a, ns, rfl, h, o.sh k (.bl _)⟩
    | none => rw [q] at o; exact o.not_bad
  | _ => rw [e] at o; exact o.not_bad
theorem calls_all : CallW n W (rAll n.K) (boolsW fun bs => bs.all id) := fun c x l Q k i o => by
  unfold boolsW at o
  cases e : l.d with
  | lst ds =>
    rw [e] at o
    dsimp only at o
    cases q : blsOf ds with
    | some ns =>
      rw [q] at o
      obtain ⟨a, rfl, h⟩ := i.bls k e q
      exact ⟨a, ns, rfl, h, o.sh k (.bl _)⟩
    | none => rw [q] at o; exact o.not_bad
  | _ => rw [e] at o; exact o.not_bad
def sortI (ns : List Int) : List Int := ns.mergeSort (fun a b => decide (a ≤ b))
theorem sortI_perm (ns : List Int) : (sortI ns).Perm ns := List.mergeSort_perm _ _
theorem sortI_le (ns : List Int) : (sortI ns).Pairwise (· ≤ ·) := by
  have h := List.pairwise_mergeSort (le := fun a b : Int => decide (a ≤ b)) (fun a b c h1 h2 => by simp only [decide_eq_true_eq] at *; omega) (fun a b => by
    rcases Int.le_total a b with h | h <;> simp [h]) ns
  exact h.imp fun h => by simpa using h
theorem sortI_is {ns ms : List Int} (h1 : ms.Perm ns) (h2 : ms.Pairwise (· ≤ ·)) : ms = sortI ns :=
  (h1.trans (sortI_perm ns).symm).eq_of_pairwise (fun a b _ _ h3 h4 => Int.le_antisymm h3 h4) h2 (sortI_le ns)
def sortW (l : L) : M L := match l.d with
  | .lst ds => (match intsOf ds with | some ns => pure (.ol ((sortI ns).map D.int)) | none => bad)
  | _ => bad
theorem isL_ints {F : Hp} {φ : List Addr} : ∀ ns : List Int, IsL n F φ (ns.map V.int) (ns.map D.int)
  | [] => .nil
  | i :: r => .cons (.int i) (isL_ints r)
theorem calls_sorted : CallW n W (rSortedI n.K) sortW := fun c x l Q k i o => by
  unfold sortW at o
  cases e : l.d with
  | lst ds =>
    rw [e] at o
    dsimp only at o
    cases q : intsOf ds with
    | some ns =>
      rw [q] at o
      obtain ⟨a, rfl, h⟩ := i.ints k e q
      exact ⟨a, ns, rfl, h, fun ms p h1 h2 hp => by rw [sortI_is h1 h2]; exact o.newLst k (isL_ints _) hp⟩
    | none => rw [q] at o; exact o.not_bad
  | _ => rw [e] at o; exact o.not_bad
/-! #### tuple, list -/
def tupW (l : L) : M L := match l.d with
  | .lst ds => pure (.sh (.tup ds))
  | .tup ds => pure (.sh (.tup ds))
  | _ => bad
theorem calls_tuple : CallW n W (fun xs H Q => ∃ p ys, xs = [.ref p] ∧ ((SqL n.K H p ys ∧ ∀ l, H l = none → Q (.ref l) (upd H l (.tup ys))) ∨ (SqT n.K H p ys ∧ Q (.ref p) H))) tupW := fun c x l Q k i o => by
  unfold tupW at o
  cases e : l.d with
  | lst ds =>
    rw [e] at o
    obtain ⟨a, vs, rfl, h1, h2⟩ := i.lst k e
    exact ⟨a, vs, rfl, .inl ⟨.of h1, fun p hp => o.newTup k h2 hp⟩⟩
  | tup ds =>
    rw [e] at o
    obtain ⟨a, vs, rfl, h1, h2⟩ := i.tup k e
    exact ⟨a, vs, rfl, .inr ⟨h1, o.sh k (i.plain e fun _ _ _ _ => ⟨by simp, by simp, by simp⟩)⟩⟩
  | _ => rw [e] at o; exact o.not_bad
def lstW (l : L) : M L := match l.d with
  | .lst ds => pure (.ol ds)
  | .scr ds => pure (.ol ds)
  | .tup ds => pure (.ol ds)
  | _ => bad
theorem calls_list : CallW n W (fun xs H Q => ∃ p ys, xs = [.ref p] ∧ (SqL n.K H p ys ∨ SqT n.K H p ys) ∧ ∀ l, H l = none → Q (.ref l) (upd H l (.lst ys))) lstW := fun c x l Q k i o => by
  unfold lstW at o
  cases e : l.d with
  | lst ds =>
    rw [e] at o
    obtain ⟨a, vs, rfl, h1, h2⟩ := i.lst k e
    exact ⟨a, vs, rfl, .inl (.of h1), fun p hp => o.newLst k h2 hp⟩
  | tup ds =>
    rw [e] at o
    obtain ⟨a, vs, rfl, h1, h2⟩ := i.tup k e
    exact ⟨a, vs, rfl, .inr h1, fun p hp => o.newLst k h2 hp⟩
  | scr ds =>
    rw [e] at o
    have z : Is n c.F c.φ x (.scr ds) := i.plain e fun _ _ _ _ => ⟨by simp, by simp, by simp⟩
    cases z with
    | scr h1 h2 => exact ⟨_, _, rfl, .inl (k.sub.seqL h1), fun p hp => o.newLst k h2 hp⟩
  | _ => rw [e] at o; exact o.not_bad
/-! #### max, min of two -/
def gMax2 (ds : List D) : M L := match ds with
  | [.int i, .int j] => pure (.sh (.int (if j > i then j else i)))
  | _ => bad
def gMin2 (ds : List D) : M L := match ds with
  | [.int i, .int j] => pure (.sh (.int (if j < i then j else i)))
  | _ => bad
theorem calls_max2 : CallS n W (fun xs H Q => ∃ i j, xs = [.int i, .int j] ∧ Q (.int (if j > i then j else i)) H) gMax2 := fun c vs ds Q k i o => by
  unfold gMax2 at o
  split at o
  · cases i with
    | cons h1 t =>
      cases t with
      | cons h2 t =>
        cases t
        rw [is_int h1, is_int h2]
        exact ⟨_, _, rfl, o.sh k (.int _)⟩
  · exact o.not_bad
theorem calls_min2 : CallS n W (fun xs H Q => ∃ i j, xs = [.int i, .int j] ∧ Q (.int (if j < i then j else i)) H) gMin2 := fun c vs ds Q k i o => by
  unfold gMin2 at o
  split at o
  · cases i with
    | cons h1 t =>
      cases t with
      | cons h2 t =>
        cases t
        rw [is_int h1, is_int h2]
        exact ⟨_, _, rfl, o.sh k (.int _)⟩
  · exact o.not_bad
end Bv

/-! places, slices, fields, tests -/
namespace Bv
open PySem PySem.Spec PyProof.Rows L2
variable {n : Nm} {W : WX} {X : Cx}
/-! ### places -/
theorem atI_is {F : Hp} {φ : List Addr} {vs : List V} {ds : List D} {i : Int} {d : D} (h : IsL n F φ vs ds) (e : atI ds i = some d) : ∃ v, atI vs i = some v ∧ Is n F φ v d := by
  unfold atI at e ⊢
  rw [h.length]
  cases q : ixN ds.length i with
  | none => rw [q] at e; cases e
  | some j =>
    rw [q] at e
    exact h.get e
def ixW (l : L) (e : D) : M L := match l.d, e with
  | .lst ds, .int i => (match atI ds i with | some d => pure (.sh d) | none => bad)
  | .tup ds, .int i => (match atI ds i with | some d => pure (.sh d) | none => bad)
  | .str z, .int i => if z.length ≤ lineN then (match atI z.cps.toList i with | some c => pure (.sh (.str ⟨#[c]⟩)) | none => bad) else bad
  | _, _ => bad
theorem ix_ok {c : Cf} {x y : V} {l : L} {e : D} {Q : VK} (k : Ok n c) (i : OIs n c x l) (j : Is n c.F c.φ y e) (o : Out n W (RV n) c (ixW l e c.S) Q) : rIx n.K x y c.H Q := by
  unfold ixW at o
  cases q : l.d with
  | lst ds =>
    rw [q] at o
    cases e with
    | int z =>
      dsimp only at o
      obtain ⟨a, vs, rfl, h1, h2⟩ := i.lst k q
      cases q2 : atI ds z with
      | some d =>
        rw [q2] at o
        obtain ⟨v, h3, h4⟩ := atI_is h2 q2
        exact .inl ⟨a, vs, z, v, rfl, is_int j, .of h1, h3, o.sh k h4⟩
      | none => rw [q2] at o; exact o.not_bad
    | _ => exact o.not_bad
  | tup ds =>
    rw [q] at o
    cases e with
    | int z =>
      dsimp only at o
      obtain ⟨a, vs, rfl, h1, h2⟩ := i.tup k q
      cases q2 : atI ds z with
      | some d =>
        rw [q2] at o
        obtain ⟨v, h3, h4⟩ := atI_is h2 q2
        exact .inr (.inl ⟨a, vs, z, v, rfl, is_int j, h1, h3, o.sh k h4⟩)
      | none => rw [q2] at o; exact o.not_bad
    | _ => exact o.not_bad
  | str u =>
    rw [q] at o
    cases e with
    | int z =>
      dsimp only at o
      split at o
      · rename_i hz
        cases q2 : atI u.cps.toList z with
        | some d =>
          rw [q2] at o
          exact .inr (.inr ⟨u, z, d, i.str q, is_int j, by rw [lineN_eq]; exact hz, q2, o.sh k (.str _)⟩)
        | none => rw [q2] at o; exact o.not_bad
      · exact o.not_bad
    | _ => exact o.not_bad
  | _ => rw [q] at o; exact o.not_bad
section
variable {a b : Expr} {fa fb : M D} {pos : Pos} {x : Str} {p : Pos} {i : Nat}
def ixM (fa fb : M D) : M L := do let d ← fa; let e ← fb; ixW (.sh d) e
theorem be_ix (ha : PE X a (tX n W fa)) (hb : PE X b (tX n W fb)) (hs : PlainIx b) (hK : X.K = n.K) : PE X (.Subscript a b pos) (tO n W (ixM fa fb)) := (pe_ix ix_seq ha hb hs).imp fun σ H Q ⟨c, e1, e2, k, o⟩ => by
  subst e1 e2
  refine ⟨c, rfl, rfl, k, Out.bind (P1 := PX n) trO o fun x c1 d e1 s1 k1 i1 o1 => ?_⟩
  refine ⟨c1, e1, rfl, k1, Out.bind (P1 := PX n) trO o1 fun y c2 e e2 s2 k2 i2 o2 => ?_⟩
  rw [hK]
  exact ix_ok k2 (OIs.sh (s2.is i1)) i2 o2
/-- a name's place: the name is only read -/
def ixNM (i : Nat) (fb : M D) : M L := do let _ ← slN i; let e ← fb; let l ← slN i; ixW l e
theorem slN_some {c : Cf} {i : Nat} {α : Type} {k : L → M α} {γ : Type} {P : Cf → Cf → γ → α → Prop} {Q : γ → Hp → Prop} (o : Out n W P c ((slN i >>= k) c.S) Q) (ok : Ok n c) : ∃ l v, c.S.sl[i]? = some (some l) ∧ c.σ[i]? = some (some v) ∧ OIs n c v l ∧ Out n W P c (k l c.S) Q := by
  have o : Out n W P c (M.bind (slN i) k c.S) Q := o
  unfold M.bind slN at o
  cases e : c.S.sl[i]? with
  | none => rw [e] at o; exact o.not_bad
  | some y =>
    cases y with
    | none => rw [e] at o; exact o.not_bad
    | some l =>
      rw [e] at o
      obtain ⟨v, h1, h2⟩ := ok.sl i l e
      exact ⟨l, v, rfl, h1, h2, o⟩
theorem be_ixN (hN : X.N[i]? = some x) (hv : Vis X.env.scope x) (hd : (x == ("__debug__" : Str)) = false) (hcd : (x == ("__classdict__" : Str)) = false) (hb : PE X b (tX n W fb)) (hs : PlainIx b) (hK : X.K = n.K) : PE X (.Subscript (.Name x p) b pos) (tO n W (ixNM i fb)) :=
  (pe_ix ix_seq (pe_var hN hv hd hcd) hb hs).imp fun σ H Q ⟨c, e1, e2, k, o⟩ => by
    subst e1 e2
    obtain ⟨l, v, h1, h2, h3, o⟩ := slN_some o k
    refine ⟨v, h2, c, rfl, rfl, k, Out.bind (P1 := PX n) trO o fun y c1 e e1 s1 k1 i1 o1 => ?_⟩
    obtain ⟨l', v', h4, h5, h6, o2⟩ := slN_some o1 k1
    rw [e1, h2] at h5
    cases h5
    rw [hK]
    exact ix_ok k1 h6 i1 o2
end
/-! ### slices -/
def tP (n : Nm) (W : WX) (f : M (Option Int)) : TO := fun σ H Q => ∃ c : Cf, c.σ = σ ∧ c.H = H ∧ Ok n c ∧ Out n W (fun _ _ v b => v = b) c (f c.S) Q
def noP : M (Option Int) := pure none
def soP (f : M D) : M (Option Int) := do
  let d ← f
  match d with
  | .int i => pure (some i)
  | _ => bad
theorem bp_none : PO X none (tP n W noP) := ⟨fun pins s σ H Q I ⟨c, e1, e2, k, o⟩ => by
  subst e1 e2
  exact po_none.run pins s c.σ c.H Q I (show Q none c.H from o none c rfl rfl (Stp.refl c) k rfl)⟩
theorem bp_some {e : Expr} {f : M D} (h : PE X e (tX n W f)) : PO X (some e) (tP n W (soP f)) := ⟨fun pins s σ H Q I ⟨c, e1, e2, k, o⟩ => by
  subst e1 e2
  refine (po_some h).run pins s c.σ c.H Q I ?_
  refine ⟨c, rfl, rfl, k, Out.bind (P1 := PX n) trT o fun x c1 d e1 s1 k1 i1 o1 => ?_⟩
  cases d with
  | int i => exact ⟨i, is_int i1, o1.fin k1 rfl⟩
  | _ => exact o1.not_bad⟩
def cutD (xs : List D) (lo hi : Option Int) : List D := (xs.drop (HT.sIx xs.length 0 lo)).take (HT.sIx xs.length xs.length hi - HT.sIx xs.length 0 lo)
theorem IsL.cut {F : Hp} {φ : List Addr} {vs : List V} {ds : List D} (h : IsL n F φ vs ds) (lo hi : Option Int) : IsL n F φ (cutV vs lo hi) (cutD ds lo hi) := by
  unfold cutV cutD
  rw [h.length]
  exact (h.drop _).take _
def slW (l : L) (lo hi : Option Int) : M L := match l.d with
  | .lst ds => pure (.ol (cutD ds lo hi))
  | .tup ds => pure (.sh (.tup (cutD ds lo hi)))
  | _ => bad
def rSlA2 (K : PySem.W.Frag) : V → Option Int → Option Int → Hp → VK → Prop := fun x lo hi H Q => rSlL K x lo hi H Q ∨ rSlA K x lo hi H Q
theorem cutD_whole {xs : List D} {lo hi : Option Int} (h : HT.sIx xs.length 0 lo = 0 ∧ HT.sIx xs.length xs.length hi = xs.length) : cutD xs lo hi = xs := by
  unfold cutD
  rw [h.1, h.2]
  simp
theorem sl_ok {c : Cf} {x : V} {l : L} {lo hi : Option Int} {Q : VK} (k : Ok n c) (i : OIs n c x l) (o : Out n W (RV n) c (slW l lo hi c.S) Q) : rSlA2 n.K x lo hi c.H Q := by
  unfold slW at o
  cases q : l.d with
  | lst ds =>
    rw [q] at o
    obtain ⟨a, vs, rfl, h1, h2⟩ := i.lst k q
    exact .inl ⟨a, vs, rfl, .of h1, fun p hp => o.newLst k (h2.cut lo hi) hp⟩
  | tup ds =>
    rw [q] at o
    obtain ⟨a, vs, rfl, h1, h2⟩ := i.tup k q
    refine .inr ⟨a, vs, rfl, h1, fun z => ?_, fun _ p hp => o.newTup k (h2.cut lo hi) hp⟩
    rw [h2.length] at z
    have o : Out n W (RV n) c (.ok (.sh (.tup (cutD ds lo hi))) c.S) Q := o
    rw [cutD_whole z] at o
    exact o.sh k (i.plain q fun _ _ _ _ => ⟨by simp, by simp, by simp⟩)
  | _ => rw [q] at o; exact o.not_bad
section
variable {a : Expr} {lo hi : Option Expr} {fa : M D} {fl fh : M (Option Int)} {pos p2 : Pos} {x : Str} {p : Pos} {i : Nat}
def slM (fa : M D) (fl fh : M (Option Int)) : M L := do let d ← fa; let l ← fl; let h ← fh; slW (.sh d) l h
theorem be_sl (ha : PE X a (tX n W fa)) (hl : PO X lo (tP n W fl)) (hh : PO X hi (tP n W fh)) (hK : X.K = n.K) : PE X (.Subscript a (.Slice lo hi none p2) pos) (tO n W (slM fa fl fh)) :=
  (pe_slice (SlR.or sl_list sl_tupA) ha hl hh).imp fun σ H Q ⟨c, e1, e2, k, o⟩ => by
    subst e1 e2
    refine ⟨c, rfl, rfl, k, Out.bind (P1 := PX n) trO o fun x c1 d e1 s1 k1 i1 o1 => ?_⟩
    refine ⟨c1, e1, rfl, k1, Out.bind (P1 := fun _ _ v b => v = b) trO o1 fun y c2 e e2 s2 k2 i2 o2 => ?_⟩
    refine ⟨c2, e2.trans e1, rfl, k2, Out.bind (P1 := fun _ _ v b => v = b) trO o2 fun z c3 f e3 s3 k3 i3 o3 => ?_⟩
    subst i2 i3
    rw [hK]
    exact sl_ok k3 (OIs.sh (s3.is (s2.is i1))) o3
def slNM (i : Nat) (fl fh : M (Option Int)) : M L := do let _ ← slN i; let l ← fl; let h ← fh; let x ← slN i; slW x l h
theorem be_slN (hN : X.N[i]? = some x) (hv : Vis X.env.scope x) (hd : (x == ("__debug__" : Str)) = false) (hcd : (x == ("__classdict__" : Str)) = false) (hl : PO X lo (tP n W fl)) (hh : PO X hi (tP n W fh)) (hK : X.K = n.K) : PE X (.Subscript (.Name x p) (.Slice lo hi none p2) pos) (tO n W (slNM i fl fh)) :=
  (pe_slice (SlR.or sl_list sl_tupA) (pe_var hN hv hd hcd) hl hh).imp fun σ H Q ⟨c, e1, e2, k, o⟩ => by
    subst e1 e2
    obtain ⟨l, v, h1, h2, h3, o⟩ := slN_some o k
    refine ⟨v, h2, c, rfl, rfl, k, Out.bind (P1 := fun _ _ v b => v = b) trO o fun y c2 e e2 s2 k2 i2 o2 => ?_⟩
    refine ⟨c2, e2, rfl, k2, Out.bind (P1 := fun _ _ v b => v = b) trO o2 fun z c3 f e3 s3 k3 i3 o3 => ?_⟩
    subst i2 i3
    obtain ⟨l', v', h4, h5, h6, o4⟩ := slN_some o3 k3
    rw [e3, e2, h2] at h5
    cases h5
    rw [hK]
    exact sl_ok k3 h6 o4
end
/-! ### fields -/
/-- what is known of a class: its instances' fields are read and stored plainly -/
structure ClsI (K : PySem.W.Frag) (C : Addr) : Prop where
  cl : Cls K C
  ha : PySem.W.findIn K (.ref C) "__class__" = some (some (.builtin "object.__class__"))
  hn : PySem.W.specialIn K (.builtin "object.__class__") "__get__" = some (some (.builtin "getset_descriptor.__get__"))
  htk : PySem.W.takesIn K (.builtin "object.__class__") = some true
  hm : PySem.W.mroIn K C (.type "object") = some true
def fldW (f : Str) (l : L) : M L := match l with
  | .sh (.inst _ fs) => (match fs.lookup f with | some d => pure (.sh d) | none => bad)
  | .oi _ _ fs => (match fs.lookup f with | some d => pure (.sh d) | none => bad)
  | _ => bad
/-- the classes have no attribute of their own of these names -/
def NoAt (n : Nm) (f : Str) : Prop := ∀ x C, n.cA x = some C → ClsI n.K C ∧ NoAttr n.K C f
theorem fld_ok {c : Cf} {x : V} {l : L} {f : Str} {Q : VK} (hf : NoAt n f) (k : Ok n c) (i : OIs n c x l) (o : Out n W (RV n) c (fldW f l c.S) Q) : ∃ a C dx fs v, x = .ref a ∧ c.H a = some (.ins C dx fs) ∧ Cls n.K C ∧ NoAttr n.K C f ∧ fs.lookup f = some v ∧ Q v c.H := by
  cases l with
  | sh d =>
    cases d with
    | inst y fs =>
      have o : Out n W (RV n) c ((match fs.lookup f with | some d => (pure (.sh d) : M L) | none => bad) c.S) Q := o
      have i : Is n c.F c.φ x (.inst y fs) := i
      cases q : fs.lookup f with
      | some d =>
        rw [q] at o
        cases i with
        | inst hC hF t =>
          obtain ⟨v, h1, h2⟩ := t.look q
          exact ⟨_, _, _, _, v, rfl, k.sub _ _ hF, (hf _ _ hC).1.cl, (hf _ _ hC).2, h1, o.sh k h2⟩
      | none => rw [q] at o; exact o.not_bad
    | _ => exact Out.not_bad (n := n) (W := W) (P := RV n) (c := c) (Q := Q) o
  | oi b y fs =>
    have o : Out n W (RV n) c ((match fs.lookup f with | some d => (pure (.sh d) : M L) | none => bad) c.S) Q := o
    cases q : fs.lookup f with
    | some d =>
      rw [q] at o
      obtain ⟨a, C, dx, vs, rfl, _, hC, h1, _, _, t⟩ := i
      obtain ⟨v, h2, h3⟩ := t.look q
      exact ⟨_, _, _, _, v, rfl, h1, (hf _ _ hC).1.cl, (hf _ _ hC).2, h2, o.sh k h3⟩
    | none => rw [q] at o; exact o.not_bad
  | ol ds => exact Out.not_bad (n := n) (W := W) (P := RV n) (c := c) (Q := Q) o
  | od ds => exact Out.not_bad (n := n) (W := W) (P := RV n) (c := c) (Q := Q) o
theorem be_fld {e : Expr} {f : Str} {g : M L} {pos : Pos} (he : PE X e (tW n W g)) (hb : attributeBase e f X.env (eval e X.env) = eval e X.env) (hf : NoAt n f) (hK : X.K = n.K) : PE X (.Attribute e f pos) (tO n W (thM g (fldW f))) :=
  (pe_fld he hb).imp fun σ H Q ⟨c, e1, e2, k, o⟩ => by
    subst e1 e2
    refine ⟨c, rfl, rfl, k, Out.bind (P1 := PB n) trO o fun x c1 l e1 s1 k1 i1 o1 => ?_⟩
    rw [hK]
    exact fld_ok hf k1 i1 o1
/-! ### tests -/
section
variable {a b : Expr} {rest : List Expr} {pos : Pos}
def cmpT (fa fb : M D) (g : D → D → M L) : M Bool := bin2 fa fb g >>= fun x => match x with | .sh (.bl b) => (pure b : M Bool) | _ => bad
theorem Out.isBl {c : Cf} {m : M L} {Q : Bool → Hp → Prop} (o : Out n W (fun _ _ v b => v = b) c ((m >>= fun x => match x with | .sh (.bl b) => (pure b : M Bool) | _ => bad) c.S) Q) :
    Out n W (RV n) c (m c.S) (fun v H' => ∃ k, v = .bl k ∧ Q k H') :=
  Out.bind (P1 := RV n) trT o fun v c1 x e1 s1 k1 r1 o1 => by
    cases x with
    | sh d =>
      cases d with
      | bl b => exact ⟨b, is_bl r1.is, o1.fin k1 rfl⟩
      | _ => exact o1.not_bad
    | _ => exact o1.not_bad
theorem bt_cmp {op : CmpOp} {r : R2} {g : D → D → M L} {fa fb : M D} (ho : OpR X (compareOp op) r) (h : OpS n W r g) (ha : PE X a (tX n W fa)) (hb : PE X b (tX n W fb)) (hm : behindInMarks op b = false) : PT X (.Compare a [op] [b] pos) (tT n W (cmpT fa fb g)) :=
  (pt_cmpR ho ha hb hm).imp fun σ H Q ⟨c, e1, e2, k, o⟩ => be_tOp h (fa := fa) (fb := fb) ⟨c, e1, e2, k, Out.isBl o⟩
def truD : L → Option Bool := fun l => match l.d with
  | .non => some false
  | .bl b => some b
  | .int i => some (i != 0)
  | .str y => if y.length ≤ lineN then some ((y.length : Int) != 0) else none
  | .lst ds => some (!ds.isEmpty)
  | .tup ds => some (!ds.isEmpty)
  | _ => none
def truT (f : M L) : M Bool := do
  let x ← f
  match truD x with
  | some b => pure b
  | none => bad
theorem isEmpty_is {F : Hp} {φ : List Addr} {vs : List V} {ds : List D} (h : IsL n F φ vs ds) : (!vs.isEmpty) = !ds.isEmpty := by
  cases h <;> rfl
theorem truD_ok {c1 : Cf} {v : V} {l : L} {b : Bool} (k1 : Ok n c1) (i1 : OIs n c1 v l) (q : truD l = some b) : TruV n.K v c1.H b := by
  unfold truD at q
  cases e : l.d with
  | non => rw [e] at q; cases q; cases i1.plain e (fun _ _ _ _ => ⟨by simp, by simp, by simp⟩); rfl
  | bl z => rw [e] at q; cases q; rw [i1.bl e]; rfl
  | int z => rw [e] at q; cases q; rw [i1.int e]; rfl
  | str z =>
    rw [e] at q
    dsimp only at q
    split at q
    · rename_i hz
      cases q; rw [i1.str e]; exact ⟨by rw [lineN_eq]; exact hz, rfl⟩
    · cases q
  | lst ds =>
    rw [e] at q; cases q
    obtain ⟨p, vs, rfl, h1, h2⟩ := i1.lst k1 e
    exact .inl ⟨vs, .of h1, (isEmpty_is h2).symm⟩
  | tup ds =>
    rw [e] at q; cases q
    obtain ⟨p, vs, rfl, h1, h2⟩ := i1.tup k1 e
    exact .inr (.inl ⟨vs, h1, (isEmpty_is h2).symm⟩)
  | _ => rw [e] at q; cases q
theorem bt_tru {f : M L} (ha : PE X a (tW n W f)) (he : ∀ whole, isTrue a X.env whole = (do let v ← whole; standAt a.pos; holding [v] (truthy v))) (hK : X.K = n.K) : PT X a (tT n W (truT f)) :=
  (pt_truth ha he).imp fun σ H Q ⟨c, e1, e2, k, o⟩ => by
    subst e1 e2
    refine ⟨c, rfl, rfl, k, Out.bind (P1 := PB n) trT o fun v c1 l e1 s1 k1 i1 o1 => ?_⟩
    rw [hK]
    cases q : truD l with
    | none => rw [q] at o1; exact o1.not_bad
    | some b =>
      rw [q] at o1
      exact ⟨b, truD_ok k1 i1 q, o1.fin k1 rfl⟩
def notT (f : M Bool) : M Bool := do let b ← f; pure !b
def andT (f g : M Bool) : M Bool := do let b ← f; if b then g else pure false
def orT (f g : M Bool) : M Bool := do let b ← f; if b then pure true else g
theorem bt_not {f : M Bool} (ha : PT X a (tT n W f)) : PT X (.UnaryOp .Not a pos) (tT n W (notT f)) := (pt_not ha).imp fun σ H Q ⟨c, e1, e2, k, o⟩ => by
  subst e1 e2
  exact ⟨c, rfl, rfl, k, Out.bind (P1 := fun _ _ v b => v = b) trT o fun v c1 b e1 s1 k1 i1 o1 => by subst i1; exact o1.fin k1 rfl⟩
theorem _root_.L2.PW.imp {e : Expr} {t t' : TT} (h : PW X e t) (q : ∀ σ H Q, t' σ H Q → t σ H Q) : PW X e t' := ⟨fun whole pins s σ H Q I hw => h.run whole pins s σ H Q I (q σ H Q hw)⟩
theorem bw_and1 {f : M Bool} (ha : PT X a (tT n W f)) : PW X (.BoolOp .And [a] pos) (tT n W f) := pw_and1 ha
theorem bw_or1 {f : M Bool} (ha : PT X a (tT n W f)) : PW X (.BoolOp .Or [a] pos) (tT n W f) := pw_or1 ha
theorem bw_and {f g : M Bool} (ha : PT X a (tT n W f)) (hb : PW X (.BoolOp .And (b :: rest) pos) (tT n W g)) : PW X (.BoolOp .And (a :: b :: rest) pos) (tT n W (andT f g)) := (pw_and ha hb).imp fun σ H Q ⟨c, e1, e2, k, o⟩ => by
  subst e1 e2
  refine ⟨c, rfl, rfl, k, Out.bind (P1 := fun _ _ v b => v = b) trT o fun v c1 b e1 s1 k1 i1 o1 => ?_⟩
  subst i1
  cases v with
  | true => exact iteT ⟨c1, e1, rfl, k1, o1⟩
  | false => exact iteF (o1.fin k1 rfl)
theorem bw_or {f g : M Bool} (ha : PT X a (tT n W f)) (hb : PW X (.BoolOp .Or (b :: rest) pos) (tT n W g)) : PW X (.BoolOp .Or (a :: b :: rest) pos) (tT n W (orT f g)) := (pw_or ha hb).imp fun σ H Q ⟨c, e1, e2, k, o⟩ => by
  subst e1 e2
  refine ⟨c, rfl, rfl, k, Out.bind (P1 := fun _ _ v b => v = b) trT o fun v c1 b e1 s1 k1 i1 o1 => ?_⟩
  subst i1
  cases v with
  | true => exact iteT (o1.fin k1 rfl)
  | false => exact iteF ⟨c1, e1, rfl, k1, o1⟩
/-! ### and, or, not, if as values -/
def blM (f : M Bool) : M L := do let b ← f; pure (.sh (.bl b))
def andM (f : M D) (g : M L) : M L := do
  let d ← f
  match d with
  | .bl b => if b then g else pure (.sh (.bl false))
  | _ => bad
def orM (f : M D) (g : M L) : M L := do
  let d ← f
  match d with
  | .bl b => if b then pure (.sh (.bl true)) else g
  | _ => bad
def notM (f : M D) : M L := do
  let d ← f
  match truD (.sh d) with
  | some b => pure (.sh (.bl !b))
  | none => bad
theorem be_one {op : BoolOp} {f : M L} (h : PE X a (tO n W f)) : PE X (.BoolOp op [a] pos) (tO n W f) := pe_one h
theorem be_and {f : M D} {g : M L} (ha : PE X a (tX n W f)) (hb : PE X (.BoolOp .And (b :: rest) pos) (tO n W g)) : PE X (.BoolOp .And (a :: b :: rest) pos) (tO n W (andM f g)) := (pe_and ha hb).imp fun σ H Q ⟨c, e1, e2, k, o⟩ => by
  subst e1 e2
  refine ⟨c, rfl, rfl, k, Out.bind (P1 := PX n) trO o fun v c1 d e1 s1 k1 i1 o1 => ?_⟩
  cases d with
  | bl b =>
    refine ⟨b, is_bl i1, ?_⟩
    cases b with
    | true => exact iteT ⟨c1, e1, rfl, k1, o1⟩
    | false => exact iteF (o1.sh k1 (.bl _))
  | _ => exact o1.not_bad
theorem be_or {f : M D} {g : M L} (ha : PE X a (tX n W f)) (hb : PE X (.BoolOp .Or (b :: rest) pos) (tO n W g)) : PE X (.BoolOp .Or (a :: b :: rest) pos) (tO n W (orM f g)) := (pe_or ha hb).imp fun σ H Q ⟨c, e1, e2, k, o⟩ => by
  subst e1 e2
  refine ⟨c, rfl, rfl, k, Out.bind (P1 := PX n) trO o fun v c1 d e1 s1 k1 i1 o1 => ?_⟩
  cases d with
  | bl b =>
    refine ⟨b, is_bl i1, ?_⟩
    cases b with
    | true => exact iteT (o1.sh k1 (.bl _))
    | false => exact iteF ⟨c1, e1, rfl, k1, o1⟩
  | _ => exact o1.not_bad
theorem be_not {f : M D} (ha : PE X a (tX n W f)) (hK : X.K = n.K) : PE X (.UnaryOp .Not a pos) (tO n W (notM f)) := (pe_notT ha).imp fun σ H Q ⟨c, e1, e2, k, o⟩ => by
  subst e1 e2
  refine ⟨c, rfl, rfl, k, Out.bind (P1 := PX n) trO o fun v c1 d e1 s1 k1 i1 o1 => ?_⟩
  rw [hK]
  cases q : truD (.sh d) with
  | none => rw [q] at o1; exact o1.not_bad
  | some b =>
    rw [q] at o1
    exact ⟨b, truD_ok k1 (show OIs n c1 v (.sh d) from i1) q, o1.sh k1 (.bl _)⟩
def ifM (t : M Bool) (f g : M L) : M L := do let b ← t; if b then f else g
theorem be_if {e : Expr} {t : M Bool} {f g : M L} (ht : PT X e (tT n W t)) (ha : PE X a (tO n W f)) (hb : PE X b (tO n W g)) : PE X (.IfExp e a b pos) (tO n W (ifM t f g)) := (pe_ifExp ht ha hb).imp fun σ H Q ⟨c, e1, e2, k, o⟩ => by
  subst e1 e2
  refine ⟨c, rfl, rfl, k, Out.bind (P1 := fun _ _ v b => v = b) trO o fun v c1 b e1 s1 k1 i1 o1 => ?_⟩
  subst i1
  cases v with
  | true => exact iteT ⟨c1, e1, rfl, k1, o1⟩
  | false => exact iteF ⟨c1, e1, rfl, k1, o1⟩
def negM (f : M D) : M L := do
  let d ← f
  match d with
  | .int i => pure (.sh (.int (-i)))
  | _ => bad
theorem be_neg {f : M D} (ha : PE X a (tX n W f)) : PE X (.UnaryOp .USub a pos) (tO n W (negM f)) := (pe_un un_neg ha).imp fun σ H Q ⟨c, e1, e2, k, o⟩ => by
  subst e1 e2
  refine ⟨c, rfl, rfl, k, Out.bind (P1 := PX n) trO o fun v c1 d e1 s1 k1 i1 o1 => ?_⟩
  cases d with
  | int z => exact ⟨z, is_int i1, o1.sh k1 (.int _)⟩
  | _ => exact o1.not_bad
/-! ### chains -/
def chK (fc : M D) (g' : D → D → M L) (y : D) (r : L) : M L := match r with
  | .sh (.bl b) => if b then (do let z ← fc; g' y z) else pure (.sh (.bl false))
  | _ => bad
def chM (fa fb fc : M D) (g g' : D → D → M L) : M L := do
  let x ← fa
  let y ← fb
  let r ← g x y
  chK fc g' y r
def blT (f : M L) : M Bool := f >>= fun x => match x with | .sh (.bl b) => (pure b : M Bool) | _ => bad
variable {op op' : CmpOp} {r r' : R2} {g g' : D → D → M L} {fa fb fc : M D} {e : Expr}
theorem be_tChain (h : OpS n W r g) (h' : OpS n W r' g') {σ : L2.St} {H : Hp} {Q : VK} (o : tO n W (chM fa fb fc g g') σ H Q) : tChain r r' (tX n W fa) (tX n W fb) (tX n W fc) σ H Q := by
  obtain ⟨c, rfl, rfl, k, o⟩ := o
  refine ⟨c, rfl, rfl, k, Out.bind (P1 := PX n) trO o fun x c1 d e1 s1 k1 i1 o1 => ?_⟩
  refine ⟨c1, e1, rfl, k1, Out.bind (P1 := PX n) trO o1 fun y c2 e e2 s2 k2 i2 o2 => ?_⟩
  refine h c2 x y d e _ k2 (s2.is i1) i2 (Out.bind (P1 := RV n) trO o2 fun v c3 l e3 s3 k3 r3 o3 => ?_)
  cases l with
  | sh w =>
    cases w with
    | bl b =>
      refine ⟨b, is_bl r3.is, ?_⟩
      cases b with
      | true =>
        have o3 : Out n W (RV n) c3 ((fc >>= fun z => g' e z) c3.S) Q := o3
        refine iteT ⟨c3, e3.trans (e2.trans e1), rfl, k3, Out.bind (P1 := PX n) trO o3 fun z c4 f e4 s4 k4 i4 o4 => ?_⟩
        exact h' c4 y z e f Q k4 (s4.is (s3.is i2)) i4 o4
      | false =>
        have o3 : Out n W (RV n) c3 (.ok (.sh (.bl false)) c3.S) Q := o3
        exact iteF (o3.sh k3 (.bl _))
    | _ => exact Out.not_bad (n := n) (W := W) (P := RV n) (c := c3) (Q := Q) o3
  | _ => exact Out.not_bad (n := n) (W := W) (P := RV n) (c := c3) (Q := Q) o3
theorem be_chain (ho : OpR X (compareOp op) r) (ho' : OpR X (compareOp op') r') (h : OpS n W r g) (h' : OpS n W r' g') (ha : PE X a (tX n W fa)) (hb : PE X b (tX n W fb)) (hc : PE X e (tX n W fc)) (hm : lastMarks [op, op'] [b, e] = false) :
    PE X (.Compare a [op, op'] [b, e] pos) (tO n W (chM fa fb fc g g')) := (pe_chain ho ho' ha hb hc hm).imp fun _ _ _ o => be_tChain h h' o
theorem bt_chain (ho : OpR X (compareOp op) r) (ho' : OpR X (compareOp op') r') (h : OpS n W r g) (h' : OpS n W r' g') (ha : PE X a (tX n W fa)) (hb : PE X b (tX n W fb)) (hc : PE X e (tX n W fc)) (hm : lastMarks [op, op'] [b, e] = false) :
    PT X (.Compare a [op, op'] [b, e] pos) (tT n W (blT (chM fa fb fc g g'))) := (pt_chain ho ho' ha hb hc hm).imp fun σ H Q ⟨c, e1, e2, k, o⟩ => be_tChain h h' ⟨c, e1, e2, k, Out.isBl o⟩
end
end Bv

/-! statements -/
namespace Bv
open PySem PySem.Spec PyProof.Rows L2
section
variable (n : Nm) (W : WX)
def ExcS (c : Cf) (C : Str) (fs : List (Str × D)) (S' : S) : Prop :=
  ∀ (Ca : Addr) (d : Option Addr) (c' : Cf), c'.S = S' → Stp c c' → Ok n c' → n.cA C = some Ca → XD n c' d fs → W (.ref Ca) d c'.σ c'.H
def OutS (c : Cf) (r : Fl) (E : Ends) : Prop := match r with
  | .nx S' => ∀ c', c'.S = S' → Stp c c' → Ok n c' → E.nx c'.σ c'.H
  | .rt l S' => ∀ v c', c'.S = S' → Stp c c' → Ok n c' → RV n c c' v l → E.rt v c'.H
  | .bk S' => ∀ c', c'.S = S' → Stp c c' → Ok n c' → E.bk c'.σ c'.H
  | .ct S' => ∀ c', c'.S = S' → Stp c c' → Ok n c' → E.ct c'.σ c'.H
  | .exc C fs S' => ExcS n W c C fs S'
  | .bad => False
def tS (f : MS) : TS := fun E σ H => ∃ c : Cf, c.σ = σ ∧ c.H = H ∧ Ok n c ∧ OutS n W c (f c.S) E
/-- m first, in a statement -/
def thS {α : Type} (m : M α) (k : α → MS) : MS := fun s => match m s with
  | .ok a s' => k a s'
  | .exc C fs s' => .exc C fs s'
  | .bad => .bad
end
variable {n : Nm} {W : WX} {X : Cx}
theorem OutS.later {c c' : Cf} {r : Fl} {E : Ends} (h : OutS n W c r E) (s : Stp c c') : OutS n W c' r E := by
  cases r with
  | nx S' => exact fun c2 h1 h2 h3 => h c2 h1 (s.trans h2) h3
  | rt l S' => exact fun v c2 h1 h2 h3 h4 => h v c2 h1 (s.trans h2) h3 (trO _ _ _ _ _ s h4)
  | bk S' => exact fun c2 h1 h2 h3 => h c2 h1 (s.trans h2) h3
  | ct S' => exact fun c2 h1 h2 h3 => h c2 h1 (s.trans h2) h3
  | exc C fs S' => exact fun Ca d c2 h1 h2 h3 h4 h5 => h Ca d c2 h1 (s.trans h2) h3 h4 h5
  | bad => exact h
theorem OutS.bind {α γ : Type} {P : Cf → Cf → γ → α → Prop} {c : Cf} {m : M α} {k : α → MS} {E : Ends} {Q1 : γ → Hp → Prop} (o : OutS n W c (thS m k c.S) E)
    (h : ∀ v c' a, c'.σ = c.σ → Stp c c' → Ok n c' → P c c' v a → OutS n W c' (k a c'.S) E → Q1 v c'.H) : Out n W P c (m c.S) Q1 := by
  unfold thS at o
  cases e : m c.S with
  | ok a S' =>
    rw [e] at o
    exact fun v c' h1 h2 h3 h4 h5 => h v c' a h2 h3 h4 h5 (by rw [h1]; exact o.later h3)
  | exc C fs S' => rw [e] at o; exact fun Ca d c' h1 h2 h3 h4 h5 h6 => o Ca d c' h1 h3 h4 h5 h6
  | bad => rw [e] at o; exact o
/-- what follows -/
def seqS (f g : MS) : MS := fun s => match f s with
  | .nx s' => g s'
  | r => r
theorem OutS.seq {c : Cf} {f g : MS} {E : Ends} (o : OutS n W c (seqS f g c.S) E) : OutS n W c (f c.S) { E with nx := tS n W g E } := by
  unfold seqS at o
  cases e : f c.S with
  | nx S' =>
    rw [e] at o
    exact fun c' h1 h2 h3 => ⟨c', rfl, rfl, h3, by rw [h1]; exact o.later h2⟩
  | rt l S' => rw [e] at o; exact o
  | bk S' => rw [e] at o; exact o
  | ct S' => rw [e] at o; exact o
  | exc C fs S' => rw [e] at o; exact o
  | bad => rw [e] at o; exact o
def nilS : MS := fun s => .nx s
section
variable {st : Stmt} {rest : List Stmt} {f g : MS}
theorem bss_nil : PSs X [] (tS n W nilS) := pss_nil.imp fun E σ H ⟨c, e1, e2, k, o⟩ => by
  subst e1 e2
  exact o c rfl (Stp.refl c) k
theorem bss_cons (h : PS X st (tS n W f)) (hs : PSs X rest (tS n W g)) : PSs X (st :: rest) (tS n W (seqS f g)) := (pss_cons h hs).imp fun E σ H ⟨c, e1, e2, k, o⟩ => ⟨c, e1, e2, k, o.seq⟩
theorem bs_pass {pos : Pos} : PS X (.Pass pos) (tS n W nilS) := ps_pass.imp fun E σ H ⟨c, e1, e2, k, o⟩ => by
  subst e1 e2
  exact o c rfl (Stp.refl c) k
theorem bs_break {pos : Pos} : PS X (.Break pos) (tS n W fun s => .bk s) := ps_break.imp fun E σ H ⟨c, e1, e2, k, o⟩ => by
  subst e1 e2
  exact o c rfl (Stp.refl c) k
theorem bs_continue {pos : Pos} : PS X (.Continue pos) (tS n W fun s => .ct s) := ps_continue.imp fun E σ H ⟨c, e1, e2, k, o⟩ => by
  subst e1 e2
  exact o c rfl (Stp.refl c) k
end
/-- an expression alone -/
def exS (f : M L) : MS := thS f fun _ s => .nx s
theorem bs_expr {e : Expr} {f : M L} {pos : Pos} (he : PE X e (tO n W f)) (hs : swapsWith e none pos.line X.env = pure false) : PS X (.Expr e pos) (tS n W (exS f)) := (ps_expr he hs).imp fun E σ H ⟨c, e1, e2, k, o⟩ => by
  subst e1 e2
  exact ⟨c, rfl, rfl, k, OutS.bind o fun v c1 a e1 s1 k1 r1 o1 => by rw [← e1]; exact o1 c1 rfl (Stp.refl c1) k1⟩
/-- return -/
def rtS (f : M L) : MS := thS f fun x s => .rt x s
theorem bs_ret {e : Expr} {f : M L} {pos : Pos} (he : PE X e (tO n W f)) : PS X (.Return (some e) pos) (tS n W (rtS f)) := (ps_ret he).imp fun E σ H ⟨c, e1, e2, k, o⟩ => by
  subst e1 e2
  refine ⟨c, rfl, rfl, k, ?_⟩
  unfold rtS thS at o
  cases q : f c.S with
  | ok x S' => rw [q] at o; exact fun v c' h1 h2 h3 h4 h5 => o v c' h1 h3 h4 h5
  | exc C fs S' => rw [q] at o; exact fun Ca d c' h1 h2 h3 h4 h5 h6 => o Ca d c' h1 h3 h4 h5 h6
  | bad => rw [q] at o; exact o
def rnS : MS := fun s => .rt (.sh .non) s
theorem bs_retN {pos : Pos} : PS X (.Return none pos) (tS n W rnS) := ps_retN.imp fun E σ H ⟨c, e1, e2, k, o⟩ => by
  subst e1 e2
  exact o .non c rfl (Stp.refl c) k ⟨.non, fun o => by cases o⟩
/-- a name handed back: an own object stays own -/
def mvN (i : Nat) : M L := fun s => match s.sl[i]? with
  | some (some x) => .ok x { s with sl := s.sl.set i none }
  | _ => .bad
theorem be_mv {i : Nat} {x : Str} {pos : Pos} (hN : X.N[i]? = some x) (hv : Vis X.env.scope x) (hd : (x == ("__debug__" : Str)) = false) (hcd : (x == ("__classdict__" : Str)) = false) : PE X (.Name x pos) (tO n W (mvN i)) :=
  (pe_var hN hv hd hcd).imp fun σ H Q ⟨c, e1, e2, k, o⟩ => by
    subst e1 e2
    unfold mvN at o
    cases e : c.S.sl[i]? with
    | none => rw [e] at o; exact o.not_bad
    | some y =>
      cases y with
      | none => rw [e] at o; exact o.not_bad
      | some y =>
        rw [e] at o
        obtain ⟨v, h1, h2⟩ := k.sl i y e
        have k2 : Ok n { c with S := { c.S with sl := c.S.sl.set i none } } := k.unown (fun d z => by cases z)
        refine ⟨v, h1, o v { c with S := { c.S with sl := c.S.sl.set i none } } rfl rfl ⟨Sub.refl _, fun _ _ h _ _ => h, fun _ h => .inl h, fun b h => .inl (unown_mut (c := c) (i := i) (y := none) (fun d z => by cases z) h), fun _ h => h, ⟨[], by simp⟩, rfl⟩ k2 ⟨by cases y <;> exact h2, fun oy a ea => ⟨?_, .inr (.inl ⟨i, y, e, oy, by rw [h1, ea]⟩)⟩⟩⟩
        rintro ⟨j, z, z1, z2, z3⟩
        by_cases hij : i = j
        · subst hij
          have z1 : (c.S.sl.set i none)[i]? = some (some z) := z1
          rw [List.getElem?_set_self', e] at z1
          cases z1
        · have z1 : (c.S.sl.set i none)[j]? = some (some z) := z1
          rw [List.getElem?_set_ne hij] at z1
          subst ea
          exact k.dist i j y z a hij e z1 oy z2 h1 z3
/-- if -/
def ifS (t : M Bool) (f g : MS) : MS := thS t fun b => if b then f else g
theorem bs_if {e : Expr} {a b : List Stmt} {t : M Bool} {f g : MS} {pos : Pos} (ht : PT X e (tT n W t)) (ha : PSs X a (tS n W f)) (hb : PSs X b (tS n W g)) : PS X (.If e a b pos) (tS n W (ifS t f g)) := (ps_if ht ha hb).imp fun E σ H ⟨c, e1, e2, k, o⟩ => by
  subst e1 e2
  refine ⟨c, rfl, rfl, k, OutS.bind o fun v c1 b e1 s1 k1 i1 o1 => ?_⟩
  have i1 : v = b := i1
  subst i1
  cases v with
  | true => exact iteT ⟨c1, e1, rfl, k1, o1⟩
  | false => exact iteF ⟨c1, e1, rfl, k1, o1⟩

/-! ### targets -/
/-- a slot gets a value -/
theorem Ok.put {c0 c : Cf} {v : V} {l : L} {i : Nat} (k : Ok n c) (s : Stp c0 c) (r : RV n c0 c v l) : Ok n { c with S := { c.S with sl := c.S.sl.set i (some l) }, σ := c.σ.set i (some v) } ∧ Stp c0 { c with S := { c.S with sl := c.S.sl.set i (some l) }, σ := c.σ.set i (some v) } := by
  have old : ∀ (j : Nat) (x : L), (c.S.sl.set i (some l))[j]? = some (some x) → (j = i ∧ x = l ∧ i < c.S.sl.length) ∨ (j ≠ i ∧ c.S.sl[j]? = some (some x)) := fun j x e => by
    by_cases hij : i = j
    · subst hij
      rw [List.getElem?_set_self'] at e
      cases q : c.S.sl[i]? with
      | none => rw [q] at e; cases e
      | some w =>
        rw [q] at e
        have e : some l = some x := by simpa using e
        exact .inl ⟨rfl, (Option.some.inj e).symm, (List.getElem?_eq_some_iff.mp q).1⟩
    · rw [List.getElem?_set_ne hij] at e
      exact .inr ⟨fun z => hij z.symm, e⟩
  have vals : ∀ (j : Nat), j ≠ i → (c.σ.set i (some v))[j]? = c.σ[j]? := fun j hj => List.getElem?_set_ne (fun z => hj z.symm)
  have valI : i < c.S.sl.length → (c.σ.set i (some v))[i]? = some (some v) := fun h => by rw [List.getElem?_set_self (by rw [← k.len]; exact h)]
  refine ⟨⟨by simp [k.len], k.sub, fun j x e => ?_, fun j1 j2 x y a hj h1 h2 o1 o2 s1 s2 => ?_, k.nd, k.slen, fun j o a h1 h2 => ?_, k.fφ⟩, ⟨s.F, s.H, s.new, fun b h => ?_, s.there, s.φ, s.an⟩⟩
  · rcases old j x e with ⟨rfl, rfl, hl⟩ | ⟨hj, e⟩
    · exact ⟨v, valI hl, by have := r.is; cases x <;> exact this⟩
    · obtain ⟨w, h1, h2⟩ := k.sl j x e
      exact ⟨w, (vals j hj).trans h1, by cases x <;> exact h2⟩
  · have h1 : (c.S.sl.set i (some l))[j1]? = some (some x) := h1
    have h2 : (c.S.sl.set i (some l))[j2]? = some (some y) := h2
    have s1 : (c.σ.set i (some v))[j1]? = some (some (V.ref a)) := s1
    have s2 : (c.σ.set i (some v))[j2]? = some (some (V.ref a)) := s2
    rcases old j1 x h1 with ⟨rfl, rfl, hl⟩ | ⟨hj1, e1⟩
    · rcases old j2 y h2 with ⟨rfl, _, _⟩ | ⟨hj2, e2⟩
      · exact hj rfl
      · rw [valI hl] at s1
        cases s1
        rw [vals j2 hj2] at s2
        exact (r.own o1 a rfl).1 ⟨j2, y, e2, o2, s2⟩
    · have t1 : c.σ[j1]? = some (some (V.ref a)) := (vals j1 hj1).symm.trans s1
      rcases old j2 y h2 with ⟨rfl, rfl, hl⟩ | ⟨hj2, e2⟩
      · rw [valI hl] at s2
        have s2 : v = V.ref a := Option.some.inj (Option.some.inj s2)
        exact (r.own o2 a s2).1 ⟨j1, x, e1, o1, t1⟩
      · rw [vals j2 hj2] at s2
        exact k.dist j1 j2 x y a hj e1 e2 o1 o2 t1 s2
  · have z := k.st j o a h1 h2
    cases o <;> exact z
  · rcases h with ⟨j, x, e1, o1, e3⟩ | h
    · have e1 : (c.S.sl.set i (some l))[j]? = some (some x) := e1
      have e3 : (c.σ.set i (some v))[j]? = some (some (V.ref b)) := e3
      rcases old j x e1 with ⟨rfl, rfl, hl⟩ | ⟨hj, e1⟩
      · rw [valI hl] at e3
        cases e3
        rcases (r.own o1 b rfl).2 with z | z
        · exact .inr z
        · exact .inl z
      · rw [vals j hj] at e3
        exact s.mono b (.inl ⟨j, x, e1, o1, e3⟩)
    · exact s.mono b (.inr h)
/-- a target by value -/
abbrev AS := L → S → Option S
structure Agr (ix : List Nat) (σ σ' : List (Option V)) : Prop where
  len : σ'.length = σ.length
  get : ∀ j : Nat, j ∉ ix → σ'[j]? = σ[j]?
def tG (n : Nm) (ix : List Nat) (a : AS) : TG := fun v σ H Q => ∃ (c0 c : Cf) (l : L), c.σ = σ ∧ c.H = H ∧ Stp c0 c ∧ Ok n c ∧ RV n c0 c v l ∧ ∃ S', a l c.S = some S' ∧ ∀ c', c'.S = S' → Stp c0 c' → Ok n c' → Agr ix c.σ c'.σ → Q c'.σ c'.H
theorem _root_.L2.PG.imp {e : Expr} {t t' : TG} (h : PG X e t) (q : ∀ v σ H Q, t' v σ H Q → t v σ H Q) : PG X e t' := ⟨fun pins s σ H v u Q I r hw => h.run pins s σ H v u Q I r (q v σ H Q hw)⟩
def asN (i : Nat) : AS := fun l s => some { s with sl := s.sl.set i (some l) }
theorem bg_name {i : Nat} {x : Str} {pos : Pos} (hN : X.N.Nodup) (hi : X.N[i]? = some x) (hx : Loc X.env.scope x) (hf : X.fn x = true ∨ X.env.scope.names.lookup x = some .local) : PG X (.Name x pos) (tG n [i] (asN i)) := (pg_name hN hi hx hf).imp fun v σ H Q ⟨c0, c, l, e1, e2, s, k, r, S', e3, q⟩ => by
  subst e1 e2
  cases e3
  obtain ⟨k2, s2⟩ := k.put (i := i) s r
  exact q { c with S := { c.S with sl := c.S.sl.set i (some l) }, σ := c.σ.set i (some v) } rfl s2 k2 ⟨List.length_set, fun j hj => List.getElem?_set_ne (fun z => hj (by simp [z]))⟩
/-- several targets, from the left -/
def asL : List AS → List D → S → Option S
  | [], [], s => some s
  | a :: as, d :: ds, s => match a (.sh d) s with
    | some s' => asL as ds s'
    | none => none
  | _, _, _ => none
def tGs (n : Nm) (ix : List Nat) (as : List AS) : TGs := fun vs σ H Q => ∃ (c0 c : Cf) (ds : List D), c.σ = σ ∧ c.H = H ∧ Stp c0 c ∧ Ok n c ∧ IsL n c.F c.φ vs ds ∧ ∃ S', asL as ds c.S = some S' ∧ ∀ c', c'.S = S' → Stp c0 c' → Ok n c' → Agr ix c.σ c'.σ → Q c'.σ c'.H
theorem Agr.refl (ix : List Nat) (σ : List (Option V)) : Agr ix σ σ := ⟨rfl, fun _ _ => rfl⟩
theorem Agr.trans {ix iy : List Nat} {σ σ1 σ2 : List (Option V)} (a : Agr ix σ σ1) (b : Agr iy σ1 σ2) : Agr (ix ++ iy) σ σ2 := ⟨b.len.trans a.len, fun j hj => by
  simp only [List.mem_append, not_or] at hj
  exact (b.get j hj.2).trans (a.get j hj.1)⟩
theorem _root_.L2.PGs.imp {e : List Expr} {t t' : TGs} (h : PGs X e t) (q : ∀ v σ H Q, t' v σ H Q → t v σ H Q) : PGs X e t' := ⟨fun pins s σ H v u Q I r hw => h.run pins s σ H v u Q I r (q v σ H Q hw)⟩
theorem bgs_nil : PGs X [] (tGs n [] []) := pgs_nil.imp fun vs σ H Q ⟨c0, c, ds, e1, e2, s, k, i, S', e3, q⟩ => by
  subst e1 e2
  cases ds with
  | nil =>
    cases i
    cases e3
    exact ⟨rfl, q c rfl s k (Agr.refl _ _)⟩
  | cons d ds => cases e3
theorem bgs_cons {e : Expr} {es : List Expr} {a : AS} {as : List AS} {ix iy : List Nat} (h : PG X e (tG n ix a)) (hs : PGs X es (tGs n iy as)) (he : (assignEach (e :: es) X.env).map (·.2) = assign e X.env :: (assignEach es X.env).map (·.2)) : PGs X (e :: es) (tGs n (ix ++ iy) (a :: as)) := (pgs_cons h hs he).imp fun vs σ H Q ⟨c0, c, ds, e1, e2, s, k, i, S', e3, q⟩ => by
  subst e1 e2
  cases ds with
  | nil => cases e3
  | cons d ds =>
    cases vs with
    | nil => cases i
    | cons v vs =>
      obtain ⟨h1, t⟩ : Is n c.F c.φ v d ∧ IsL n c.F c.φ vs ds := by cases i with | cons h t => exact ⟨h, t⟩
      unfold asL at e3
      cases q1 : a (.sh d) c.S with
      | none => rw [q1] at e3; cases e3
      | some S1 =>
        rw [q1] at e3
        exact ⟨v, vs, rfl, c, c, .sh d, rfl, rfl, Stp.refl c, k, ⟨OIs.sh h1, fun o => by cases o⟩, S1, q1, fun c1 h2 s1 k1 g1 => ⟨c0, c1, ds, rfl, rfl, s.trans s1, k1, s1.isL t, S', by rw [h2]; exact e3, fun c2 h3 s2 k2 g2 => q c2 h3 s2 k2 (g1.trans g2)⟩⟩
def asT (as : List AS) : AS := fun l s => match l with
  | .sh (.tup ds) => asL as ds s
  | _ => none
theorem bg_tup {es : List Expr} {k1 : Nat} {as : List AS} {pos : Pos} {ix : List Nat} (hc : X.calm = true) (hK : X.K = n.K) (hl : (assignEach es X.env).length = as.length) (hst : (assignEach es X.env).findIdx? (·.1) = none) (h : PGs X es (tGs n ix as)) : PG X (.Tuple es k1 pos) (tG n ix (asT as)) := (pg_tup (n := as.length) hc h hl hst).imp fun v σ H Q ⟨c0, c, l, e1, e2, s, k, r, S', e3, q⟩ => by
  subst e1 e2
  cases l with
  | sh d =>
    cases d with
    | tup ds =>
      have e3 : asL as ds c.S = some S' := e3
      have ri : Is n c.F c.φ v (.tup ds) := r.is
      obtain ⟨a, vs, rfl, h1, h2⟩ := is_tup ri
      refine ⟨a, vs, rfl, by rw [hK]; exact k.sub.seqT h1, ?_, c0, c, ds, rfl, rfl, s, k, h2, S', e3, q⟩
      rw [h2.length]
      have key : ∀ (as : List AS) (ds : List D) (s s' : S), asL as ds s = some s' → ds.length = as.length := by
        intro as
        induction as with
        | nil => intro ds s s' h; cases ds with
          | nil => rfl
          | cons d ds => cases h
        | cons a as ih => intro ds s s' h; cases ds with
          | nil => cases h
          | cons d ds =>
            unfold asL at h
            cases q : a (.sh d) s with
            | none => rw [q] at h; cases h
            | some s1 => rw [q] at h; rw [List.length_cons, List.length_cons, ih ds s1 s' h]
      exact key as ds c.S S' e3
    | _ => cases e3
  | _ => cases e3
/-! ### assignments -/
def agS (f : M L) (a : AS) : MS := thS f fun x s => match a x s with
  | some s' => .nx s'
  | none => .bad
theorem as_ok {c c1 : Cf} {v : V} {x : L} {a : AS} {E : Ends} {ix : List Nat} (s1 : Stp c c1) (k1 : Ok n c1) (r1 : RV n c c1 v x) (o1 : OutS n W c (match a x c1.S with | some s' => .nx s' | none => .bad) E) : tG n ix a v c1.σ c1.H E.nx := by
  cases q : a x c1.S with
  | none => rw [q] at o1; exact False.elim o1
  | some S' =>
    rw [q] at o1
    exact ⟨c, c1, x, rfl, rfl, s1, k1, r1, S', q, fun c' h1 h2 h3 _ => o1 c' h1 h2 h3⟩
theorem OutS.asg {c : Cf} {f : M L} {a : AS} {E : Ends} {ix : List Nat} (o : OutS n W c (agS f a c.S) E) : Out n W (RV n) c (f c.S) (fun v H' => tG n ix a v c.σ H' E.nx) := by
  unfold agS thS at o
  cases e : f c.S with
  | ok x S' =>
    rw [e] at o
    intro v c' h1 h2 h3 h4 h5
    rw [← h2]
    exact as_ok h3 h4 h5 (by rw [h1]; exact o)
  | exc C fs S' => rw [e] at o; exact fun Ca d c' h1 h2 h3 h4 h5 h6 => o Ca d c' h1 h3 h4 h5 h6
  | bad => rw [e] at o; exact o
theorem bs_asg {tg e : Expr} {f : M L} {a : AS} {pos : Pos} {ix : List Nat} (he : PE X e (tO n W f)) (hg : PG X tg (tG n ix a)) (hs : swapsWithSole [tg] e pos.line X.env = pure false) (hw : swappedStores [tg] e X.env = pure none) (h1 : (assignEach [tg] X.env).map (·.2) = [assign tg X.env]) : PS X (.Assign [tg] e pos) (tS n W (agS f a)) := (ps_asg he hg hs hw h1).imp fun E σ H ⟨c, e1, e2, k, o⟩ => by
  subst e1 e2
  exact ⟨c, rfl, rfl, k, o.asg⟩
end Bv

/-! loops -/
namespace Bv
open PySem PySem.Spec PyProof.Rows L2
variable {n : Nm} {W : WX} {X : Cx}
structure Fwd (c c' : Cf) : Prop where
  F : Sub c.F c'.F
  φ : ∃ ψ, c'.φ = c.φ ++ ψ
theorem Fwd.refl (c : Cf) : Fwd c c := ⟨Sub.refl _, [], by simp⟩
theorem Fwd.step {c c' c'' : Cf} (a : Fwd c c') (s : Stp c' c'') : Fwd c c'' := ⟨a.F.trans s.F, by
  obtain ⟨p, e⟩ := a.φ
  obtain ⟨q, f⟩ := s.φ
  exact ⟨p ++ q, by rw [f, e, List.append_assoc]⟩⟩
theorem Fwd.is {c c' : Cf} (s : Fwd c c') {v : V} {d : D} (h : Is n c.F c.φ v d) : Is n c'.F c'.φ v d := by
  obtain ⟨ψ, e⟩ := s.φ
  rw [e]; exact h.mono s.F
/-- what is walked: at each turn the next of ds -/
structure Wk (n : Nm) (c1 : Cf) (J : It) (ds : List D) : Prop where
  go : ∀ (i : Nat) (c : Cf), i < ds.length → Ok n c → Fwd c1 c → J.go i c.H
  yld : ∀ (i : Nat) (c : Cf) (x : V) (H' : Hp), i < ds.length → Ok n c → Fwd c1 c → J.yld i c.H x H' → ∃ (c2 : Cf) (d : D), c2.S = c.S ∧ c2.σ = c.σ ∧ c2.H = H' ∧ Stp c c2 ∧ Ok n c2 ∧ ds[i]? = some d ∧ Is n c2.F c2.φ x d
  stop : ∀ (c : Cf), Ok n c → Fwd c1 c → J.stop ds.length c.H
def tI (n : Nm) (W : WX) (f : M (List D)) : TI := fun σ H R => ∃ c : Cf, c.σ = σ ∧ c.H = H ∧ Ok n c ∧ Out n W (fun _ c' J ds => Wk n c' J ds) c (f c.S) R
theorem trI : Trans (fun (_ : Cf) c' (J : It) ds => Wk n c' J ds) := fun _ _ _ _ _ _ h => h
theorem _root_.L2.PI.imp {tg e : Expr} {t t' : TI} (h : PI X tg e t) (q : ∀ σ H Q, t' σ H Q → t σ H Q) : PI X tg e t' := ⟨fun pins s σ H Q I hw => h.run pins s σ H Q I (q σ H Q hw)⟩
theorem _root_.L2.PI.or {tg e : Expr} {t t' : TI} (h : PI X tg e t) (h' : PI X tg e t') : PI X tg e (fun σ H R => t σ H R ∨ t' σ H R) := ⟨fun pins s σ H Q I hw => by
  rcases hw with hw | hw
  · exact h.run pins s σ H Q I hw
  · exact h'.run pins s σ H Q I hw⟩
/-- over a list or a tuple -/
theorem wk_list {c1 : Cf} {a : Addr} {vs : List V} {ds : List D} (h : c1.F a = some (.lst vs)) (i : IsL n c1.F c1.φ vs ds) : Wk n c1 (Itl n.K a) ds where
  go := fun j c hj k f => by
    have q : SqL n.K c.H a vs := .of (k.sub _ _ (f.F _ _ h))
    exact ⟨vs, vs[j]'(by rw [i.length]; exact hj), q, List.getElem?_eq_getElem _⟩
  yld := fun j c x H' hj k f y => by
    have q : SqL n.K c.H a vs := .of (k.sub _ _ (f.F _ _ h))
    obtain ⟨e, y⟩ := y
    subst e
    obtain ⟨d, h1, h2⟩ := i.getV (y vs q)
    exact ⟨c, d, rfl, rfl, rfl, Stp.refl c, k, h1, f.is h2⟩
  stop := fun c k f => ⟨vs, .of (k.sub _ _ (f.F _ _ h)), by rw [i.length]; exact Nat.le_refl _⟩
theorem wk_scr {c1 : Cf} {a : Addr} {vs : List V} {ds : List D} (h : SqL n.K c1.F a vs) (i : IsL n c1.F c1.φ vs ds) : Wk n c1 (Itl n.K a) ds where
  go := fun j c hj k f => by
    have q : SqL n.K c.H a vs := k.sub.seqL (f.F.seqL h)
    exact ⟨vs, vs[j]'(by rw [i.length]; exact hj), q, List.getElem?_eq_getElem _⟩
  yld := fun j c x H' hj k f y => by
    have q : SqL n.K c.H a vs := k.sub.seqL (f.F.seqL h)
    obtain ⟨e, y⟩ := y
    subst e
    obtain ⟨d, h1, h2⟩ := i.getV (y vs q)
    exact ⟨c, d, rfl, rfl, rfl, Stp.refl c, k, h1, f.is h2⟩
  stop := fun c k f => ⟨vs, k.sub.seqL (f.F.seqL h), by rw [i.length]; exact Nat.le_refl _⟩
theorem wk_tup {c1 : Cf} {a : Addr} {vs : List V} {ds : List D} (h : SqT n.K c1.F a vs) (i : IsL n c1.F c1.φ vs ds) : Wk n c1 (Itt n.K a) ds where
  go := fun j c hj k f => by
    have q : SqT n.K c.H a vs := k.sub.seqT (f.F.seqT h)
    exact ⟨vs, vs[j]'(by rw [i.length]; exact hj), q, List.getElem?_eq_getElem _⟩
  yld := fun j c x H' hj k f y => by
    have q : SqT n.K c.H a vs := k.sub.seqT (f.F.seqT h)
    obtain ⟨e, y⟩ := y
    subst e
    obtain ⟨d, h1, h2⟩ := i.getV (y vs q)
    exact ⟨c, d, rfl, rfl, rfl, Stp.refl c, k, h1, f.is h2⟩
  stop := fun c k f => ⟨vs, k.sub.seqT (f.F.seqT h), by rw [i.length]; exact Nat.le_refl _⟩
def itD (d : D) : M (List D) := match d with
  | .lst ds => pure ds
  | .scr ds => pure ds
  | .tup ds => pure ds
  | _ => bad
def itM (f : M D) : M (List D) := do let d ← f; itD d
theorem bi_seq {tg e : Expr} {f : M D} (h : PE X e (tX n W f)) (hK : X.K = n.K) : PI X tg e (tI n W (itM f)) := (PI.or (pi_list h) (pi_tup h)).imp fun σ H R ⟨c, e1, e2, k, o⟩ => by
  subst e1 e2
  -- which of the two is told by the value at the end of the run: both readings begin with the same run
  unfold itM at o
  have o : Out n W (fun _ c' J ds => Wk n c' J ds) c (M.bind f itD c.S) R := o
  unfold M.bind at o
  cases q : f c.S with
  | ok d S' =>
    rw [q] at o
    cases d with
    | lst ds =>
      refine .inl ⟨c, rfl, rfl, k, ?_⟩
      rw [q]
      intro x c1 h1 h2 h3 h4 h5
      obtain ⟨a, vs, rfl, h6, h7⟩ := is_lst h5
      refine ⟨a, rfl, ⟨vs, .of (h4.sub _ _ h6)⟩, ?_⟩
      rw [hK]
      exact o (Itl n.K a) c1 h1 h2 h3 h4 (wk_list h6 h7)
    | scr ds =>
      refine .inl ⟨c, rfl, rfl, k, ?_⟩
      rw [q]
      intro x c1 h1 h2 h3 h4 h5
      have h5 : Is n c1.F c1.φ x (.scr ds) := h5
      cases h5 with
      | scr h6 h7 =>
        refine ⟨_, rfl, ⟨_, by rw [hK]; exact h4.sub.seqL h6⟩, ?_⟩
        rw [hK]
        exact o (Itl n.K _) c1 h1 h2 h3 h4 (wk_scr h6 h7)
    | tup ds =>
      refine .inr ⟨c, rfl, rfl, k, ?_⟩
      rw [q]
      intro x c1 h1 h2 h3 h4 h5
      obtain ⟨a, vs, rfl, h6, h7⟩ := is_tup h5
      refine ⟨a, rfl, ⟨vs, by rw [hK]; exact h4.sub.seqT h6⟩, ?_⟩
      rw [hK]
      exact o (Itt n.K a) c1 h1 h2 h3 h4 (wk_tup h6 h7)
    | _ => exact o.not_bad
  | exc C fs S' =>
    rw [q] at o
    refine .inl ⟨c, rfl, rfl, k, ?_⟩
    rw [q]; exact o
  | bad => rw [q] at o; exact o.not_bad
/-- over a range -/
def rgD (a : Int) (m : Nat) : List D := (List.range m).map fun i => .int (a + (i : Nat))
def rg1W (ds : List D) : M (List D) := match ds with
  | [.int j] => if decide (-(2 ^ 62) ≤ j) && decide (j < 2 ^ 62) then pure (rgD 0 j.toNat) else bad
  | _ => bad
def rg2W (ds : List D) : M (List D) := match ds with
  | [.int i, .int j] => if decide (-(2 ^ 62) ≤ i) && decide (i < 2 ^ 62) && decide (-(2 ^ 62) ≤ j) && decide (j < 2 ^ 62) then pure (rgD i (j - i).toNat) else bad
  | _ => bad
def rgC (a c : Int) (m : Nat) : List D := (List.range m).map fun i => .int (a + (i : Nat) * c)
def rg3W (ds : List D) : M (List D) := match ds with
  | [.int i, .int j, .int c] => if decide (c ≠ 0) && decide (c.natAbs < 1073741824) && Builtin.Range.small i j c then pure (rgC i c (Builtin.Range.rangeSize i j c).toNat) else bad
  | _ => bad
def rgM (fs : M (List D)) (g : List D → M (List D)) : M (List D) := do let ds ← fs; g ds
theorem rgD_get {a : Int} {m i : Nat} (h : i < (rgD a m).length) : (rgD a m)[i]? = some (.int (a + (i : Nat))) := by
  unfold rgD at h ⊢
  rw [List.length_map, List.length_range] at h
  rw [List.getElem?_map, List.getElem?_range h]
  rfl
theorem wk_range {c1 : Cf} {a : Int} {m : Nat} : Wk n c1 (Itr a m) (rgD a m) where
  go := fun j c hj k f => by
    show j < m
    have : (rgD a m).length = m := by unfold rgD; rw [List.length_map, List.length_range]
    rw [this] at hj; exact hj
  yld := fun j c x H' hj k f y => by
    obtain ⟨e, y⟩ := y
    subst e y
    exact ⟨c, _, rfl, rfl, rfl, Stp.refl c, k, rgD_get hj, .int _⟩
  stop := fun c k f => by
    have : (rgD a m).length = m := by unfold rgD; rw [List.length_map, List.length_range]
    rw [this]
    exact Nat.le_refl _
theorem bi_range1 {tg a : Expr} {p pos : Pos} {fs : M (List D)} (hg : Gl X "range") (hm : X.mg "range" = none) (ha : PA X [a] (tA n W fs)) (hs : starEach [a] X.env = [(false, eval a X.env)]) : PI X tg (.Call (.Name "range" p) [a] [] pos) (tI n W (rgM fs rg1W)) := (pi_range1 hg hm ha hs).imp fun σ H R ⟨c, e1, e2, k, o⟩ => by
  subst e1 e2
  refine ⟨c, rfl, rfl, k, Out.bind (P1 := PL n) trI o fun vs c1 ds e1 s1 k1 i1 o1 => ?_⟩
  unfold rg1W at o1
  split at o1
  · rename_i j
    split at o1
    · rename_i hz
      simp only [Bool.and_eq_true, decide_eq_true_eq] at hz
      obtain ⟨v, rfl, hv⟩ : ∃ v, vs = [v] ∧ Is n c1.F c1.φ v (.int j) := by
        cases i1 with
        | cons h t => cases t; exact ⟨_, rfl, h⟩
      rw [is_int hv]
      exact ⟨j, rfl, hz.1, hz.2, o1.fin k1 wk_range⟩
    · exact o1.not_bad
  · exact o1.not_bad
theorem bi_range2 {tg a b : Expr} {p pos : Pos} {fs : M (List D)} (hg : Gl X "range") (hm : X.mg "range" = none) (ha : PA X [a, b] (tA n W fs)) (hs : starEach [a, b] X.env = [(false, eval a X.env), (false, eval b X.env)]) (hs2 : starEach [b] X.env = [(false, eval b X.env)]) : PI X tg (.Call (.Name "range" p) [a, b] [] pos) (tI n W (rgM fs rg2W)) := (pi_range2 hg hm ha hs hs2).imp fun σ H R ⟨c, e1, e2, k, o⟩ => by
  subst e1 e2
  refine ⟨c, rfl, rfl, k, Out.bind (P1 := PL n) trI o fun vs c1 ds e1 s1 k1 i1 o1 => ?_⟩
  unfold rg2W at o1
  split at o1
  · rename_i i j
    split at o1
    · rename_i hz
      simp only [Bool.and_eq_true, decide_eq_true_eq] at hz
      obtain ⟨v, w, rfl, hv, hw⟩ : ∃ v w, vs = [v, w] ∧ Is n c1.F c1.φ v (.int i) ∧ Is n c1.F c1.φ w (.int j) := by
        cases i1 with
        | cons h t =>
          cases t with
          | cons h2 t => cases t; exact ⟨_, _, rfl, h, h2⟩
      rw [is_int hv, is_int hw]
      exact ⟨i, j, rfl, ⟨hz.1.1.1, hz.1.1.2, hz.1.2, hz.2⟩, o1.fin k1 wk_range⟩
    · exact o1.not_bad
  · exact o1.not_bad
/-! ### for -/
def asg1 (a : AS) (d : D) (s : S) : Option S := a (.sh d) s
def forB (a : AS) (f : MS) : List D → MS
  | [], s => .nx s
  | d :: ds, s => match a (.sh d) s with
    | none => .bad
    | some s1 => (match f s1 with
      | .nx s2 => forB a f ds s2
      | .ct s2 => forB a f ds s2
      | .bk s2 => .nx s2
      | r => r)
def forS (m : M (List D)) (a : AS) (f : MS) : MS := thS m fun ds => forB a f ds
theorem bs_for {tg iter : Expr} {body : List Stmt} {m : M (List D)} {a : AS} {f : MS} {pos : Pos} {ix : List Nat} (hp : PassesOwn (model X.prog X.w) X.A X.env X.xe) (hc : X.calm = true) (hi : PI X tg iter (tI n W m)) (hg : PG X tg (tG n ix a)) (hb : PSs X body (tS n W f))
    (hs : ∀ x, foldedSetIterable iter X.env x = pure x) : PS X (.For tg iter body [] pos) (tS n W (forS m a f)) := (ps_for hp hc hi hg hb hs).imp fun E σ H ⟨c, e1, e2, k, o⟩ => by
  subst e1 e2
  refine ⟨c, rfl, rfl, k, OutS.bind o fun J c1 ds e1 s1 k1 w1 o1 => ?_⟩
  refine ⟨fun i m σ H => m = ds.length - i ∧ i ≤ ds.length ∧ ∃ c2 : Cf, c2.σ = σ ∧ c2.H = H ∧ Ok n c2 ∧ Fwd c1 c2 ∧ OutS n W c2 (forB a f (ds.drop i) c2.S) E, ⟨ds.length, by simp, Nat.zero_le _, c1, e1, rfl, k1, Fwd.refl c1, o1⟩, ?_⟩
  rintro i m σ H ⟨rfl, hi, c2, rfl, rfl, k2, f2, o2⟩
  by_cases hlt : i < ds.length
  · refine .inr ⟨w1.go i c2 hlt k2 f2, fun σ' H' => ∃ c4 : Cf, c4.σ = σ' ∧ c4.H = H' ∧ Ok n c4 ∧ Fwd c1 c4 ∧ OutS n W c4 (forB a f (ds.drop (i + 1)) c4.S) E, fun σ' H' hN => ⟨ds.length - (i + 1), by omega, rfl, hlt, hN⟩, fun x H' y => ?_⟩
    obtain ⟨c3, d, h1, h2, h3, s3, k3, h4, h5⟩ := w1.yld i c2 x H' hlt k2 f2 y
    subst h3
    have hd : ds.drop i = d :: ds.drop (i + 1) := by
      rw [List.getElem?_eq_getElem hlt] at h4
      rw [List.drop_eq_getElem_cons hlt]
      have := Option.some.inj h4
      rw [this]
    rw [hd] at o2
    unfold forB at o2
    rw [← h1] at o2
    cases q : a (.sh d) c3.S with
    | none => rw [q] at o2; exact o2.elim
    | some S1 =>
      rw [q] at o2
      dsimp only at o2
      have o3 := o2.later s3
      refine ⟨c3, c3, .sh d, h2, rfl, Stp.refl c3, k3, ⟨OIs.sh h5, fun z => by cases z⟩, S1, q, fun c4 h6 s4 k4 _ => ⟨c4, rfl, rfl, k4, ?_⟩⟩
      have o4 := o3.later s4
      rw [h6]
      have f4 : Fwd c1 c4 := (f2.step s3).step s4
      cases q2 : f S1 with
      | nx S2 => rw [q2] at o4; exact fun c5 h7 s5 k5 => ⟨c5, rfl, rfl, k5, f4.step s5, by rw [h7]; exact o4.later s5⟩
      | ct S2 => rw [q2] at o4; exact fun c5 h7 s5 k5 => ⟨c5, rfl, rfl, k5, f4.step s5, by rw [h7]; exact o4.later s5⟩
      | bk S2 => rw [q2] at o4; exact o4
      | rt l S2 => rw [q2] at o4; exact o4
      | exc C fs S2 => rw [q2] at o4; exact o4
      | bad => rw [q2] at o4; exact o4
  · have e : i = ds.length := by omega
    subst e
    rw [List.drop_length] at o2
    exact .inl ⟨w1.stop c2 k2 f2, o2 c2 rfl (Stp.refl c2) k2⟩
/-! ### while, a number of turns at most -/
def whB (t : M Bool) (f : MS) : Nat → MS
  | 0, _ => .bad
  | m + 1, s => match t s with
    | .ok true s1 => (match f s1 with
      | .nx s2 => whB t f m s2
      | .ct s2 => whB t f m s2
      | .bk s2 => .nx s2
      | r => r)
    | .ok false s1 => .nx s1
    | .exc C fs s1 => .exc C fs s1
    | .bad => .bad
theorem bs_while {e : Expr} {body : List Stmt} {t : M Bool} {f : MS} {pos : Pos} (m : Nat) (hp : PassesOwn (model X.prog X.w) X.A X.env X.xe) (ht : PT X e (tT n W t)) (hb : PSs X body (tS n W f)) : PS X (.While e body [] pos) (tS n W (whB t f m)) := (ps_while hp ht hb).imp fun E σ H ⟨c, e1, e2, k, o⟩ => by
  subst e1 e2
  refine ⟨fun m σ H => ∃ c2 : Cf, c2.σ = σ ∧ c2.H = H ∧ Ok n c2 ∧ OutS n W c2 (whB t f m c2.S) E, ⟨m, c, rfl, rfl, k, o⟩, ?_⟩
  rintro m σ H ⟨c2, rfl, rfl, k2, o2⟩
  refine ⟨c2, rfl, rfl, k2, ?_⟩
  cases m with
  | zero => exact o2.elim
  | succ m =>
    unfold whB at o2
    cases q : t c2.S with
    | bad => rw [q] at o2; exact o2.elim
    | exc C fs S1 => rw [q] at o2; exact fun Ca d c' h1 h2 h3 h4 h5 h6 => o2 Ca d c' h1 h3 h4 h5 h6
    | ok b S1 =>
      rw [q] at o2
      intro v c3 h1 h2 s3 k3 h3
      have h3 : v = b := h3
      subst h3
      cases v with
      | false => exact iteF (by rw [← h2]; exact o2 c3 h1 s3 k3)
      | true =>
        refine iteT ⟨fun σ' H' => ∃ c4 : Cf, c4.σ = σ' ∧ c4.H = H' ∧ Ok n c4 ∧ OutS n W c4 (whB t f m c4.S) E, fun σ' H' hN => ⟨m, Nat.lt_succ_self m, hN⟩, c3, h2, rfl, k3, ?_⟩
        rw [h1]
        dsimp only at o2
        have o3 := o2.later s3
        cases q2 : f S1 with
        | nx S2 => rw [q2] at o3; exact fun c5 h7 s5 k5 => ⟨c5, rfl, rfl, k5, by rw [h7]; exact o3.later s5⟩
        | ct S2 => rw [q2] at o3; exact fun c5 h7 s5 k5 => ⟨c5, rfl, rfl, k5, by rw [h7]; exact o3.later s5⟩
        | bk S2 => rw [q2] at o3; exact o3
        | rt l S2 => rw [q2] at o3; exact o3
        | exc C fs S2 => rw [q2] at o3; exact o3
        | bad => rw [q2] at o3; exact o3
end Bv

/-! comprehensions -/
namespace Bv
open PySem PySem.Spec PyProof.Rows L2
variable {n : Nm} {W : WX} {X : Cx}
/-- nothing is raised within a block -/
def WF : WX := fun _ _ _ _ => False
def wipeS (s : S) : List Nat → S
  | [] => s
  | v :: vs => { wipeS s vs with sl := (wipeS s vs).sl.set v none }
theorem wipeS_len (s : S) : ∀ vs : List Nat, (wipeS s vs).sl.length = s.sl.length
  | [] => rfl
  | v :: vs => by
    show ((wipeS s vs).sl.set v none).length = _
    rw [List.length_set, wipeS_len s vs]
theorem wipeS_st (s : S) : ∀ vs : List Nat, (wipeS s vs).st = s.st
  | [] => rfl
  | v :: vs => wipeS_st s vs
theorem wipeS_some {s : S} {i : Nat} {x : L} : ∀ {vs : List Nat}, (wipeS s vs).sl[i]? = some (some x) → s.sl[i]? = some (some x) ∧ i ∉ vs
  | [], h => ⟨h, by simp⟩
  | v :: vs, h => by
    have h : ((wipeS s vs).sl.set v none)[i]? = some (some x) := h
    by_cases hi : v = i
    · subst hi
      rw [List.getElem?_set_self'] at h
      cases q : (wipeS s vs).sl[v]? with
      | none => rw [q] at h; cases h
      | some w => rw [q] at h; cases h
    · rw [List.getElem?_set_ne hi] at h
      obtain ⟨h1, h2⟩ := wipeS_some h
      exact ⟨h1, by simp only [List.mem_cons, not_or]; exact ⟨fun e => hi e.symm, h2⟩⟩
theorem wipe_get {σ : L2.St} {i : Nat} : ∀ {vs : List Nat}, i ∉ vs → (wipe σ vs)[i]? = σ[i]?
  | [], _ => rfl
  | v :: vs, h => by
    simp only [List.mem_cons, not_or] at h
    show ((wipe σ vs).set v none)[i]? = _
    rw [List.getElem?_set_ne (fun e => h.1 e.symm)]
    exact wipe_get h.2
/-- the block's own slots as they were ahead -/
def restS (s0 s : S) (vs : List Nat) : S := { s with sl := (List.range s.sl.length).map fun i => if i ∈ vs then (s0.sl[i]?).getD none else (s.sl[i]?).getD none }
theorem restS_len (s0 s : S) (vs : List Nat) : (restS s0 s vs).sl.length = s.sl.length := by
  show ((List.range s.sl.length).map _).length = _
  rw [List.length_map, List.length_range]
theorem restS_get {s0 s : S} {vs : List Nat} {i : Nat} {x : L} (h : (restS s0 s vs).sl[i]? = some (some x)) : (i ∈ vs ∧ s0.sl[i]? = some (some x)) ∨ (i ∉ vs ∧ s.sl[i]? = some (some x)) := by
  have h : ((List.range s.sl.length).map fun i => if i ∈ vs then (s0.sl[i]?).getD none else (s.sl[i]?).getD none)[i]? = some (some x) := h
  rw [List.getElem?_map] at h
  by_cases hl : i < s.sl.length
  · rw [List.getElem?_range hl] at h
    have h : (if i ∈ vs then (s0.sl[i]?).getD none else (s.sl[i]?).getD none) = some x := by simpa using h
    split at h
    · rename_i hi
      cases q : s0.sl[i]? with
      | none => rw [q] at h; cases h
      | some w => rw [q] at h; have h : w = some x := h; exact .inl ⟨hi, by rw [h]⟩
    · rename_i hi
      cases q : s.sl[i]? with
      | none => rw [q] at h; cases h
      | some w => rw [q] at h; have h : w = some x := h; exact .inr ⟨hi, by rw [h]⟩
  · rw [List.getElem?_eq_none (by rw [List.length_range]; omega)] at h
    cases h
/-- the block's configuration -/
def Cf.wipe (c : Cf) (vs : List Nat) : Cf := { c with S := wipeS c.S vs, σ := L2.wipe c.σ vs }
theorem own_wipe {c : Cf} {vs : List Nat} {a : Addr} (h : OwnA (c.wipe vs) a) : ∃ (i : Nat) (x : L), i ∉ vs ∧ c.S.sl[i]? = some (some x) ∧ x.own = true ∧ c.σ[i]? = some (some (V.ref a)) := by
  obtain ⟨i, x, h1, h2, h3⟩ := h
  obtain ⟨h4, h5⟩ := wipeS_some h1
  have h3 : (L2.wipe c.σ vs)[i]? = some (some (V.ref a)) := h3
  rw [wipe_get h5] at h3
  exact ⟨i, x, h5, h4, h2, h3⟩
theorem mut_wipe {c : Cf} {vs : List Nat} {a : Addr} (h : Mut (c.wipe vs) a) : Mut c a := by
  rcases h with h | h
  · obtain ⟨i, x, _, h1, h2, h3⟩ := own_wipe h
    exact .inl ⟨i, x, h1, h2, h3⟩
  · exact .inr h
theorem Ok.wipe {c : Cf} (k : Ok n c) (vs : List Nat) : Ok n (c.wipe vs) where
  len := by
    show (wipeS c.S vs).sl.length = (L2.wipe c.σ vs).length
    rw [wipeS_len, wipe_length, k.len]
  sub := k.sub
  sl := fun i x e => by
    obtain ⟨h1, h2⟩ := wipeS_some e
    obtain ⟨v, h3, h4⟩ := k.sl i x h1
    exact ⟨v, (wipe_get h2).trans h3, by cases x <;> exact h4⟩
  dist := fun i j x y a hij h1 h2 o1 o2 s1 s2 => by
    obtain ⟨a1, a2⟩ := wipeS_some h1
    obtain ⟨b1, b2⟩ := wipeS_some h2
    have s1 : (L2.wipe c.σ vs)[i]? = some (some (V.ref a)) := s1
    have s2 : (L2.wipe c.σ vs)[j]? = some (some (V.ref a)) := s2
    rw [wipe_get a2] at s1
    rw [wipe_get b2] at s2
    exact k.dist i j x y a hij a1 b1 o1 o2 s1 s2
  nd := k.nd
  slen := by show (wipeS c.S vs).st.length = _; rw [wipeS_st]; exact k.slen
  st := fun j o a h1 h2 => by
    have h1 : (wipeS c.S vs).st[j]? = some o := h1
    rw [wipeS_st] at h1
    have := k.st j o a h1 h2
    cases o <;> exact this
  fφ := k.fφ
/-- the turns of a comprehension -/
def lcB (vs : List Nat) (a : AS) (t : M Bool) (e : M D) : List D → List D → S → Res (List D)
  | [], acc, s => .ok acc s
  | d :: ds, acc, s => match a (.sh d) (wipeS s vs) with
    | none => .bad
    | some s1 => match t s1 with
      | .ok true s2 => (match e s2 with
        | .ok y s3 => if acc.length < lineN then lcB vs a t e ds (acc ++ [y]) s3 else .bad
        | _ => .bad)
      | .ok false s2 => lcB vs a t e ds acc s2
      | _ => .bad
def lcM (m : M (List D)) (vs : List Nat) (a : AS) (t : M Bool) (e : M D) : M L := fun s => match m s with
  | .ok ds s1 => (match lcB vs a t e ds [] (wipeS s1 vs) with
    | .ok ys s2 => .ok (.ol ys) (restS s1 s2 vs)
    | _ => .bad)
  | .exc C fs s1 => .exc C fs s1
  | .bad => .bad
/-- a turn's configuration: the list so far at d -/
structure LcI (n : Nm) (c1 : Cf) (vs : List Nat) (d : Addr) (acc : List D) (c : Cf) : Prop where
  ok : Ok n c
  st : Stp (c1.wipe vs) c
  sg : L2.wipe c.σ vs = L2.wipe c1.σ vs
  hd : ∃ ys, c.H d = some (.lst ys) ∧ IsL n c.F c.φ ys acc
  nf : c.F d = none
  nm : ¬ Mut c d
theorem LcI.step {c1 c c' : Cf} {vs : List Nat} {d : Addr} {acc : List D} (h : LcI n c1 vs d acc c) (s : Stp c c') (k : Ok n c') (e : L2.wipe c'.σ vs = L2.wipe c1.σ vs) : LcI n c1 vs d acc c' := by
  obtain ⟨ys, h1, h2⟩ := h.hd
  refine ⟨k, h.st.trans s, e, ⟨ys, s.H d _ h1 h.nm (fun _ z => by cases z), s.isL h2⟩, ?_, fun m => ?_⟩
  · cases q : c'.F d with
    | none => rfl
    | some u =>
      rcases s.new d (by rw [q]; simp) with z | z | z
      · exact absurd h.nf z
      · rw [h1] at z; cases z
      · exact absurd z h.nm
  · rcases s.mono d m with z | z
    · exact h.nm z
    · rw [h1] at z; cases z
/-- the list grows -/
theorem LcI.grow {c1 c : Cf} {vs : List Nat} {d : Addr} {acc : List D} {y : V} {e : D} {ys : List V} (h : LcI n c1 vs d acc c) (hd0 : c1.H d = none) (i : Is n c.F c.φ y e) (hh : c.H d = some (.lst ys)) : LcI n c1 vs d (acc ++ [e]) { c with H := upd c.H d (.lst (ys ++ [y])) } := by
  obtain ⟨zs, h1, h2⟩ := h.hd
  rw [hh] at h1; cases h1
  have ne : ∀ {b : Addr}, b ≠ d → upd c.H d (.lst (ys ++ [y])) b = c.H b := fun hb => upd_ne hb
  have keep : ∀ {b : Addr} {o : HO}, (∀ xs, o ≠ .lst xs) ∨ b ≠ d → c.H b = some o → upd c.H d (.lst (ys ++ [y])) b = some o := fun {b o} hb e => by
    by_cases z : b = d
    · subst z
      rcases hb with hb | hb
      · rw [hh] at e; exact absurd (Option.some.inj e).symm (hb ys)
      · exact absurd rfl hb
    · rw [ne z]; exact e
  refine ⟨⟨h.ok.len, fun b u e => ?_, fun j x e => ?_, h.ok.dist, h.ok.nd, h.ok.slen, fun j o a e1 e2 => ?_, h.ok.fφ⟩, ⟨h.st.F, fun b o e m t => ?_, h.st.new, h.st.mono, fun b e => ?_, h.st.φ, h.st.an⟩, h.sg, ⟨ys ++ [y], upd_same, h2.append (.cons i .nil)⟩, h.nf, h.nm⟩
  · have hb : b ≠ d := fun z => by
      subst z
      have := h.nf
      rw [e] at this; cases this
    show upd c.H d (.lst (ys ++ [y])) b = some u
    rw [ne hb]; exact h.ok.sub _ _ e
  · obtain ⟨v, h3, h4⟩ := h.ok.sl j x e
    refine ⟨v, h3, ?_⟩
    have hv : x.own = true → ∀ a, v = .ref a → a ≠ d := fun o a ea z => by
      subst z ea
      exact h.nm (.inl ⟨j, x, e, o, h3⟩)
    cases x with
    | sh w => exact h4
    | ol ds => obtain ⟨a, us, ea, h5, h6, h7, h8⟩ := h4; exact ⟨a, us, ea, keep (.inr (hv rfl a ea)) h5, h6, h7, h8⟩
    | od kvs =>
      obtain ⟨a, ea, h6, h7, ⟨us, h5, h8⟩ | ⟨us, h5, h8⟩⟩ := h4
      · exact ⟨a, ea, h6, h7, .inl ⟨us, keep (.inr (hv rfl a ea)) h5, h8⟩⟩
      · exact ⟨a, ea, h6, h7, .inr ⟨us, keep (.inr (hv rfl a ea)) h5, h8⟩⟩
    | oi b C fs => obtain ⟨a, C, dx, us, ea, hb, hC, h5, h6, h7, h8⟩ := h4; exact ⟨a, C, dx, us, ea, hb, hC, keep (.inr (hv rfl a ea)) h5, h6, h7, h8⟩
  · have z := h.ok.st j o a e1 e2
    cases o with
    | dic p => obtain ⟨lc, h3, h4⟩ := z; exact ⟨lc, keep (.inl fun _ q => by cases q) h3, h4⟩
    | inst C fs => obtain ⟨C, dx, us, h3, h4, h5⟩ := z; exact ⟨C, dx, us, h3, keep (.inl fun _ q => by cases q) h4, h5⟩
  · have hb : b ≠ d := fun z => by
      subst z
      have e : c1.H b = some o := e
      rw [hd0] at e; cases e
    show upd c.H d (.lst (ys ++ [y])) b = some o
    rw [ne hb]; exact h.st.H b o e m t
  · exact h.st.there b (upd_none' e).2
/-- behind the block -/
theorem LcI.rest {c1 c : Cf} {vs : List Nat} {d : Addr} {acc : List D} (h : LcI n c1 vs d acc c) (k1 : Ok n c1) (hd0 : c1.H d = none) : let c2 : Cf := { c with S := restS c1.S c.S vs, σ := c1.σ }; Ok n c2 ∧ Stp c1 c2 ∧ RV n c1 c2 (.ref d) (.ol acc) := by
  have σ_eq : ∀ (i : Nat), i ∉ vs → c.σ[i]? = c1.σ[i]? := fun i hi => by rw [← wipe_get (σ := c.σ) hi, h.sg, wipe_get hi]
  have lens : c.σ.length = c1.σ.length := by
    have z := congrArg List.length h.sg
    rw [wipe_length, wipe_length] at z
    exact z
  -- a hidden own object
  have hid : ∀ (i : Nat) (x : L), i ∈ vs → c1.S.sl[i]? = some (some x) → x.own = true → ∀ a : Addr, c1.σ[i]? = some (some (V.ref a)) → ¬ Mut (c1.wipe vs) a ∧ a ∉ c.φ ∧ ¬ Mut c a := fun i x hi e o a ea => by
    obtain ⟨v, e1, e2⟩ := k1.sl i x e
    rw [ea] at e1; cases e1
    obtain ⟨_, ee, hf, hφ, u, hu, _⟩ := e2.at o
    cases ee
    have m1 : ¬ Mut (c1.wipe vs) a := fun m => by
      rcases m with m | m
      · obtain ⟨j, y, hj, f1, f2, f3⟩ := own_wipe m
        exact k1.dist i j x y a (fun z => hj (z ▸ hi)) e f1 o f2 ea f3
      · exact hφ m
    have m2 : ¬ Mut c a := fun m => by
      rcases h.st.mono a m with z | z
      · exact m1 z
      · have z : c1.H a = none := z
        rw [hu] at z; cases z
    exact ⟨m1, fun m => m2 (.inr m), m2⟩
  have mutS : ∀ b, Mut { c with S := restS c1.S c.S vs, σ := c1.σ } b → Mut c1 b ∨ c1.H b = none := fun b m => by
    rcases m with ⟨i, x, e, o, s⟩ | m
    · have s : c1.σ[i]? = some (some (V.ref b)) := s
      rcases restS_get e with ⟨hi, e⟩ | ⟨hi, e⟩
      · exact .inl (.inl ⟨i, x, e, o, s⟩)
      · rcases h.st.mono b (.inl ⟨i, x, e, o, (σ_eq i hi).trans s⟩) with z | z
        · exact .inl (mut_wipe z)
        · exact .inr z
    · rcases h.st.mono b (.inr m) with z | z
      · exact .inl (mut_wipe z)
      · exact .inr z
  obtain ⟨ys, h1, h2⟩ := h.hd
  refine ⟨⟨?_, h.ok.sub, fun i x e => ?_, fun i j x y a hij e1 e2 o1 o2 s1 s2 => ?_, h.ok.nd, h.ok.slen, fun j o a e1 e2 => ?_, h.ok.fφ⟩, ⟨h.st.F, fun b o e m t => h.st.H b o e (fun z => m (mut_wipe z)) t, fun b e => ?_, mutS, h.st.there, h.st.φ, h.st.an⟩, ⟨⟨d, ys, rfl, h1, h.nf, fun m => h.nm (.inr m), h2⟩, fun _ a ea => ?_⟩⟩
  · show (restS c1.S c.S vs).sl.length = c1.σ.length
    rw [restS_len, h.ok.len, lens]
  · rcases restS_get e with ⟨hi, e⟩ | ⟨hi, e⟩
    · obtain ⟨v, e1, e2⟩ := k1.sl i x e
      refine ⟨v, e1, ?_⟩
      have e3 : OIs n (c1.wipe vs) v x := by cases x <;> exact e2
      have e4 := e3.step h.st fun o a ea => by
        subst ea
        obtain ⟨m1, m2, _⟩ := hid i x hi e o a e1
        exact ⟨m1, m2⟩
      cases x <;> exact e4
    · obtain ⟨v, e1, e2⟩ := h.ok.sl i x e
      exact ⟨v, (σ_eq i hi).symm.trans e1, by cases x <;> exact e2⟩
  · have s1 : c1.σ[i]? = some (some (V.ref a)) := s1
    have s2 : c1.σ[j]? = some (some (V.ref a)) := s2
    rcases restS_get e1 with ⟨hi, e1⟩ | ⟨hi, e1⟩
    · rcases restS_get e2 with ⟨hj, e2⟩ | ⟨hj, e2⟩
      · exact k1.dist i j x y a hij e1 e2 o1 o2 s1 s2
      · exact (hid i x hi e1 o1 a s1).2.2 (.inl ⟨j, y, e2, o2, (σ_eq j hj).trans s2⟩)
    · rcases restS_get e2 with ⟨hj, e2⟩ | ⟨hj, e2⟩
      · exact (hid j y hj e2 o2 a s2).2.2 (.inl ⟨i, x, e1, o1, (σ_eq i hi).trans s1⟩)
      · exact h.ok.dist i j x y a hij e1 e2 o1 o2 ((σ_eq i hi).trans s1) ((σ_eq j hj).trans s2)
  · have e1 : c.S.st[j]? = some o := e1
    have z := h.ok.st j o a e1 e2
    cases o <;> exact z
  · rcases h.st.new b e with z | z | z
    · exact .inl z
    · exact .inr (.inl z)
    · exact .inr (.inr (mut_wipe z))
  · cases ea
    refine ⟨fun ⟨i, x, e, o, s⟩ => ?_, .inl hd0⟩
    have s : c1.σ[i]? = some (some (V.ref d)) := s
    rcases restS_get e with ⟨hi, e⟩ | ⟨hi, e⟩
    · obtain ⟨v, e1, e2⟩ := k1.sl i x e
      rw [s] at e1; cases e1
      obtain ⟨_, ee, _, _, u, hu, _⟩ := e2.at o
      cases ee
      rw [hd0] at hu; cases hu
    · exact h.nm (.inl ⟨i, x, e, o, (σ_eq i hi).trans s⟩)
theorem wipe_in {σ : L2.St} {i : Nat} : ∀ {vs : List Nat}, i ∈ vs → i < σ.length → (wipe σ vs)[i]? = some none
  | v :: vs, h, hl => by
    show ((wipe σ vs).set v none)[i]? = _
    by_cases e : v = i
    · subst e
      rw [List.getElem?_set_self (by rw [wipe_length]; exact hl)]
    · rw [List.getElem?_set_ne e]
      exact wipe_in ((List.mem_cons.mp h).resolve_left (fun z => e z.symm)) hl
theorem wipe_agr {σ σ' : L2.St} {ix vs : List Nat} (a : Agr ix σ σ') (h : ∀ i ∈ ix, i ∈ vs) : wipe σ' vs = wipe σ vs := by
  apply List.ext_getElem?
  intro i
  by_cases hi : i ∈ vs
  · by_cases hl : i < σ.length
    · rw [wipe_in hi (by rw [a.len]; exact hl), wipe_in hi hl]
    · rw [List.getElem?_eq_none (by rw [wipe_length, a.len]; omega), List.getElem?_eq_none (by rw [wipe_length]; omega)]
  · rw [wipe_get hi, wipe_get hi]
    exact a.get i (fun z => hi (h i z))
theorem wipe_wipe {σ : L2.St} (vs : List Nat) : wipe (wipe σ vs) vs = wipe σ vs := by
  apply List.ext_getElem?
  intro i
  by_cases hi : i ∈ vs
  · by_cases hl : i < σ.length
    · rw [wipe_in hi (by rw [wipe_length]; exact hl), wipe_in hi hl]
    · rw [List.getElem?_eq_none (by rw [wipe_length, wipe_length]; omega), List.getElem?_eq_none (by rw [wipe_length]; omega)]
  · rw [wipe_get hi]
theorem Stp.wiped {c : Cf} (vs : List Nat) : Stp c (c.wipe vs) := ⟨Sub.refl _, fun _ _ h _ _ => h, fun _ h => .inl h, fun _ h => .inl (mut_wipe h), fun _ h => h, ⟨[], by simp [Cf.wipe]⟩, rfl⟩
theorem Stp.of_wiped {c c' : Cf} {vs : List Nat} (s : Stp (c.wipe vs) c') : Stp c c' := (Stp.wiped vs).trans s
/-- the reading of a comprehension -/
theorem lc_read {m : M (List D)} {vs ix : List Nat} {a : AS} {t : M Bool} {e : M D} (hix : ∀ i ∈ ix, i ∈ vs) {σ : L2.St} {H : Hp} {Q : VK} (o : tO n W (lcM m vs a t e) σ H Q) : tLc (tI n W m) (tG n ix a) (tT n WF t) (tX n WF e) vs σ H Q := by
  obtain ⟨c, rfl, rfl, k, o⟩ := o
  refine ⟨c, rfl, rfl, k, ?_⟩
  unfold lcM at o
  cases q : m c.S with
  | bad => rw [q] at o; exact o
  | exc C fs S1 => rw [q] at o; exact o
  | ok ds S1 =>
    rw [q] at o
    dsimp only at o
    intro J c1 h1 h2 s1 k1 w1 D hD
    cases q1 : lcB vs a t e ds [] (wipeS S1 vs) with
    | bad => rw [q1] at o; exact o.elim
    | exc C fs S2 => rw [q1] at o; exact o.elim
    | ok ys0 S2 =>
      rw [q1] at o
      dsimp only at o
      -- the first configuration
      have kw := k1.wipe (n := n) vs
      obtain ⟨ka, sa, na, nf, no⟩ := kw.alloc (o := .lst []) (show (c1.wipe vs).H D = none from hD)
      have I0 : LcI n c1 vs D [] { c1.wipe vs with H := upd c1.H D (.lst []) } := ⟨ka, sa, wipe_wipe vs, ⟨[], upd_same, .nil⟩, nf, fun mm => by
        rcases mm with mm | mm
        · exact no mm
        · exact na mm⟩
      refine ⟨fun i m H => m = ds.length - i ∧ i ≤ ds.length ∧ ∃ (c2 : Cf) (acc : List Bv.D), c2.H = H ∧ LcI n c1 vs D acc c2 ∧ lcB vs a t e (ds.drop i) acc c2.S = .ok ys0 S2, ⟨ds.length, by simp, Nat.zero_le _, _, _, rfl, I0, by rw [List.drop_zero, ← q1, ← h1]; rfl⟩, ?_⟩
      rintro i m H ⟨rfl, hi, c2, acc, rfl, I2, e2⟩
      have I2w : LcI n c1 vs D acc (c2.wipe vs) := I2.step (Stp.wiped vs) (I2.ok.wipe vs) ((wipe_wipe vs).trans I2.sg)
      have fw : ∀ {c3 : Cf}, LcI n c1 vs D acc c3 → Fwd c1 c3 := fun I => ⟨I.st.F, I.st.φ⟩
      by_cases hlt : i < ds.length
      · refine .inr ⟨w1.go i c2 hlt I2.ok (fw I2), fun H' => ∃ (c4 : Cf) (acc' : List Bv.D), c4.H = H' ∧ LcI n c1 vs D acc' c4 ∧ lcB vs a t e (ds.drop (i + 1)) acc' c4.S = .ok ys0 S2, fun H' hN => ⟨ds.length - (i + 1), by omega, rfl, hlt, hN⟩, fun x H' y => ?_⟩
        obtain ⟨c3, d, f1, f2, rfl, s3, k3, f4, f5⟩ := w1.yld i (c2.wipe vs) x H' hlt I2w.ok (fw I2w) y
        have hd : ds.drop i = d :: ds.drop (i + 1) := by
          rw [List.getElem?_eq_getElem hlt] at f4
          rw [List.drop_eq_getElem_cons hlt]
          rw [Option.some.inj f4]
        rw [hd] at e2
        unfold lcB at e2
        have f1 : c3.S = wipeS c2.S vs := f1
        have f2 : c3.σ = L2.wipe c2.σ vs := f2
        have I3 : LcI n c1 vs D acc c3 := I2w.step s3 k3 (by rw [f2, wipe_wipe, I2.sg])
        rw [← f1] at e2
        cases q3 : a (.sh d) c3.S with
        | none => rw [q3] at e2; cases e2
        | some S3 =>
          rw [q3] at e2
          dsimp only at e2
          have eσ : c3.σ = L2.wipe c.σ vs := by rw [f2, I2.sg, h2]
          refine ⟨c3, c3, .sh d, eσ, rfl, Stp.refl c3, k3, ⟨OIs.sh f5, fun z => by cases z⟩, S3, q3, fun c4 g1 s4 k4 g4 => ?_⟩
          have w4 : L2.wipe c4.σ vs = L2.wipe c3.σ vs := wipe_agr g4 hix
          have w4' : L2.wipe c4.σ vs = L2.wipe c.σ vs := by rw [w4, eσ, wipe_wipe]
          have I4 : LcI n c1 vs D acc c4 := I3.step s4 k4 (by rw [w4', h2])
          refine ⟨w4', c4, rfl, rfl, k4, ?_⟩
          rw [g1]
          cases q4 : t S3 with
          | bad => rw [q4] at e2; cases e2
          | exc C fs S4 => rw [q4] at e2; cases e2
          | ok b S4 =>
            rw [q4] at e2
            intro v c5 g5 g6 s5 k5 g7
            have g7 : v = b := g7
            subst g7
            have I5 : LcI n c1 vs D acc c5 := I4.step s5 k5 (by rw [g6, w4', h2])
            cases v with
            | false =>
              dsimp only at e2
              exact iteF ⟨c5, acc, rfl, I5, by rw [g5]; exact e2⟩
            | true =>
              dsimp only at e2
              refine iteT ⟨c5, g6, rfl, k5, ?_⟩
              rw [g5]
              cases q5 : e S4 with
              | bad => rw [q5] at e2; cases e2
              | exc C fs S5 => rw [q5] at e2; cases e2
              | ok y5 S5 =>
                rw [q5] at e2
                dsimp only at e2
                intro v c6 j1 j2 s6 k6 j3
                have I6 : LcI n c1 vs D acc c6 := I5.step s6 k6 (by rw [j2, g6, w4', h2])
                obtain ⟨zs, z1, z2⟩ := I6.hd
                split at e2
                · rename_i hz
                  exact ⟨zs, z1, by rw [z2.length, lineN_eq]; exact hz, { c6 with H := upd c6.H D (.lst (zs ++ [v])) }, acc ++ [y5], rfl, I6.grow hD j3 z1, by rw [← e2, ← j1]⟩
                · cases e2
      · have e : i = ds.length := by omega
        subst e
        rw [List.drop_length] at e2
        unfold lcB at e2
        have ea : acc = ys0 := by injection e2
        have es : c2.S = S2 := by injection e2
        subst ea es
        obtain ⟨kr, sr, rr⟩ := I2.rest k1 hD
        refine .inl ⟨w1.stop c2 I2.ok (fw I2), ?_⟩
        have z := o.later trO s1 h2
        exact z (.ref D) { c2 with S := restS c1.S c2.S vs, σ := c1.σ } (by rw [h1]) rfl sr kr rr
end Bv

/-! own objects changed; defs by their bodies -/
namespace Bv
open PySem PySem.Spec PyProof.Rows L2
variable {n : Nm} {W : WX} {X : Cx}
/-- shared at once, where the name is never changed -/
def fzM (b : Bool) (m : M L) : M L := if b then m else sM (dM m)
theorem fz_ok {b : Bool} {f : M L} {σ : L2.St} {H : Hp} {Q : VK} (o : tO n W (fzM b f) σ H Q) : tO n W f σ H Q := by
  cases b with
  | true => exact o
  | false =>
    obtain ⟨c, e1, e2, k, o⟩ := o
    refine ⟨c, e1, e2, k, ?_⟩
    have o : Out n W (RV n) c (M.bind (M.bind f (fun x => pure x.d)) (fun d => pure (.sh d)) c.S) Q := o
    unfold M.bind at o
    cases q : f c.S with
    | ok x S' =>
      rw [q] at o
      exact fun v c' h1 h2 s k' r => by
        obtain ⟨F', s2, k2, i2⟩ := OIs.freeze k' s r
        exact o v { c' with F := F' } h1 h2 s2 k2 ⟨OIs.sh i2, fun o => by cases o⟩
    | exc C fs S' => rw [q] at o; exact o
    | bad => rw [q] at o; exact o
theorem be_fz {b : Bool} {e : Expr} {f : M L} (h : PE X e (tO n W f)) : PE X e (tO n W (fzM b f)) := h.imp fun _ _ _ o => fz_ok o
/-! ### comprehensions as expressions and statements -/
def yesM : M Bool := pure true
theorem bts_nil : PTs X [] (tT n W yesM) := ⟨fun pins s σ H Q I ⟨c, e1, e2, k, o⟩ => by
  subst e1 e2
  exact pts_nil.run pins s c.σ c.H Q I (show Q true c.H from o.fin k rfl)⟩
section
variable {elt tg iter : Expr} {ifs : List Expr} {scope : Scope} {own : List (Str × Nat)} {pos : Pos} {m : M (List D)} {a : AS} {ix : List Nat} {t : M Bool} {e : M D}
theorem be_lc (hc : X.calm = true) (hN : X.N.Nodup) (hi : PI X tg iter (tI n W m)) (ok : BlkOk X.N X.env.scope scope own) (hix : ∀ i ∈ ix, i ∈ own.map (·.2))
    (hg : ∀ (s : Shared) (H : Hp) (C : Addr) (cl : List (Str × Addr)) (fp : List Addr), PG (X.blk s H scope (compEnvC scope cl C X.env) fp) tg (tG n ix a))
    (ht : ∀ (s : Shared) (H : Hp) (C : Addr) (cl : List (Str × Addr)) (fp : List Addr), PTs (X.blk s H scope (compEnvC scope cl C X.env) fp) ifs (tT n WF t))
    (he : ∀ (s : Shared) (H : Hp) (C : Addr) (cl : List (Str × Addr)) (fp : List Addr), PE (X.blk s H scope (compEnvC scope cl C X.env) fp) elt (tX n WF e)) (hs : ∀ x, foldedSetIterable iter X.env x = pure x) :
    PE X (.ListComp elt [⟨tg, iter, ifs, 0⟩] scope pos) (tO n W (lcM m (own.map (·.2)) a t e)) := (pe_lc hc hN hi ok hg ht he hs).imp fun _ _ _ o => lc_read hix o
theorem bs_setLc {fb : Bool} {i : Nat} {y : Str} {py spos : Pos} (hc : X.calm = true) (hN : X.N.Nodup) (hy : X.N[i]? = some y) (hyl : X.env.scope.names.lookup y = some .local)
    (hsw : swapsWith (.ListComp elt [⟨tg, iter, ifs, 0⟩] scope pos) (some (.Name y py)) spos.line X.env = pure true) (hi : PI X tg iter (tI n W m)) (ok : BlkOk X.N X.env.scope scope own) (hix : ∀ i ∈ ix, i ∈ own.map (·.2))
    (hg : ∀ (s : Shared) (H : Hp) (C : Addr) (cl : List (Str × Addr)) (fp : List Addr), PG (X.blk s H scope (compEnvC scope cl C X.env) fp) tg (tG n ix a))
    (ht : ∀ (s : Shared) (H : Hp) (C : Addr) (cl : List (Str × Addr)) (fp : List Addr), PTs (X.blk s H scope (compEnvC scope cl C X.env) fp) ifs (tT n WF t))
    (he : ∀ (s : Shared) (H : Hp) (C : Addr) (cl : List (Str × Addr)) (fp : List Addr), PE (X.blk s H scope (compEnvC scope cl C X.env) fp) elt (tX n WF e)) (hs : ∀ x, foldedSetIterable iter X.env x = pure x) :
    PS X (.Assign [.Name y py] (.ListComp elt [⟨tg, iter, ifs, 0⟩] scope pos) spos) (tS n W (agS (fzM fb (lcM m (own.map (·.2)) a t e)) (asN i))) := (ps_setLc hc hN hy hyl hsw hi ok hg ht he hs).imp fun E σ H ⟨c, e1, e2, k, o⟩ => by
  subst e1 e2
  have z : tO n W (fzM fb (lcM m (own.map (·.2)) a t e)) c.σ c.H (fun v H' => gName i v c.σ H' E.nx) := ⟨c, rfl, rfl, k, Out.imp (o.asg (ix := [i])) fun v H' q => by
    obtain ⟨c0, c1, l, h1, h2, s, k1, r, S', h3, q⟩ := q
    cases h3
    obtain ⟨k2, s2⟩ := k1.put (i := i) s r
    have z := q { c1 with S := { c1.S with sl := c1.S.sl.set i (some l) }, σ := c1.σ.set i (some v) } rfl s2 k2 ⟨List.length_set, fun j hj => List.getElem?_set_ne (fun z => hj (by simp [z]))⟩
    show E.nx (c.σ.set i (some v)) H'
    rw [← h1, ← h2]
    exact z⟩
  exact lc_read hix (fz_ok z)
end
/-! ### an own list changed -/
theorem Ok.setOwn {c : Cf} {i : Nat} {x y : L} {a : Addr} {o : HO} (k : Ok n c) (e : c.S.sl[i]? = some (some x)) (ox : x.own = true) (oy : y.own = true) (ea : c.σ[i]? = some (some (V.ref a)))
    (hy : OIs n { c with H := upd c.H a o } (.ref a) y) : let c' : Cf := { c with S := { c.S with sl := c.S.sl.set i (some y) }, H := upd c.H a o }; Ok n c' ∧ Stp c c' := by
  obtain ⟨v, h1, h2⟩ := k.sl i x e
  rw [ea] at h1; cases h1
  obtain ⟨_, ee, hf, hφ, u, hu, _⟩ := h2.at ox
  cases ee
  have old : ∀ (j : Nat) (z : L), (c.S.sl.set i (some y))[j]? = some (some z) → (j = i ∧ z = y) ∨ (j ≠ i ∧ c.S.sl[j]? = some (some z)) := fun j z q => by
    by_cases hij : i = j
    · subst hij
      rw [List.getElem?_set_self', e] at q
      have q : some y = some z := by simpa using q
      exact .inl ⟨rfl, (Option.some.inj q).symm⟩
    · rw [List.getElem?_set_ne hij] at q
      exact .inr ⟨fun z => hij z.symm, q⟩
  have ne : ∀ {b : Addr}, b ≠ a → upd c.H a o b = c.H b := fun hb => upd_ne hb
  have mutS : ∀ b, Mut { c with S := { c.S with sl := c.S.sl.set i (some y) }, H := upd c.H a o } b → Mut c b := fun b m => by
    rcases m with ⟨j, z, q1, q2, q3⟩ | m
    · rcases old j z q1 with ⟨rfl, rfl⟩ | ⟨_, q1⟩
      · exact .inl ⟨_, x, e, ox, q3⟩
      · exact .inl ⟨j, z, q1, q2, q3⟩
    · exact .inr m
  refine ⟨⟨by simp [k.len], fun b w q => ?_, fun j z q => ?_, fun j l z w b hjl q1 q2 o1 o2 s1 s2 => ?_, k.nd, k.slen, fun j m b q1 q2 => ?_, k.fφ⟩, ⟨Sub.refl _, fun b w q m t => ?_, fun b q => .inl q, fun b m => .inl (mutS b m), fun b q => (upd_none' q).2, ⟨[], by simp⟩, rfl⟩⟩
  · have hb : b ≠ a := fun z => by subst z; rw [hf] at q; cases q
    show upd c.H a o b = some w
    rw [ne hb]; exact k.sub _ _ q
  · rcases old j z q with ⟨rfl, rfl⟩ | ⟨hj, q0⟩
    · exact ⟨_, ea, by cases z <;> exact hy⟩
    · obtain ⟨v, q1, q2⟩ := k.sl j z q0
      refine ⟨v, q1, ?_⟩
      have hv : z.own = true → ∀ b, v = .ref b → b ≠ a := fun oz b eb z' => by
        subst z' eb
        exact k.dist j i z x b hj q0 e oz ox q1 ea
      cases z with
      | sh w => exact q2
      | ol ds => obtain ⟨b, us, eb, h5, h6, h7, h8⟩ := q2; exact ⟨b, us, eb, (ne (hv rfl b eb)).trans h5, h6, h7, h8⟩
      | od kvs =>
        obtain ⟨b, eb, h6, h7, ⟨us, h5, h8⟩ | ⟨us, h5, h8⟩⟩ := q2
        · exact ⟨b, eb, h6, h7, .inl ⟨us, (ne (hv rfl b eb)).trans h5, h8⟩⟩
        · exact ⟨b, eb, h6, h7, .inr ⟨us, (ne (hv rfl b eb)).trans h5, h8⟩⟩
      | oi b0 C fs => obtain ⟨b, C, dx, us, eb, hb, hC, h5, h6, h7, h8⟩ := q2; exact ⟨b, C, dx, us, eb, hb, hC, (ne (hv rfl b eb)).trans h5, h6, h7, h8⟩
  · have s1 : c.σ[j]? = some (some (V.ref b)) := s1
    have s2 : c.σ[l]? = some (some (V.ref b)) := s2
    rcases old j z q1 with ⟨rfl, rfl⟩ | ⟨hj, r1⟩
    · rcases old l w q2 with ⟨rfl, _⟩ | ⟨hl, r2⟩
      · exact hjl rfl
      · exact k.dist _ l x w b hjl e r2 ox o2 s1 s2
    · rcases old l w q2 with ⟨rfl, rfl⟩ | ⟨hl, r2⟩
      · exact k.dist j _ z x b hjl r1 e o1 ox s1 s2
      · exact k.dist j l z w b hjl r1 r2 o1 o2 s1 s2
  · have z := k.st j m b q1 q2
    have hb : b ≠ a := fun z => by
      subst z
      exact hφ (List.mem_of_getElem? q2)
    cases m with
    | dic p => obtain ⟨lc, h3, h4⟩ := z; exact ⟨lc, (ne hb).trans h3, h4⟩
    | inst C fs => obtain ⟨C, dx, us, h3, h4, h5⟩ := z; exact ⟨C, dx, us, h3, (ne hb).trans h4, h5⟩
  · have hb : b ≠ a := fun z => by
      subst z
      exact m (.inl ⟨i, x, e, ox, ea⟩)
    show upd c.H a o b = some w
    rw [ne hb]; exact q
def chkL (i : Nat) : M Unit := fun s => match s.sl[i]? with
  | some (some (.ol _)) => .ok () s
  | _ => .bad
theorem chkL_some {c : Cf} {i : Nat} {α γ : Type} {k : M α} {P : Cf → Cf → γ → α → Prop} {Q : γ → Hp → Prop} (o : Out n W P c ((chkL i >>= fun _ => k) c.S) Q) : ∃ ds, c.S.sl[i]? = some (some (.ol ds)) ∧ Out n W P c (k c.S) Q := by
  have o : Out n W P c (M.bind (chkL i) (fun _ => k) c.S) Q := o
  unfold M.bind chkL at o
  cases e : c.S.sl[i]? with
  | none => rw [e] at o; exact o.not_bad
  | some y =>
    cases y with
    | none => rw [e] at o; exact o.not_bad
    | some y =>
      cases y with
      | ol ds => rw [e] at o; exact ⟨ds, rfl, o⟩
      | _ => rw [e] at o; exact o.not_bad
def appN (i : Nat) (d : D) : M L := fun s => match s.sl[i]? with
  | some (some (.ol ds)) => if ds.length < lineN then .ok (.sh .non) { s with sl := s.sl.set i (some (.ol (ds ++ [d]))) } else .bad
  | _ => .bad
def appM (i : Nat) (f : M D) : M L := do chkL i; let d ← f; appN i d
section
variable {e : Expr} {x : Str} {p1 apos cpos : Pos} {i : Nat} {f : M D}
theorem be_append (hN : X.N[i]? = some x) (hv : Vis X.env.scope x) (hd : (x == ("__debug__" : Str)) = false) (hcd : (x == ("__classdict__" : Str)) = false) (he : PE X e (tX n W f))
    (hfew : ((backTo cpos (starEach (e :: []) X.env)).all (fun x => !x.1) && (backToKw cpos (keywordEach [] X.env)).all (fun x => x.1.isSome) && decide ((e :: []).length + ([] : List Keyword).length + (if ([] : List Keyword).isEmpty then 0 else 1) < 30)) = true)
    (hline : (apos.endLine == cpos.line) = true) (hs : starEach (e :: []) X.env = (false, eval e X.env) :: starEach [] X.env) : PE X (.Call (.Attribute (.Name x p1) "append" apos) [e] [] cpos) (tO n W (appM i f)) :=
  (pe_bm PySem.F.plainAttrs_list PySem.F.slot_list_append PySem.F.type_list_append mt_append (pe_var hN hv hd hcd) (pa_cons he pa_nil hs) rfl hfew hline hs rfl).imp fun σ H Q ⟨c, e1, e2, k, o⟩ => by
    subst e1 e2
    obtain ⟨ds, h1, o⟩ := chkL_some o
    obtain ⟨v, h2, a, vs, rfl, h3, h4, h5, h6⟩ := k.sl i _ h1
    refine ⟨.ref a, h2, .inl ⟨rfl, vs, .of h3⟩, c, rfl, rfl, k, Out.bind (P1 := PX n) trO o fun y c1 d e1 s1 k1 i1 o1 => ?_⟩
    unfold appN at o1
    cases q : c1.S.sl[i]? with
    | none => rw [q] at o1; exact o1.not_bad
    | some z =>
      rw [q] at o1
      cases z with
      | none => exact o1.not_bad
      | some z =>
        cases z with
        | ol es =>
          dsimp only at o1
          split at o1
          · rename_i hz
            obtain ⟨v1, g1, a1, vs1, rfl, g3, g4, g5, g6⟩ := k1.sl i _ q
            rw [e1, h2] at g1
            cases g1
            have hi : IsL n c1.F c1.φ (vs1 ++ [y]) (es ++ [d]) := g6.append (.cons i1 .nil)
            obtain ⟨k2, s2⟩ := k1.setOwn (y := .ol (es ++ [d])) (o := .lst (vs1 ++ [y])) q rfl rfl (by rw [e1]; exact h2) ⟨a, _, rfl, upd_same, g4, g5, hi⟩
            refine ⟨a, vs1, y, rfl, rfl, g3, by rw [g6.length, lineN_eq]; exact hz, ?_⟩
            exact o1 .non { c1 with S := { c1.S with sl := c1.S.sl.set i (some (.ol (es ++ [d]))) }, H := upd c1.H a (.lst (vs1 ++ [y])) } rfl rfl s2 k2 ⟨.non, fun z => by cases z⟩
          · exact o1.not_bad
        | _ => exact o1.not_bad
end
/-! ### a field of an own instance stored -/
def putD (f : Str) (v : D) : List (Str × D) → List (Str × D)
  | [] => [(f, v)]
  | (g, x) :: r => if g = f then (g, v) :: r else (g, x) :: putD f v r
theorem IsF.put {F : Hp} {φ : List Addr} {f : Str} {v : V} {d : D} (h : Is n F φ v d) : ∀ {vs : List (Str × V)} {ds : List (Str × D)}, IsF n F φ vs ds → IsF n F φ (putF f v vs) (putD f d ds)
  | _, _, .nil => .cons h .nil
  | _, _, .cons (f := g) q t => by
    unfold putF putD
    split
    · exact .cons h t
    · exact .cons q (IsF.put h t)
def stN (i : Nat) (f : Str) (d : D) : MS := fun s => match s.sl[i]? with
  | some (some (.oi b C fs)) => if fs.length < 1000 then .nx { s with sl := s.sl.set i (some (.oi b C (putD f d fs))) } else .bad
  | _ => .bad
def stS (i : Nat) (f : Str) (m : M D) : MS := thS m fun d => stN i f d
theorem bs_fld {e : Expr} {x f : Str} {p1 pos pos' : Pos} {i : Nat} {m : M D} (hN : X.N[i]? = some x) (hv : Vis X.env.scope x) (hd : (x == ("__debug__" : Str)) = false) (hcd : (x == ("__classdict__" : Str)) = false) (he : PE X e (tX n W m)) (hf : NoAt n f) (hK : X.K = n.K)
    (hs : swapsWith e (some (.Attribute (.Name x p1) f pos')) pos.line X.env = pure false) : PS X (.Assign [.Attribute (.Name x p1) f pos'] e pos) (tS n W (stS i f m)) := (ps_fld (pe_var hN hv hd hcd) he hs).imp fun E σ H ⟨c, e1, e2, k, o⟩ => by
  subst e1 e2
  refine ⟨c, rfl, rfl, k, OutS.bind o fun y c1 d e1 s1 k1 i1 o1 => ?_⟩
  unfold stN at o1
  cases q : c1.S.sl[i]? with
  | none => rw [q] at o1; exact o1.elim
  | some z =>
    rw [q] at o1
    cases z with
    | none => exact o1.elim
    | some z =>
      cases z with
      | oi b C fs =>
        dsimp only at o1
        split at o1
        · rename_i hz
          obtain ⟨v1, g1, a1, C1, dx, vs1, rfl, hb, hC, g3, g4, g5, g6⟩ := k1.sl i _ q
          obtain ⟨k2, s2⟩ := k1.setOwn (y := .oi b C (putD f d fs)) (o := .ins C1 dx (putF f y vs1)) q rfl rfl g1 ⟨a1, C1, dx, _, rfl, hb, hC, upd_same, g4, g5, IsF.put i1 g6⟩
          refine ⟨.ref a1, by rw [← e1]; exact g1, a1, C1, dx, vs1, rfl, g3, by rw [hK]; exact (hf _ _ hC).1.cl, by rw [hK]; exact (hf _ _ hC).2, by rw [g6.length]; exact hz, ?_⟩
          rw [← e1]
          exact o1 { c1 with S := { c1.S with sl := c1.S.sl.set i (some (.oi b C (putD f d fs))) }, H := upd c1.H a1 (.ins C1 dx (putF f y vs1)) } rfl s2 k2
        · exact o1.elim
      | _ => exact o1.elim
/-! ### a def by its body -/
def initS (N : List Str) (ds : List D) (st : List MO) : S := ⟨ds.map (fun d => some (.sh d)) ++ List.replicate (N.length - ds.length) none, st⟩
def runF (N : List Str) (f : MS) : FnS := fun ds s => match f (initS N ds s.st) with
  | .rt x s' => .ok x s'
  | .nx s' => .ok (.sh .non) s'
  | .exc C fs s' => .exc C fs s'
  | _ => .bad
section
variable {P : Program} {w : World} {K : PySem.W.Frag} {mg : Str → Option Value} {base : Heap}
theorem start_ok {c : Cf} {vs : List V} {ds : List D} {N : List Str} (k : Ok n c) (h1 : c.σ = []) (h2 : c.S.sl = []) (i : IsL n c.F c.φ vs ds) : Ok n { c with S := initS N ds c.S.st, σ := L2.start N vs } ∧ Stp c { c with S := initS N ds c.S.st, σ := L2.start N vs } := by
  have get : ∀ (j : Nat) (x : L), (initS N ds c.S.st).sl[j]? = some (some x) → ∃ d, x = .sh d ∧ ds[j]? = some d := fun j x e => by
    have e : (ds.map (fun d => some (L.sh d)) ++ List.replicate (N.length - ds.length) none)[j]? = some (some x) := e
    by_cases hl : j < ds.length
    · rw [List.getElem?_append_left (by rw [List.length_map]; exact hl), List.getElem?_map, List.getElem?_eq_getElem hl] at e
      have e : some (L.sh ds[j]) = some x := by simpa using e
      exact ⟨ds[j], (Option.some.inj e).symm, List.getElem?_eq_getElem hl⟩
    · rw [List.getElem?_append_right (by rw [List.length_map]; omega), List.getElem?_replicate] at e
      split at e <;> cases e
  refine ⟨⟨?_, k.sub, fun j x e => ?_, fun j l x y a _ e1 e2 o1 => ?_, k.nd, k.slen, fun j o a e1 e2 => ?_, k.fφ⟩, ⟨Sub.refl _, fun _ _ h _ _ => h, fun _ h => .inl h, fun b m => ?_, fun _ h => h, ⟨[], by simp⟩, rfl⟩⟩
  · show (ds.map (fun d => some (L.sh d)) ++ List.replicate (N.length - ds.length) none).length = (L2.start N vs).length
    unfold L2.start
    rw [List.length_append, List.length_append, List.length_map, List.length_map, List.length_replicate, List.length_replicate, i.length]
  · obtain ⟨d, rfl, e0⟩ := get j x e
    obtain ⟨v, h3, h4⟩ := i.get e0
    refine ⟨v, ?_, h4⟩
    show (L2.start N vs)[j]? = some (some v)
    unfold L2.start
    have hl : j < vs.length := (List.getElem?_eq_some_iff.mp h3).1
    rw [List.getElem?_append_left (by rw [List.length_map]; exact hl), List.getElem?_map, h3]
    rfl
  · obtain ⟨d, rfl, _⟩ := get j x e1
    cases o1
  · have e1 : c.S.st[j]? = some o := e1
    have z := k.st j o a e1 e2
    cases o <;> exact z
  · rcases m with ⟨j, x, e, o, _⟩ | m
    · obtain ⟨d, rfl, _⟩ := get j x e
      cases o
    · exact .inl (.inr m)
theorem mut_nil {c : Cf} (h : c.S.sl = []) {a : Addr} (m : Mut c a) : a ∈ c.φ := by
  rcases m with ⟨i, x, e, _⟩ | m
  · rw [h] at e; simp at e
  · exact m
/-- behind a body: no slots -/
theorem Ok.strip {c : Cf} (k : Ok n c) : Ok n c.bare ∧ Stp c c.bare := ⟨k.bare, Sub.refl _, fun _ _ h _ _ => h, fun _ h => .inl h, fun b m => .inl (.inr (mut_bare m)), fun _ h => h, ⟨[], by simp [Cf.bare]⟩, rfl⟩
theorem fn_body {x qual : Str} {st : Stmt} {f : Addr} {fd : FuncData} {N ps : List Str} {k : Nat} {fb : MS} (F : Fun K x qual st f fd) (SC : FnScope N ps (defScope st))
    (hb : ∀ (cdv : Value) (A : Around) (outer : List Env) (s : Shared) (H : Hp) (E : XK), Room k (A.deeper (envOfC qual (defScope st) s.heap.objs.size f cdv)) → PSs (cxOf (L2.CX P w) P w K mg base N qual (defScope st) f cdv A outer s H E) (defBody st) (tS n (fun cls d _ H => E cls d H) fb)) :
    FnOk P w K mg base (L2.CX P w) (k + 1) f fd ps (spB n ps.length (runF N fb)) := by
  refine F.okX SC (fun vs H Q E h => ?_) (fun cdv A outer s H vs Q E hr h => ?_)
  · obtain ⟨c, ds, _, _, _, _, _, hl, _⟩ := h
    exact hl
  · obtain ⟨c, ds, rfl, h1, h2, kc, i, hl, o⟩ := h
    obtain ⟨k1, s1⟩ := start_ok (N := N) kc h1 h2 i
    refine ⟨_, hb cdv A outer s c.H E hr, { c with S := initS N ds c.S.st, σ := L2.start N vs }, rfl, rfl, k1, ?_⟩
    unfold runF at o
    have eS : c.S = ⟨[], c.S.st⟩ := by rw [← h2]
    cases q : fb (initS N ds c.S.st) with
    | nx S' =>
      rw [q] at o
      intro c' e1 s' k'
      obtain ⟨k2, s2⟩ := k'.strip
      exact o .non c'.bare (by rw [← e1]; rfl) rfl ((s1.trans s').trans s2) k2 .non (fun z => by cases z)
    | rt l S' =>
      rw [q] at o
      intro v c' e1 s' k' r
      obtain ⟨k2, s2⟩ := k'.strip
      refine o v c'.bare (by rw [← e1]; rfl) rfl ((s1.trans s').trans s2) k2 (by have := r.is; cases l <;> exact this) fun ox a ea => ?_
      obtain ⟨_, r2⟩ := r.own ox a ea
      rcases r2 with z | z
      · exact s1.there a z
      · rcases s1.mono a z with z | z
        · obtain ⟨_, ee, _, hn, _⟩ := r.is.at ox
          rw [ea] at ee; cases ee
          have m := mut_nil h2 z
          obtain ⟨ψ, hψ⟩ := s'.φ
          exact absurd (by rw [hψ]; exact List.mem_append_left _ m) hn
        · exact z
    | exc C fs S' =>
      rw [q] at o
      intro Ca d c' e1 s' k' hC hx
      obtain ⟨k2, s2⟩ := k'.strip
      exact o Ca d c'.bare (by rw [← e1]; rfl) rfl ((s1.trans s').trans s2) k2 hC hx
    | bk S' => rw [q] at o; exact o.elim
    | ct S' => rw [q] at o; exact o.elim
    | bad => rw [q] at o; exact o
end
end Bv

/-! instances made; isinstance; several targets at once -/
namespace Bv
open PySem PySem.Spec PyProof.Rows L2
variable {n : Nm} {W : WX} {X : Cx}
/-- an __init__ by value: the fields behind it -/
abbrev FnI := List D → S → Res (List (Str × D))
def OutI (n : Nm) (x : Addr) (cn : Str) (c : Cf) (r : Res (List (Str × D))) (Q : VK) (E : XK) : Prop := match r with
  | .ok fs S' => ∀ c', c'.S = ⟨[some (.oi true cn fs)], S'.st⟩ → c'.σ = [some (.ref x)] → Stp c c' → Ok n c' → Q .non c'.H
  | .exc C fs S' => ∀ (Ca : Addr) (d : Option Addr) (c' : Cf), c'.S = ⟨[], S'.st⟩ → c'.σ = [] → Stp c c' → Ok n c' → n.cA C = some Ca → XD n c' d fs → E (.ref Ca) d c'.H
  | .bad => False
def spI (n : Nm) (cn : Str) (m : Nat) (f : FnI) : Sp := fun vs H Q E => ∃ (c : Cf) (x : Addr) (ws : List V) (ds : List D), c.H = H ∧ c.σ = [some (.ref x)] ∧ c.S.sl = [some (.oi true cn [])] ∧ c.an = x ∧ Ok n c ∧ vs = .ref x :: ws ∧ IsL n c.F c.φ ws ds ∧ ws.length = m ∧ OutI n x cn c (f ds ⟨[], c.S.st⟩) Q E
def initI (N : List Str) (cn : Str) (ds : List D) (st : List MO) : S := ⟨some (.oi true cn []) :: (ds.map (fun d => some (.sh d)) ++ List.replicate (N.length - (ds.length + 1)) none), st⟩
def runI (N : List Str) (cn : Str) (f : MS) : FnI := fun ds s => match f (initI N cn ds s.st) with
  | .nx s' => (match (s'.sl[0]? : Option (Option L)) with
    | some (some (.oi true cn' fs)) => if cn' = cn then .ok fs s' else .bad
    | _ => .bad)
  | .exc C fs s' => .exc C fs s'
  | _ => .bad
theorem startI_ok {c : Cf} {x : Addr} {cn : Str} {vs : List V} {ds : List D} {N : List Str} (k : Ok n c) (h1 : c.σ = [some (.ref x)]) (h2 : c.S.sl = [some (.oi true cn [])]) (i : IsL n c.F c.φ vs ds) : Ok n { c with S := initI N cn ds c.S.st, σ := L2.start N (.ref x :: vs) } ∧ Stp c { c with S := initI N cn ds c.S.st, σ := L2.start N (.ref x :: vs) } := by
  have hs0 : c.S.sl[0]? = some (some (.oi true cn [])) := by rw [h2]; rfl
  have hv0 : c.σ[0]? = some (some (V.ref x)) := by rw [h1]; rfl
  have get : ∀ (j : Nat) (y : L), (initI N cn ds c.S.st).sl[j]? = some (some y) → (j = 0 ∧ y = .oi true cn []) ∨ ∃ d m, j = m + 1 ∧ y = .sh d ∧ ds[m]? = some d := fun j y e => by
    cases j with
    | zero =>
      have e : some (some (L.oi true cn [])) = some (some y) := e
      exact .inl ⟨rfl, (Option.some.inj (Option.some.inj e)).symm⟩
    | succ j =>
      have e : (ds.map (fun d => some (L.sh d)) ++ List.replicate (N.length - (ds.length + 1)) none)[j]? = some (some y) := e
      by_cases hl : j < ds.length
      · rw [List.getElem?_append_left (by rw [List.length_map]; exact hl), List.getElem?_map, List.getElem?_eq_getElem hl] at e
        have e : some (L.sh ds[j]) = some y := by simpa using e
        exact .inr ⟨ds[j], j, rfl, (Option.some.inj e).symm, List.getElem?_eq_getElem hl⟩
      · rw [List.getElem?_append_right (by rw [List.length_map]; omega), List.getElem?_replicate] at e
        split at e <;> cases e
  have st0 : (L2.start N (.ref x :: vs))[0]? = some (some (V.ref x)) := by
    unfold L2.start
    rw [List.getElem?_append_left (by simp)]
    rfl
  have stS : ∀ (m : Nat) (v : V), vs[m]? = some v → (L2.start N (.ref x :: vs))[m + 1]? = some (some v) := fun m v e => by
    unfold L2.start
    have hl : m < vs.length := (List.getElem?_eq_some_iff.mp e).1
    rw [List.getElem?_append_left (by simp; omega), List.getElem?_map]
    show ((V.ref x :: vs)[m + 1]?).map some = _
    rw [List.getElem?_cons_succ, e]
    rfl
  refine ⟨⟨?_, k.sub, fun j y e => ?_, fun j l y z a hj e1 e2 o1 o2 s1 s2 => ?_, k.nd, k.slen, fun j o a e1 e2 => ?_, k.fφ⟩, ⟨Sub.refl _, fun _ _ h _ _ => h, fun _ h => .inl h, fun b m => ?_, fun _ h => h, ⟨[], by simp⟩, rfl⟩⟩
  · show (some (L.oi true cn []) :: (ds.map (fun d => some (L.sh d)) ++ List.replicate (N.length - (ds.length + 1)) none)).length = (L2.start N (.ref x :: vs)).length
    unfold L2.start
    simp only [List.length_cons, List.length_append, List.length_map, List.length_replicate, i.length]
    omega
  · rcases get j y e with ⟨rfl, rfl⟩ | ⟨d, m, rfl, rfl, e0⟩
    · obtain ⟨v, h3, h4⟩ := k.sl 0 _ hs0
      rw [hv0] at h3
      cases h3
      exact ⟨_, st0, h4⟩
    · obtain ⟨v, h3, h4⟩ := i.get e0
      exact ⟨v, stS m v h3, h4⟩
  · rcases get j y e1 with ⟨rfl, rfl⟩ | ⟨d, m, rfl, rfl, _⟩
    · rcases get l z e2 with ⟨rfl, rfl⟩ | ⟨d, m, rfl, rfl, _⟩
      · exact hj rfl
      · cases o2
    · cases o1
  · have e1 : c.S.st[j]? = some o := e1
    have z := k.st j o a e1 e2
    cases o <;> exact z
  · rcases m with ⟨j, y, e, o, s⟩ | m
    · rcases get j y e with ⟨rfl, rfl⟩ | ⟨d, m, rfl, rfl, _⟩
      · have s : (L2.start N (.ref x :: vs))[0]? = some (some (V.ref b)) := s
        rw [st0] at s
        cases s
        exact .inl (.inl ⟨0, _, hs0, rfl, hv0⟩)
      · cases o
    · exact .inl (.inr m)
/-- behind an __init__'s body: the instance alone -/
theorem Ok.self {c c' : Cf} {x : Addr} {cn : Str} {fs : List (Str × D)} (k : Ok n c') (s : Stp c c') (han : c.an = x) (e : c'.S.sl[0]? = some (some (.oi true cn fs))) :
    Ok n { c' with S := ⟨[some (.oi true cn fs)], c'.S.st⟩, σ := [some (.ref x)] } ∧ Stp c' { c' with S := ⟨[some (.oi true cn fs)], c'.S.st⟩, σ := [some (.ref x)] } := by
  obtain ⟨v, h1, a, C, dx, vs, rfl, hb, hC, g1, g2, g3, g4⟩ := k.sl 0 _ e
  have ea : a = x := (hb rfl).trans (s.an.trans han)
  subst ea
  have get : ∀ (j : Nat) (y : L), ([some (L.oi true cn fs)] : List (Option L))[j]? = some (some y) → j = 0 ∧ y = .oi true cn fs := fun j y q => by
    cases j with
    | zero =>
      have q : some (some (L.oi true cn fs)) = some (some y) := q
      exact ⟨rfl, (Option.some.inj (Option.some.inj q)).symm⟩
    | succ j => simp at q
  refine ⟨⟨rfl, k.sub, fun j y q => ?_, fun j l y z b hj e1 e2 _ _ _ _ => ?_, k.nd, k.slen, fun j o b e1 e2 => ?_, k.fφ⟩, ⟨Sub.refl _, fun _ _ h _ _ => h, fun _ h => .inl h, fun b m => ?_, fun _ h => h, ⟨[], by simp⟩, rfl⟩⟩
  · obtain ⟨rfl, rfl⟩ := get j y q
    exact ⟨.ref a, rfl, a, C, dx, vs, rfl, hb, hC, g1, g2, g3, g4⟩
  · obtain ⟨rfl, _⟩ := get j y e1
    obtain ⟨rfl, _⟩ := get l z e2
    exact hj rfl
  · have z := k.st j o b e1 e2
    cases o <;> exact z
  · rcases m with ⟨j, y, q1, q2, q3⟩ | m
    · obtain ⟨rfl, rfl⟩ := get j y q1
      have q3 : some (some (V.ref a)) = some (some (V.ref b)) := q3
      have q4 : a = b := V.ref.inj (Option.some.inj (Option.some.inj q3))
      subst q4
      exact .inl (.inl ⟨0, _, e, rfl, h1⟩)
    · exact .inl (.inr m)
section
variable {P : Program} {w : World} {K : PySem.W.Frag} {mg : Str → Option Value} {base : Heap}
theorem init_body {x qual cn : Str} {st : Stmt} {f : Addr} {fd : FuncData} {N ps : List Str} {k : Nat} {fb : MS} (m : Nat) (hm : ps.length = m + 1) (F : Fun K x qual st f fd) (SC : FnScope N ps (defScope st))
    (hb : ∀ (cdv : Value) (A : Around) (outer : List Env) (s : Shared) (H : Hp) (E : XK), Room k (A.deeper (envOfC qual (defScope st) s.heap.objs.size f cdv)) → PSs (cxOf (L2.CX P w) P w K mg base N qual (defScope st) f cdv A outer s H E) (defBody st) (tS n (fun cls d _ H => E cls d H) fb)) :
    FnOk P w K mg base (L2.CX P w) (k + 1) f fd ps (spI n cn m (runI N cn fb)) := by
  refine F.okX SC (fun vs H Q E h => ?_) (fun cdv A outer s H vs Q E hr h => ?_)
  · obtain ⟨c, y, ws, ds, _, _, _, _, _, rfl, _, hl, _⟩ := h
    rw [List.length_cons, hl, hm]
  · obtain ⟨c, y, ws, ds, rfl, h1, h2, han, kc, rfl, i, hl, o⟩ := h
    obtain ⟨k1, s1⟩ := startI_ok (N := N) kc h1 h2 i
    refine ⟨_, hb cdv A outer s c.H E hr, { c with S := initI N cn ds c.S.st, σ := L2.start N (.ref y :: ws) }, rfl, rfl, k1, ?_⟩
    unfold runI at o
    dsimp only at o
    cases q : fb (initI N cn ds c.S.st) with
    | nx S' =>
      rw [q] at o
      dsimp only at o
      cases q1 : S'.sl[0]? with
      | none => rw [q1] at o; exact o.elim
      | some z =>
        rw [q1] at o
        cases z with
        | none => exact o.elim
        | some z =>
          cases z with
          | oi b cn' fs =>
            cases b with
            | false => exact o.elim
            | true =>
              dsimp only at o
              by_cases hc : cn' = cn
              · subst hc
                rw [if_pos rfl] at o
                intro c' e1 s' k'
                obtain ⟨k2, s2⟩ := Ok.self (n := n) (c := c) k' (s1.trans s') han (by rw [e1]; exact q1)
                exact o { c' with S := ⟨[some (.oi true cn' fs)], c'.S.st⟩, σ := [some (.ref y)] } (by rw [e1]) rfl ((s1.trans s').trans s2) k2
              · rw [if_neg hc] at o; exact o.elim
          | _ => exact o.elim
    | exc C fs S' =>
      rw [q] at o
      intro Ca d c' e1 s' k' hC hx
      obtain ⟨k2, s2⟩ := k'.strip
      exact o Ca d c'.bare (by rw [← e1]; rfl) rfl ((s1.trans s').trans s2) k2 hC hx
    | rt l S' => rw [q] at o; exact o.elim
    | bk S' => rw [q] at o; exact o.elim
    | ct S' => rw [q] at o; exact o.elim
    | bad => rw [q] at o; exact o.elim
end
/-! ### C(..) -/
def makeM (cn : Str) (m : Nat) (f : FnI) (ds : List D) : M L := fun s => if ds.length = m then (match f ds ⟨[], s.st⟩ with
  | .ok fs s' => .ok (.oi false cn fs) ⟨s.sl, s'.st⟩
  | .exc C fs s' => .exc C fs ⟨s.sl, s'.st⟩
  | .bad => .bad) else .bad
theorem Stp.anch {c c' : Cf} (s : Stp c c') (a : Addr) : Stp { c with an := a } { c' with an := a } := ⟨s.F, fun b o h m t => s.H b o h (fun z => m (by
    rcases z with ⟨i, x, e1, e2, e3⟩ | z
    · exact .inl ⟨i, x, e1, e2, e3⟩
    · exact .inr z)) t, fun b h => by
    rcases s.new b h with z | z | z
    · exact .inl z
    · exact .inr (.inl z)
    · exact .inr (.inr (by
        rcases z with ⟨i, x, e1, e2, e3⟩ | z
        · exact .inl ⟨i, x, e1, e2, e3⟩
        · exact .inr z)), fun b h => by
    rcases s.mono b (by
        rcases h with ⟨i, x, e1, e2, e3⟩ | z
        · exact .inl ⟨i, x, e1, e2, e3⟩
        · exact .inr z) with z | z
    · exact .inl (by
        rcases z with ⟨i, x, e1, e2, e3⟩ | z
        · exact .inl ⟨i, x, e1, e2, e3⟩
        · exact .inr z)
    · exact .inr z, s.there, s.φ, rfl⟩
theorem Ok.anchB {c : Cf} (k : Ok n c) (h : c.S.sl = []) (a : Addr) : Ok n { c with an := a } := ⟨k.len, k.sub, fun i x e => by
    have e : c.S.sl[i]? = some (some x) := e
    rw [h] at e; simp at e, fun i j x y b _ e => by
    have e : c.S.sl[i]? = some (some x) := e
    rw [h] at e; simp at e, k.nd, k.slen, fun j o b e1 e2 => by
    have z := k.st j o b e1 e2
    cases o <;> exact z, k.fφ⟩
theorem make_ok {f : FnI} {m : Nat} {cn : Str} {c : Cf} {vs : List V} {ds : List D} {C x dx : Addr} {Q : VK} {E : XK} (hC : n.cA cn = some C) (hE : ∀ cls d H, W cls d c.σ H → E cls d H) (k : Ok n c) (i : IsL n c.F c.φ vs ds) (hx : c.H x = none) (hdx : c.H dx = none) (hne : dx ≠ x)
    (o : Out n W (RV n) c (makeM cn m f ds c.S) Q) : spI n cn m f (.ref x :: vs) (upd (upd c.H dx (.own x)) x (.ins C dx [])) (fun v H2 => v = .non ∧ Q (.ref x) H2) E := by
  unfold makeM at o
  split at o
  case isFalse => exact o.not_bad
  rename_i hl
  -- the bare configuration with the two new objects
  obtain ⟨ka, sa, na1, na2, na3⟩ := k.bare.alloc (o := .own x) (show c.bare.H dx = none from hdx)
  obtain ⟨kb, sb, nb1, nb2, nb3⟩ := ka.alloc (p := x) (o := .ins C dx []) (show upd c.H dx (.own x) x = none by rw [upd_ne (fun z => hne z.symm)]; exact hx)
  have k2 : Ok n { c with S := ⟨[some (.oi true cn [])], c.S.st⟩, σ := [some (.ref x)], H := upd (upd c.H dx (.own x)) x (.ins C dx []), an := x } := by
    have get : ∀ (j : Nat) (y : L), ([some (L.oi true cn [])] : List (Option L))[j]? = some (some y) → j = 0 ∧ y = .oi true cn [] := fun j y q => by
      cases j with
      | zero =>
        have q : some (some (L.oi true cn [])) = some (some y) := q
        exact ⟨rfl, (Option.some.inj (Option.some.inj q)).symm⟩
      | succ j => simp at q
    refine ⟨rfl, kb.sub, fun j y q => ?_, fun j l y z b hj e1 e2 _ _ _ _ => ?_, kb.nd, kb.slen, fun j o b e1 e2 => ?_, kb.fφ⟩
    · obtain ⟨rfl, rfl⟩ := get j y q
      exact ⟨.ref x, rfl, x, C, dx, [], rfl, fun _ => rfl, hC, upd_same, nb2, nb1, .nil⟩
    · obtain ⟨rfl, _⟩ := get j y e1
      obtain ⟨rfl, _⟩ := get l z e2
      exact hj rfl
    · have z := kb.st j o b e1 e2
      cases o <;> exact z
  refine ⟨{ c with S := ⟨[some (.oi true cn [])], c.S.st⟩, σ := [some (.ref x)], H := upd (upd c.H dx (.own x)) x (.ins C dx []), an := x }, x, vs, ds, rfl, rfl, rfl, rfl, k2, rfl, i, by rw [i.length]; exact hl, ?_⟩
  have s2 : Stp c.bare { c with S := ⟨[some (.oi true cn [])], c.S.st⟩, σ := [some (.ref x)], H := upd (upd c.H dx (.own x)) x (.ins C dx []) } := by
    have s := sa.trans sb
    refine ⟨s.F, s.H, s.new, fun b m => ?_, s.there, s.φ, rfl⟩
    rcases m with ⟨j, y, q1, q2, q3⟩ | m
    · cases j with
      | zero =>
        have q3 : some (some (V.ref x)) = some (some (V.ref b)) := q3
        have q4 : x = b := V.ref.inj (Option.some.inj (Option.some.inj q3))
        subst q4
        exact .inr hx
      | succ j =>
        have q1 : ([some (L.oi true cn [])] : List (Option L))[j + 1]? = some (some y) := q1
        simp at q1
    · exact .inl (.inr m)
  show OutI n x cn _ (f ds ⟨[], c.S.st⟩) _ _
  cases q : f ds ⟨[], c.S.st⟩ with
  | bad => rw [q] at o; exact o
  | ok fs S' =>
    rw [q] at o
    intro c' e1 e2 s' k'
    refine ⟨rfl, ?_⟩
    obtain ⟨kc, sc⟩ := k'.strip
    have s3 : Stp c.bare { c'.bare with an := c.an } := s2.trans ((s'.trans sc).anch c.an)
    have k3 : Ok n { c'.bare with an := c.an } := kc.anchB rfl c.an
    obtain ⟨k4, s4⟩ := k.back (st := S'.st) s3 k3 (by show Cf.S c'.bare = _; unfold Cf.bare; rw [e1])
    obtain ⟨v, g1, a, C1, dx1, ws, rfl, gb, gC, g2, g3, g4, g5⟩ := k'.sl 0 (.oi true cn fs) (by rw [e1]; rfl)
    have ea : a = x := by rw [e2] at g1; exact (V.ref.inj (Option.some.inj (Option.some.inj g1))).symm
    subst ea
    refine o.to (c' := { c' with S := ⟨c.S.sl, S'.st⟩, σ := c.σ, an := c.an }) rfl rfl s4 k4 ⟨⟨a, C1, dx1, ws, rfl, (fun z => absurd z Bool.false_ne_true), gC, g2, g3, g4, g5⟩, fun _ b eb => ?_⟩
    cases eb
    refine ⟨fun ⟨j, y, a1, a2, a3⟩ => ?_, .inl hx⟩
    obtain ⟨w, b1, b2⟩ := k.sl j y a1
    have a3 : c.σ[j]? = some (some (V.ref a)) := a3
    rw [a3] at b1; cases b1
    obtain ⟨_, ee, _, _, u, hu, _⟩ := b2.at a2
    cases ee
    rw [hx] at hu; cases hu
  | exc C0 fs S' =>
    rw [q] at o
    intro Ca d c' e1 e2 s' k' hCa hXD
    have s3 : Stp c.bare { c' with an := c.an } := s2.trans (s'.anch c.an)
    have k3 : Ok n { c' with an := c.an } := k'.anchB (by rw [e1]) c.an
    obtain ⟨k4, s4⟩ := k.back (st := S'.st) s3 k3 e1
    exact hE _ _ _ (o Ca d { c' with S := ⟨c.S.sl, S'.st⟩, σ := c.σ, an := c.an } rfl rfl s4 k4 hCa hXD)
theorem be_make {x : Str} {p pos : Pos} {e : Expr} {es : List Expr} {fs : M (List D)} {f : FnI} {k m : Nat} {a C : Addr} {fd : FuncData} {ps : List Str} (tk : Takes X W) (hW : ∀ cls d σ σ' H, W cls d σ H → W cls d σ' H) (MK : Mk X.K C a)
    (F : FnOk X.prog X.w X.K X.mg X.base (L2.CX X.prog X.w) k a fd ps (spI n x m f)) (hr : Room (k + 1) X.A) (hC : n.cA x = some C) (hg : Gl X x) (hm : X.mg x = some (.ref C))
    (hb : Binds X.K fd ps []) (ha : PA X (e :: es) (tA n W fs)) (hdb : (x == ("__debug__" : Str)) = false) (he : starEach (e :: es) X.env = (false, eval e X.env) :: starEach es X.env) (hpl : (backTo pos (starEach es X.env)).any (·.1) = false) :
    PE X (.Call (.Name x p) (e :: es) [] pos) (tO n W (fnM fs (makeM x m f))) :=
  (pe_make (E := fun cls d H => W cls d [] H) MK F hr hg hm hb .nil (passes_call tk fun cls d σ H h => hW _ _ _ _ _ h) ha hdb he hpl).imp fun σ H Q ⟨c, e1, e2, kc, o⟩ => by
    subst e1 e2
    refine ⟨c, rfl, rfl, kc, Out.bind (P1 := PL n) trO o fun vs c1 ds e1 s1 k1 i1 o1 => ?_⟩
    intro y dx hy hdx hne
    rw [List.append_nil]
    exact make_ok hC (fun cls d H h => hW _ _ _ _ _ h) k1 i1 hy hdx hne o1
end Bv

/-! isinstance; comparisons of borrowed values; several targets at once -/
namespace Bv
open PySem PySem.Spec PyProof.Rows L2
variable {n : Nm} {W : WX} {X : Cx}
/-! ### isinstance -/
/-- the type of a value -/
inductive Ty where
  | b (s : String) | c (x : Str)
  deriving DecidableEq
def tyD : D → Option Ty
  | .non => some (.b "NoneType")
  | .bl _ => some (.b "bool")
  | .int _ => some (.b "int")
  | .str _ => some (.b "str")
  | .lst _ => some (.b "list")
  | .tup _ => some (.b "tuple")
  | .dic _ => some (.b "dict")
  | .inst x _ => some (.c x)
  | _ => none
def Ty.val (n : Nm) : Ty → Option Value
  | .b s => some (.type s)
  | .c x => (n.cA x).map Value.ref
def ClsAll (n : Nm) : Prop := ∀ x C, n.cA x = some C → ClsI n.K C
theorem SqT.ty {K : PySem.W.Frag} {H : Hp} {a : Addr} {xs : List V} (h : SqT K H a xs) : TyX K H (.ref a) (.type "tuple") := by
  rcases h with (h | ⟨o, h⟩) | ⟨o, its, m, h1, h2, _⟩
  · exact .base (.tup h)
  · exact .fTuple h
  · exact .kTuple h1 h2
theorem OIs.ty {c : Cf} {v : V} {l : L} {t : Ty} {u : Value} (hA : ClsAll n) (k : Ok n c) (h : OIs n c v l) (e : tyD l.d = some t) (e2 : t.val n = some u) : TyX n.K c.H v u := by
  cases q : l.d with
  | non => rw [q] at e; cases e; cases e2; cases h.plain q (fun _ _ _ _ => ⟨by simp, by simp, by simp⟩); exact .base .non
  | bl b => rw [q] at e; cases e; cases e2; rw [h.bl q]; exact .base (.bl _)
  | int b => rw [q] at e; cases e; cases e2; rw [h.int q]; exact .base (.int _)
  | str b => rw [q] at e; cases e; cases e2; rw [h.str q]; exact .base (.str _)
  | lst ds => rw [q] at e; cases e; cases e2; obtain ⟨a, vs, rfl, h1, _⟩ := h.lst k q; exact .base (.lst h1)
  | tup ds => rw [q] at e; cases e; cases e2; obtain ⟨a, vs, rfl, h1, _⟩ := h.tup k q; exact SqT.ty h1
  | dic kvs =>
    rw [q] at e; cases e; cases e2
    obtain ⟨a, rfl, ⟨vs, h1, _⟩ | ⟨vs, h1, _⟩⟩ := h.dic k q
    · exact .base (.dK h1)
    · exact .base (.dT h1)
  | inst x fs =>
    rw [q] at e; cases e
    have key : ∀ {a C dx : Addr} {vs : List (Str × V)}, n.cA x = some C → c.H a = some (.ins C dx vs) → TyX n.K c.H (.ref a) u := fun {a C dx vs} h1 h2 => by
      have e2 : (n.cA x).map Value.ref = some u := e2
      rw [h1] at e2
      cases e2
      obtain ⟨c1, c2, c3, c4, c5⟩ := hA x C h1
      exact .base (.ins h2 c1 c2 c3 c4 c5)
    cases l with
    | sh d =>
      have q : d = .inst x fs := q
      subst q
      have h : Is n c.F c.φ v (.inst x fs) := h
      cases h with
      | inst h1 h2 _ => exact key h1 (k.sub _ _ h2)
    | oi b y gs =>
      have q : D.inst y gs = .inst x fs := q
      cases q
      obtain ⟨a, C, dx, vs, rfl, _, hC, h1, _⟩ := h
      exact key hC h1
    | ol ds => cases q
    | od ds => cases q
  | _ => rw [q] at e; cases e
theorem OIs.subH {c : Cf} {v : V} {l : L} {H' : Hp} (h2 : OIs n c v l) (hs : Sub c.H H') : OIs n { c with H := H' } v l := by
  cases l with
  | sh d => exact h2
  | ol ds => obtain ⟨a, vs, e1, h3, h4, h5, h6⟩ := h2; exact ⟨a, vs, e1, hs _ _ h3, h4, h5, h6⟩
  | od kvs =>
    obtain ⟨a, e1, h4, h5, ⟨vs, h3, h6⟩ | ⟨vs, h3, h6⟩⟩ := h2
    · exact ⟨a, e1, h4, h5, .inl ⟨vs, hs _ _ h3, h6⟩⟩
    · exact ⟨a, e1, h4, h5, .inr ⟨vs, hs _ _ h3, h6⟩⟩
  | oi b C fs => obtain ⟨a, C, dx, vs, e1, hb, hC, h3, h4, h5, h6⟩ := h2; exact ⟨a, C, dx, vs, e1, hb, hC, hs _ _ h3, h4, h5, h6⟩
/-- a known type has its value -/
theorem OIs.tyAt {c : Cf} {v : V} {l : L} {t : Ty} (h : OIs n c v l) (q : tyD l.d = some t) : ∃ u, t.val n = some u := by
  cases t with
  | b s => exact ⟨_, rfl⟩
  | c y =>
    cases l with
    | sh d =>
      cases d <;> cases q
      have h : Is n c.F c.φ v (.inst y _) := h
      cases h with
      | inst h1 _ _ => exact ⟨.ref _, show (n.cA y).map Value.ref = _ by rw [h1]; rfl⟩
    | oi b z gs =>
      cases q
      obtain ⟨_, _, _, _, _, _, hC, _⟩ := h
      exact ⟨.ref _, show (n.cA y).map Value.ref = _ by rw [hC]; rfl⟩
    | ol ds => cases q
    | od ds => cases q
/-- what is told of a type and the classes asked -/
def Asks (n : Nm) (u : List Value) (g : Ty → Option Bool) : Prop := ∀ t b v, g t = some b → t.val n = some v → PySem.W.kitAny n.K v u = some b
def isiW (g : Ty → Option Bool) (l : L) : M L := match (tyD l.d).bind g with
  | some b => pure (.sh (.bl b))
  | none => bad
theorem kit1 {K : PySem.W.Frag} {t u : Value} {b : Bool} (h : PySem.W.kitAny K t [u] = some b) : PySem.W.kitOne K t u = some b := by
  unfold PySem.W.kitAny at h
  split at h
  · rename_i e; rw [e]; exact h
  · rename_i e; rw [e]; exact h
  · cases h
section
variable {e c : Expr} {cv : V} {u : Value} {f : M L} {g : Ty → Option Bool} {p pos : Pos}
/-- one class -/
theorem be_isi (hA : ClsAll n) (hK : X.K = n.K) (he : PE X e (tW n W f)) (hc : PE X c (tC cv)) (hcv : ClsV cv u) (ha : Asks n [u] g) (hg : Gl X "isinstance") (hm : X.mg "isinstance" = none)
    (h1 : starEach (e :: [c]) X.env = (false, eval e X.env) :: starEach [c] X.env) (h2 : starEach (c :: []) X.env = (false, eval c X.env) :: starEach [] X.env) (hpl : (backTo pos (starEach [c] X.env)).any (·.1) = false) :
    PE X (.Call (.Name "isinstance" p) [e, c] [] pos) (tO n W (thM f (isiW g))) :=
  (pe_callB call_isi hg hm boot_isinstance (pa_cons he (pa_cons hc pa_nil h2) h1) (by decide) (by decide) h1 hpl).imp fun σ H Q ⟨c, e1, e2, k, o⟩ => by
    subst e1 e2
    refine ⟨c, rfl, rfl, k, Out.bind (P1 := PB n) trO o fun x c1 l e1 s1 k1 i1 o1 => ?_⟩
    unfold isiW at o1
    cases q : tyD l.d with
    | none => rw [q] at o1; exact o1.not_bad
    | some t =>
      rw [q] at o1
      cases q2 : g t with
      | none => rw [show (some t).bind g = g t from rfl, q2] at o1; exact o1.not_bad
      | some b =>
        rw [show (some t).bind g = g t from rfl, q2] at o1
        obtain ⟨v, q3⟩ := OIs.tyAt i1 q
        exact ⟨x, cv, v, u, b, rfl, hcv, by rw [hK]; exact OIs.ty hA k1 i1 q q3, by rw [hK]; exact kit1 (ha t b v q2 q3), o1.sh k1 (.bl _)⟩
/-- a tuple of classes -/
theorem be_isiT {cs : List Expr} {cvs : List V} {us : List Value} {kk : Nat} {p2 : Pos} (hA : ClsAll n) (hK : X.K = n.K) (he : PE X e (tW n W f)) (hc : PA X cs (fun _ H Q => Q cvs H)) (hcv : Paired ClsV cvs us) (hl : cvs.length ≤ sizeLine) (ha : Asks n us g) (hg : Gl X "isinstance") (hm : X.mg "isinstance" = none)
    (h1 : starEach (e :: [.Tuple cs kk p2]) X.env = (false, eval e X.env) :: starEach [.Tuple cs kk p2] X.env) :
    PE X (.Call (.Name "isinstance" p) [e, .Tuple cs kk p2] [] pos) (tO n W (thM f (isiW g))) :=
  (pe_callB call_isiT hg hm boot_isinstance (pa_cons he (pa_cons (pe_tup hc) pa_nil rfl) h1) (by decide) (by decide) h1 rfl).imp fun σ H Q ⟨c, e1, e2, k, o⟩ => by
    subst e1 e2
    refine ⟨c, rfl, rfl, k, Out.bind (P1 := PB n) trO o fun x c1 l e1 s1 k1 i1 o1 => ?_⟩
    refine ⟨hl, fun tp htp => ?_⟩
    obtain ⟨k2, s2, na, nf, no⟩ := k1.alloc (o := .tup cvs) htp
    have i2 : OIs n { c1 with H := upd c1.H tp (.tup cvs) } x l := OIs.subH i1 (sub_upd htp)
    have o2 := Out.later trO o1 s2 rfl
    unfold isiW at o2
    cases q : tyD l.d with
    | none => rw [q] at o2; exact o2.not_bad
    | some t =>
      rw [q] at o2
      cases q2 : g t with
      | none => rw [show (some t).bind g = g t from rfl, q2] at o2; exact o2.not_bad
      | some b =>
        rw [show (some t).bind g = g t from rfl, q2] at o2
        obtain ⟨v, q3⟩ := OIs.tyAt i2 q
        exact ⟨x, tp, cvs, v, us, b, rfl, upd_same, hcv, by rw [hK]; exact OIs.ty hA k2 i2 q q3, by rw [hK]; exact ha t b v q2 q3, o2.sh k2 (.bl _)⟩
end
end Bv

/-! two or three names at once -/
namespace Bv
open PySem PySem.Spec PyProof.Rows L2
variable {n : Nm} {W : WX} {X : Cx}
/-- an own value that nothing holds yet stays so -/
theorem RV.safe {c0 c1 c2 : Cf} {v : V} {l : L} (r : RV n c0 c1 v l) (s : Stp c1 c2) (o : l.own = true) {a : Addr} (ea : v = .ref a) : ¬ Mut c1 a ∧ ¬ Mut c2 a := by
  obtain ⟨h1, h2⟩ := r.own o a ea
  obtain ⟨_, ee, hf, hφ, u, hu, _⟩ := r.is.at o
  rw [ea] at ee; cases ee
  have m1 : ¬ Mut c1 a := fun m => by
    rcases m with m | m
    · exact h1 m
    · exact hφ m
  refine ⟨m1, fun m => ?_⟩
  rcases s.mono a m with z | z
  · exact m1 z
  · rw [hu] at z; cases z
theorem RV.step {c0 c1 c2 : Cf} {v : V} {l : L} (r : RV n c0 c1 v l) (s : Stp c1 c2) : RV n c0 c2 v l := by
  refine ⟨OIs.step r.is s fun o a ea => ?_, fun o a ea => ?_⟩
  · obtain ⟨m1, m2⟩ := r.safe s o ea
    exact ⟨m1, fun z => m2 (.inr z)⟩
  · obtain ⟨m1, m2⟩ := r.safe s o ea
    exact ⟨fun z => m2 (.inl z), (r.own o a ea).2⟩
/-- beside another one that is put into a slot -/
theorem RV.beside {c0 c : Cf} {v w : V} {l m : L} {i : Nat} (r : RV n c0 c v l) (h : l.own = true → m.own = true → ∀ a b, v = .ref a → w = .ref b → a ≠ b) : RV n c0 { c with S := { c.S with sl := c.S.sl.set i (some m) }, σ := c.σ.set i (some w) } v l := by
  refine ⟨by have := r.is; cases l <;> exact this, fun o a ea => ⟨?_, (r.own o a ea).2⟩⟩
  rintro ⟨j, x, e1, e2, e3⟩
  have e1 : (c.S.sl.set i (some m))[j]? = some (some x) := e1
  have e3 : (c.σ.set i (some w))[j]? = some (some (V.ref a)) := e3
  by_cases hij : i = j
  · subst hij
    rw [List.getElem?_set_self'] at e1 e3
    cases q1 : c.S.sl[i]? with
    | none => rw [q1] at e1; cases e1
    | some y =>
      cases q2 : c.σ[i]? with
      | none => rw [q2] at e3; cases e3
      | some z =>
        rw [q1] at e1; rw [q2] at e3
        have e1 : some m = some x := by simpa using e1
        have e3 : some w = some (V.ref a) := by simpa using e3
        cases e1; cases e3
        exact h o e2 a a ea rfl rfl
  · rw [List.getElem?_set_ne hij] at e1 e3
    exact (r.own o a ea).1 ⟨j, x, e1, e2, e3⟩
theorem RV.apart {c0 c1 c2 : Cf} {v w : V} {l m : L} (r : RV n c0 c1 v l) (s : Stp c1 c2) (q : RV n c1 c2 w m) : l.own = true → m.own = true → ∀ a b, v = .ref a → w = .ref b → a ≠ b := fun o1 o2 a b ea eb e => by
  subst e
  obtain ⟨m1, m2⟩ := r.safe s o1 ea
  obtain ⟨_, ee, _, _, u, hu, _⟩ := r.is.at o1
  rw [ea] at ee; cases ee
  rcases (q.own o2 a eb).2 with z | z
  · rw [hu] at z; cases z
  · exact m1 z
theorem OutS.bind0 {α γ : Type} {P : Cf → Cf → γ → α → Prop} {c0 c : Cf} {m : M α} {k : α → MS} {E : Ends} {Q1 : γ → Hp → Prop} (s0 : Stp c0 c) (o : OutS n W c0 (thS m k c.S) E)
    (h : ∀ v c' a, c'.σ = c.σ → Stp c c' → Ok n c' → P c c' v a → OutS n W c0 (k a c'.S) E → Q1 v c'.H) : Out n W P c (m c.S) Q1 := by
  unfold thS at o
  cases e : m c.S with
  | ok a S' =>
    rw [e] at o
    exact fun v c' h1 h2 h3 h4 h5 => h v c' a h2 h3 h4 h5 (by rw [h1]; exact o)
  | exc C fs S' => rw [e] at o; exact fun Ca d c' h1 h2 h3 h4 h5 h6 => o Ca d c' h1 (s0.trans h3) h4 h5 h6
  | bad => rw [e] at o; exact o
def put2 (i j : Nat) (x y : L) (s : S) : S := { s with sl := (s.sl.set i (some x)).set j (some y) }
def par2 (i j : Nat) (fa fb : M L) : MS := thS fa fun x => thS fb fun y s => .nx (put2 i j x y s)
def put3 (i j l : Nat) (x y z : L) (s : S) : S := { s with sl := ((s.sl.set i (some x)).set j (some y)).set l (some z) }
def par3 (i j l : Nat) (fa fb fc : M L) : MS := thS fa fun x => thS fb fun y => thS fc fun z s => .nx (put3 i j l x y z s)
section
variable {i j l : Nat} {x y z : Str} {a b e : Expr} {fa fb fc : M L} {px py pz pt : Pos} {kt k2 : Nat} {pt2 pos : Pos}
theorem bs_par (hc : X.calm = true) (hN : X.N.Nodup) (hi : X.N[i]? = some x) (hj : X.N[j]? = some y) (hij : i ≠ j) (hx : X.env.scope.names.lookup x = some .local) (hy : X.env.scope.names.lookup y = some .local) (ha : PE X a (tO n W fa)) (hb : PE X b (tO n W fb))
    (h1 : starEach (a :: [b]) X.env = (false, eval a X.env) :: starEach [b] X.env) (h2 : starEach (b :: []) X.env = (false, eval b X.env) :: starEach [] X.env)
    (hw : swappedStores [.Tuple [.Name x px, .Name y py] kt pt] (.Tuple [a, b] k2 pt2) X.env = pure (some [x, y])) (hs : swapsWithSole [.Tuple [.Name x px, .Name y py] kt pt] (.Tuple [a, b] k2 pt2) pos.line X.env = pure false) :
    PS X (.Assign [.Tuple [.Name x px, .Name y py] kt pt] (.Tuple [a, b] k2 pt2) pos) (tS n W (par2 i j fa fb)) :=
  (ps_par hc hN hi hj hij hx hy (pa_cons ha (pa_cons hb pa_nil h2) h1) hw hs).imp fun E σ H ⟨c, e1, e2, k, o⟩ => by
    subst e1 e2
    refine ⟨c, rfl, rfl, k, OutS.bind0 (P := RV n) (Stp.refl c) o fun v c1 la e1 s1 k1 r1 o1 => ?_⟩
    refine ⟨c1, e1, rfl, k1, OutS.bind0 (P := RV n) s1 o1 fun w c2 lb e2 s2 k2 r2 o2 => ?_⟩
    refine ⟨v, w, rfl, ?_⟩
    obtain ⟨k3, s3⟩ := k2.put (i := i) (s1.trans s2) (r1.step s2)
    have r3 : RV n c { c2 with S := { c2.S with sl := c2.S.sl.set i (some la) }, σ := c2.σ.set i (some v) } w lb := RV.beside (trO _ _ _ _ _ s1 r2) fun q1 q2 a b ea eb z => r1.apart s2 r2 q2 q1 b a eb ea z.symm
    obtain ⟨k4, s4⟩ := k3.put (i := j) s3 r3
    have z := o2 { c2 with S := put2 i j la lb c2.S, σ := (c2.σ.set i (some v)).set j (some w) } rfl s4 k4
    rw [← e1, ← e2]
    exact z
theorem bs_par3 (hc : X.calm = true) (hN : X.N.Nodup) (hi : X.N[i]? = some x) (hj : X.N[j]? = some y) (hl : X.N[l]? = some z) (hij : i ≠ j) (hil : i ≠ l) (hjl : j ≠ l) (hx : X.env.scope.names.lookup x = some .local) (hy : X.env.scope.names.lookup y = some .local) (hz : X.env.scope.names.lookup z = some .local)
    (ha : PE X a (tO n W fa)) (hb : PE X b (tO n W fb)) (he : PE X e (tO n W fc))
    (h1 : starEach (a :: [b, e]) X.env = (false, eval a X.env) :: starEach [b, e] X.env) (h2 : starEach (b :: [e]) X.env = (false, eval b X.env) :: starEach [e] X.env) (h3 : starEach (e :: []) X.env = (false, eval e X.env) :: starEach [] X.env)
    (hw : swappedStores [.Tuple [.Name x px, .Name y py, .Name z pz] kt pt] (.Tuple [a, b, e] k2 pt2) X.env = pure (some [x, y, z])) (hs : swapsWithSole [.Tuple [.Name x px, .Name y py, .Name z pz] kt pt] (.Tuple [a, b, e] k2 pt2) pos.line X.env = pure false) :
    PS X (.Assign [.Tuple [.Name x px, .Name y py, .Name z pz] kt pt] (.Tuple [a, b, e] k2 pt2) pos) (tS n W (par3 i j l fa fb fc)) :=
  (ps_par3 hc hN hi hj hl hij hil hjl hx hy hz (pa_cons ha (pa_cons hb (pa_cons he pa_nil h3) h2) h1) hw hs).imp fun E σ H ⟨c, e1, e2, k, o⟩ => by
    subst e1 e2
    refine ⟨c, rfl, rfl, k, OutS.bind0 (P := RV n) (Stp.refl c) o fun v c1 la e1 s1 k1 r1 o1 => ?_⟩
    refine ⟨c1, e1, rfl, k1, OutS.bind0 (P := RV n) s1 o1 fun w c2 lb e2 s2 k2 r2 o2 => ?_⟩
    refine ⟨c2, e2.trans e1, rfl, k2, OutS.bind0 (P := RV n) (s1.trans s2) o2 fun u c3 lc e3 s3 k3 r3 o3 => ?_⟩
    refine ⟨v, w, u, rfl, ?_⟩
    obtain ⟨k4, s4⟩ := k3.put (i := i) (s1.trans (s2.trans s3)) (r1.step (s2.trans s3))
    have r4 : RV n c { c3 with S := { c3.S with sl := c3.S.sl.set i (some la) }, σ := c3.σ.set i (some v) } w lb := RV.beside (trO _ _ _ _ _ s1 (r2.step s3)) fun q1 q2 a b ea eb z => r1.apart (s2.trans s3) (r2.step s3) q2 q1 b a eb ea z.symm
    have r5 : RV n c { c3 with S := { c3.S with sl := c3.S.sl.set i (some la) }, σ := c3.σ.set i (some v) } u lc := RV.beside (trO _ _ _ _ _ (s1.trans s2) r3) fun q1 q2 a b ea eb z => (r1.step s2).apart s3 r3 q2 q1 b a eb ea z.symm
    obtain ⟨k5, s5⟩ := k4.put (i := j) s4 r4
    have r6 := RV.beside (w := w) (m := lb) (i := j) r5 fun q1 q2 a b ea eb z => r2.apart s3 r3 q2 q1 b a eb ea z.symm
    obtain ⟨k6, s6⟩ := k5.put (i := l) s5 r6
    have z := o3 { c3 with S := put3 i j l la lb lc c3.S, σ := ((c3.σ.set i (some v)).set j (some w)).set l (some u) } rfl s6 k6
    rw [← e1, ← e2, ← e3]
    exact z
/-- a display of three, stored into three names from the left: own values stay own -/
theorem bs_tpl3 (hc : X.calm = true) (hN : X.N.Nodup) (hi : X.N[i]? = some x) (hj : X.N[j]? = some y) (hl : X.N[l]? = some z) (hx : Loc X.env.scope x) (hy : Loc X.env.scope y) (hz : Loc X.env.scope z)
    (fx : X.fn x = true ∨ X.env.scope.names.lookup x = some .local) (fy : X.fn y = true ∨ X.env.scope.names.lookup y = some .local) (fz : X.fn z = true ∨ X.env.scope.names.lookup z = some .local)
    (ha : PE X a (tO n W fa)) (hb : PE X b (tO n W fb)) (he : PE X e (tO n W fc))
    (h1 : starEach (a :: [b, e]) X.env = (false, eval a X.env) :: starEach [b, e] X.env) (h2 : starEach (b :: [e]) X.env = (false, eval b X.env) :: starEach [e] X.env) (h3 : starEach (e :: []) X.env = (false, eval e X.env) :: starEach [] X.env)
    (hw : swappedStores [.Tuple [.Name x px, .Name y py, .Name z pz] kt pt] (.Tuple [a, b, e] k2 pt2) X.env = pure none) (hs : swapsWithSole [.Tuple [.Name x px, .Name y py, .Name z pz] kt pt] (.Tuple [a, b, e] k2 pt2) pos.line X.env = pure false) :
    PS X (.Assign [.Tuple [.Name x px, .Name y py, .Name z pz] kt pt] (.Tuple [a, b, e] k2 pt2) pos) (tS n W (par3 i j l fa fb fc)) :=
  (ps_asg (pe_tup (pa_cons ha (pa_cons hb (pa_cons he pa_nil h3) h2) h1)) (pg_tup (n := 3) hc (pgs_cons (pg_name hN hi hx fx) (pgs_cons (pg_name hN hj hy fy) (pgs_cons (pg_name hN hl hz fz) pgs_nil)))) hs hw).imp fun E σ H ⟨c, e1, e2, k, o⟩ => by
    subst e1 e2
    refine ⟨c, rfl, rfl, k, OutS.bind0 (P := RV n) (Stp.refl c) o fun v c1 la e1 s1 k1 r1 o1 => ?_⟩
    refine ⟨c1, e1, rfl, k1, OutS.bind0 (P := RV n) s1 o1 fun w c2 lb e2 s2 k2 r2 o2 => ?_⟩
    refine ⟨c2, e2.trans e1, rfl, k2, OutS.bind0 (P := RV n) (s1.trans s2) o2 fun u c3 lc e3 s30 k30 r30 o3 => ?_⟩
    refine ⟨by show 3 ≤ sizeLine; rw [sizeLine_eq]; omega, fun p hp => ⟨p, [v, w, u], rfl, .of upd_same, rfl, v, [w, u], rfl, w, [u], rfl, u, [], rfl, rfl, ?_⟩⟩
    obtain ⟨k3, sa, _, _, _⟩ := k30.alloc (o := .tup [v, w, u]) hp
    have s3 := s30.trans sa
    have r3 := r30.step sa
    obtain ⟨k4, s4⟩ := k3.put (i := i) (s1.trans (s2.trans s3)) (r1.step (s2.trans s3))
    have r4 : RV n c { c3 with H := upd c3.H p (.tup [v, w, u]), S := { c3.S with sl := c3.S.sl.set i (some la) }, σ := c3.σ.set i (some v) } w lb := RV.beside (trO _ _ _ _ _ s1 (r2.step s3)) fun q1 q2 a b ea eb z => r1.apart (s2.trans s3) (r2.step s3) q2 q1 b a eb ea z.symm
    have r5 : RV n c { c3 with H := upd c3.H p (.tup [v, w, u]), S := { c3.S with sl := c3.S.sl.set i (some la) }, σ := c3.σ.set i (some v) } u lc := RV.beside (trO _ _ _ _ _ (s1.trans s2) r3) fun q1 q2 a b ea eb z => (r1.step s2).apart s3 r3 q2 q1 b a eb ea z.symm
    obtain ⟨k5, s5⟩ := k4.put (i := j) s4 r4
    have r6 := RV.beside (w := w) (m := lb) (i := j) r5 fun q1 q2 a b ea eb z => r2.apart s3 r3 q2 q1 b a eb ea z.symm
    obtain ⟨k6, s6⟩ := k5.put (i := l) s5 r6
    have z := o3 { c3 with H := upd c3.H p (.tup [v, w, u]), S := put3 i j l la lb lc c3.S, σ := ((c3.σ.set i (some v)).set j (some w)).set l (some u) } rfl s6 k6
    rw [← e1, ← e2, ← e3]
    exact z
/-- a display of two -/
theorem bs_tpl2 (hc : X.calm = true) (hN : X.N.Nodup) (hi : X.N[i]? = some x) (hj : X.N[j]? = some y) (hx : Loc X.env.scope x) (hy : Loc X.env.scope y)
    (fx : X.fn x = true ∨ X.env.scope.names.lookup x = some .local) (fy : X.fn y = true ∨ X.env.scope.names.lookup y = some .local)
    (ha : PE X a (tO n W fa)) (hb : PE X b (tO n W fb))
    (h1 : starEach (a :: [b]) X.env = (false, eval a X.env) :: starEach [b] X.env) (h2 : starEach (b :: []) X.env = (false, eval b X.env) :: starEach [] X.env)
    (hw : swappedStores [.Tuple [.Name x px, .Name y py] kt pt] (.Tuple [a, b] k2 pt2) X.env = pure none) (hs : swapsWithSole [.Tuple [.Name x px, .Name y py] kt pt] (.Tuple [a, b] k2 pt2) pos.line X.env = pure false) :
    PS X (.Assign [.Tuple [.Name x px, .Name y py] kt pt] (.Tuple [a, b] k2 pt2) pos) (tS n W (par2 i j fa fb)) :=
  (ps_asg (pe_tup (pa_cons ha (pa_cons hb pa_nil h2) h1)) (pg_tup (n := 2) hc (pgs_cons (pg_name hN hi hx fx) (pgs_cons (pg_name hN hj hy fy) pgs_nil))) hs hw).imp fun E σ H ⟨c, e1, e2, k, o⟩ => by
    subst e1 e2
    refine ⟨c, rfl, rfl, k, OutS.bind0 (P := RV n) (Stp.refl c) o fun v c1 la e1 s1 k1 r1 o1 => ?_⟩
    refine ⟨c1, e1, rfl, k1, OutS.bind0 (P := RV n) s1 o1 fun w c2 lb e2 s20 k20 r20 o2 => ?_⟩
    refine ⟨by show 2 ≤ sizeLine; rw [sizeLine_eq]; omega, fun p hp => ⟨p, [v, w], rfl, .of upd_same, rfl, v, [w], rfl, w, [], rfl, rfl, ?_⟩⟩
    obtain ⟨k2, sa, _, _, _⟩ := k20.alloc (o := .tup [v, w]) hp
    have s2 := s20.trans sa
    have r2 := r20.step sa
    obtain ⟨k3, s3⟩ := k2.put (i := i) (s1.trans s2) (r1.step s2)
    have r3 : RV n c { c2 with H := upd c2.H p (.tup [v, w]), S := { c2.S with sl := c2.S.sl.set i (some la) }, σ := c2.σ.set i (some v) } w lb := RV.beside (trO _ _ _ _ _ s1 r2) fun q1 q2 a b ea eb z => r1.apart s2 r2 q2 q1 b a eb ea z.symm
    obtain ⟨k4, s4⟩ := k3.put (i := j) s3 r3
    have z := o2 { c2 with H := upd c2.H p (.tup [v, w]), S := put2 i j la lb c2.S, σ := (c2.σ.set i (some v)).set j (some w) } rfl s4 k4
    rw [← e1, ← e2]
    exact z
end
end Bv

/-! dicts of the store -/
namespace Bv
open PySem PySem.Spec PyProof.Rows L2
variable {n : Nm} {W : WX} {X : Cx}
theorem valV_kvS {k : Str} : ∀ vs : List (Str × V), valV (kvS vs) (Sum.inr k : Key) = vs.lookup k
  | [] => rfl
  | (x, v) :: r => by
    show valV ((Sum.inr x, v) :: kvS r) (Sum.inr k) = _
    rw [List.lookup_cons]
    by_cases e : x = k
    · subst e
      rw [valV_pos rfl]
      simp
    · rw [valV_neg (fun z => e (Sum.inr.inj z)), valV_kvS r]
      have : (k == x) = false := by simpa using fun z : k = x => e z.symm
      rw [this]
/-- a dict's value put in its place, or behind -/
def putA {α : Type} (k : Str) (d : α) (fs : List (Str × α)) : List (Str × α) := if (fs.any fun p => decide (p.1 = k)) = true then fs.map (fun p => if p.1 = k then (p.1, d) else p) else fs ++ [(k, d)]
theorem putK_kvS {k : Str} {v : V} (vs : List (Str × V)) : putK (kvS vs) (Sum.inr k : Key) v = kvS (putA k v vs) := by
  have h1 : ((kvS vs).any fun kv => decide (kv.1 = (Sum.inr k : Key))) = vs.any fun p => decide (p.1 = k) := by
    unfold kvS
    rw [List.any_map]
    congr 1
    funext p
    simp
  unfold putK putA
  rw [h1]
  split
  · unfold kvS
    rw [List.map_map, List.map_map]
    congr 1
    funext p
    by_cases e : p.1 = k
    · simp [e]
    · simp [e]
  · unfold kvS
    rw [List.map_append]
    rfl
theorem IsF.any {F : Hp} {φ : List Addr} {k : Str} : ∀ {vs : List (Str × V)} {ds : List (Str × D)}, IsF n F φ vs ds → (vs.any fun p => decide (p.1 = k)) = ds.any fun p => decide (p.1 = k)
  | _, _, .nil => rfl
  | _, _, .cons _ t => by rw [List.any_cons, List.any_cons, IsF.any t]
theorem IsF.mapP {F : Hp} {φ : List Addr} {k : Str} {v : V} {d : D} (h : Is n F φ v d) : ∀ {vs : List (Str × V)} {ds : List (Str × D)}, IsF n F φ vs ds → IsF n F φ (vs.map fun p => if p.1 = k then (p.1, v) else p) (ds.map fun p => if p.1 = k then (p.1, d) else p)
  | _, _, .nil => .nil
  | _, _, .cons (f := g) q t => by
    rw [List.map_cons, List.map_cons]
    by_cases e : g = k
    · rw [if_pos e, if_pos e]
      exact .cons h (IsF.mapP h t)
    · rw [if_neg e, if_neg e]
      exact .cons q (IsF.mapP h t)
theorem IsF.snoc {F : Hp} {φ : List Addr} {k : Str} {v : V} {d : D} (h : Is n F φ v d) : ∀ {vs : List (Str × V)} {ds : List (Str × D)}, IsF n F φ vs ds → IsF n F φ (vs ++ [(k, v)]) (ds ++ [(k, d)])
  | _, _, .nil => .cons h .nil
  | _, _, .cons q t => .cons q (IsF.snoc h t)
theorem IsF.putA {F : Hp} {φ : List Addr} {k : Str} {v : V} {d : D} {vs : List (Str × V)} {ds : List (Str × D)} (h : Is n F φ v d) (i : IsF n F φ vs ds) : IsF n F φ (putA k v vs) (putA k d ds) := by
  unfold Bv.putA
  rw [i.any]
  split
  · exact i.mapP h
  · exact i.snoc h
/-! ### read -/
def dgN (i : Nat) (k : Str) : M L := fun s => match s.sl[i]? with
  | some (some (.sh (.mref j))) => (match s.st[j]? with
    | some (.dic fs) => (match fs.lookup k with
      | some d => .ok (.sh d) s
      | none => .bad)
    | _ => .bad)
  | _ => .bad
/-- a dict of the store -/
theorem Ok.dicAt {c : Cf} {i j : Nat} {fs : List (Str × D)} (k : Ok n c) (e : c.S.sl[i]? = some (some (.sh (.mref j)))) (e2 : c.S.st[j]? = some (.dic fs)) : ∃ a vs, c.σ[i]? = some (some (.ref a)) ∧ c.φ[j]? = some a ∧ c.H a = some (.dK (kvS vs)) ∧ IsF n c.F c.φ vs fs := by
  obtain ⟨v, h1, h2⟩ := k.sl i _ e
  have h2 : Is n c.F c.φ v (.mref j) := h2
  cases h2 with
  | mref h =>
    obtain ⟨vs, h3, h4⟩ := k.st j _ _ e2 h
    exact ⟨_, vs, h1, h, h3, h4⟩
theorem be_dgN {i : Nat} {x z : Str} {p p2 pos : Pos} {j : Nat} (hu : X.A.units + 65 < cLine) (hN : X.N[i]? = some x) (hv : Vis X.env.scope x) (hd : (x == ("__debug__" : Str)) = false) (hcd : (x == ("__classdict__" : Str)) = false) :
    PE X (.Subscript (.Name x p) (.Constant (.str z) j p2) pos) (tO n W (dgN i z)) := (pe_dget (by omega) (pe_var hN hv hd hcd) pe_str (fun _ _ => rfl)).imp fun σ H Q ⟨c, e1, e2, k, o⟩ => by
  subst e1 e2
  unfold dgN at o
  split at o
  · rename_i j q
    split at o
    · rename_i fs q2
      split at o
      · rename_i d q3
        obtain ⟨a, vs, h1, h2, h3, h4⟩ := k.dicAt q q2
        obtain ⟨v, h5, h6⟩ := h4.look q3
        refine ⟨.ref a, h1, a, v, rfl, ?_, o.sh k h6⟩
        have := DGet.k (k := (Sum.inr z : Key)) h3
        rw [valV_kvS, h5] at this
        exact this
      · exact o.not_bad
    · exact o.not_bad
  · exact o.not_bad
/-! ### write -/
theorem Ok.setSt {c : Cf} {j : Nat} {a : Addr} {fs gs : List (Str × D)} {vs : List (Str × V)} (k : Ok n c) (e : c.S.st[j]? = some (.dic fs)) (ea : c.φ[j]? = some a) (i : IsF n c.F c.φ vs gs) :
    let c' : Cf := { c with S := { c.S with st := c.S.st.set j (.dic gs) }, H := upd c.H a (.dK (kvS vs)) }; Ok n c' ∧ Stp c c' := by
  have ha : a ∈ c.φ := List.mem_of_getElem? ea
  have hf : c.F a = none := k.fφ a ha
  have ne : ∀ {b : Addr}, b ≠ a → upd c.H a (.dK (kvS vs)) b = c.H b := fun hb => upd_ne hb
  have mutS : ∀ b, Mut { c with S := { c.S with st := c.S.st.set j (.dic gs) }, H := upd c.H a (.dK (kvS vs)) } b → Mut c b := fun b m => m
  refine ⟨⟨k.len, fun b w q => ?_, fun l z q => ?_, k.dist, k.nd, ?_, fun l m b q1 q2 => ?_, k.fφ⟩, ⟨Sub.refl _, fun b w q m t => ?_, fun b q => .inl q, fun b m => .inl (mutS b m), fun b q => (upd_none' q).2, ⟨[], by simp⟩, rfl⟩⟩
  · have hb : b ≠ a := fun z => by subst z; rw [hf] at q; cases q
    show upd c.H a _ b = some w
    rw [ne hb]; exact k.sub _ _ q
  · obtain ⟨v, q1, q2⟩ := k.sl l z q
    refine ⟨v, q1, ?_⟩
    have hv : z.own = true → ∀ b, v = .ref b → b ≠ a := fun oz b eb z' => by
      subst z' eb
      obtain ⟨_, ee, _, hφ, _⟩ := q2.at oz
      cases ee
      exact hφ ha
    cases z with
    | sh w => exact q2
    | ol ds => obtain ⟨b, us, eb, h5, h6, h7, h8⟩ := q2; exact ⟨b, us, eb, (ne (hv rfl b eb)).trans h5, h6, h7, h8⟩
    | od kvs =>
      obtain ⟨b, eb, h6, h7, ⟨us, h5, h8⟩ | ⟨us, h5, h8⟩⟩ := q2
      · exact ⟨b, eb, h6, h7, .inl ⟨us, (ne (hv rfl b eb)).trans h5, h8⟩⟩
      · exact ⟨b, eb, h6, h7, .inr ⟨us, (ne (hv rfl b eb)).trans h5, h8⟩⟩
    | oi b0 C fs => obtain ⟨b, C, dx, us, eb, hb, hC, h5, h6, h7, h8⟩ := q2; exact ⟨b, C, dx, us, eb, hb, hC, (ne (hv rfl b eb)).trans h5, h6, h7, h8⟩
  · show (c.S.st.set j _).length = _
    rw [List.length_set]; exact k.slen
  · have q1 : (c.S.st.set j (.dic gs))[l]? = some m := q1
    have q2 : c.φ[l]? = some b := q2
    by_cases hl : j = l
    · subst hl
      rw [ea] at q2; cases q2
      rw [List.getElem?_set_self', e] at q1
      have q1 : MO.dic gs = m := by simpa using q1
      subst q1
      exact ⟨vs, upd_same, i⟩
    · rw [List.getElem?_set_ne hl] at q1
      have hb : b ≠ a := fun z => by
        subst z
        obtain ⟨h1, h3⟩ := List.getElem?_eq_some_iff.mp ea
        obtain ⟨h2, h4⟩ := List.getElem?_eq_some_iff.mp q2
        exact hl ((List.getElem_inj k.nd).mp (h3.trans h4.symm))
      have z := k.st l m b q1 q2
      cases m with
      | dic p => obtain ⟨lc, h3, h4⟩ := z; exact ⟨lc, (ne hb).trans h3, h4⟩
      | inst C fs => obtain ⟨C, dx, us, h3, h4, h5⟩ := z; exact ⟨C, dx, us, h3, (ne hb).trans h4, h5⟩
  · have hb : b ≠ a := fun z => by
      subst z
      exact m (.inr ha)
    show upd c.H a _ b = some w
    rw [ne hb]; exact q
def dpN (i : Nat) (k : Str) (d : D) : MS := fun s => match s.sl[i]? with
  | some (some (.sh (.mref j))) => (match s.st[j]? with
    | some (.dic fs) => if fs.length < lineN then .nx { s with st := s.st.set j (.dic (putA k d fs)) } else .bad
    | _ => .bad)
  | _ => .bad
def dpS (i : Nat) (k : Str) (m : M D) : MS := thS m fun d => dpN i k d
theorem bs_dp {i : Nat} {x z : Str} {p p2 pos pos' : Pos} {j : Nat} {e : Expr} {m : M D} (hu : X.A.units + 65 < cLine) (hN : X.N[i]? = some x) (hv : Vis X.env.scope x) (hd : (x == ("__debug__" : Str)) = false) (hcd : (x == ("__classdict__" : Str)) = false) (he : PE X e (tX n W m))
    (hs : swapsWith e (some (.Subscript (.Name x p) (.Constant (.str z) j p2) pos')) pos.line X.env = pure false) : PS X (.Assign [.Subscript (.Name x p) (.Constant (.str z) j p2) pos'] e pos) (tS n W (dpS i z m)) :=
  (ps_dput (by omega) (pe_var hN hv hd hcd) pe_str he hs).imp fun E σ H ⟨c, e1, e2, k, o⟩ => by
    subst e1 e2
    refine ⟨c, rfl, rfl, k, OutS.bind o fun y c1 d e1 s1 k1 i1 o1 => ?_⟩
    unfold dpN at o1
    split at o1
    · rename_i j q
      split at o1
      · rename_i fs q2
        split at o1
        · rename_i hz
          obtain ⟨a, vs, h1, h2, h3, h4⟩ := k1.dicAt q q2
          obtain ⟨k2, s2⟩ := k1.setSt q2 h2 (IsF.putA (k := z) i1 h4)
          have hl : (kvS vs).length < sizeLine := by
            have := h4.length
            unfold kvS
            rw [List.length_map, this, lineN_eq]; exact hz
          refine ⟨.ref a, by rw [← e1]; exact h1, a, _, rfl, DPut.k (k := (Sum.inr z : Key)) h3 hl, ?_⟩
          rw [putK_kvS, ← e1]
          exact o1 { c1 with S := { c1.S with st := c1.S.st.set j (.dic (Bv.putA z d fs)) }, H := upd c1.H a (.dK (kvS (Bv.putA z y vs))) } rfl s2 k2
        · exact o1.elim
      · exact o1.elim
    · exact o1.elim
/-! ### a new one -/
theorem mergeK_app : ∀ (r l : List (Key × V)), ((l ++ r).map (·.1)).Nodup → mergeK l r = l ++ r
  | [], l, _ => by rw [List.append_nil]; rfl
  | p :: r, l, h => by
    have hp : valV l p.1 = none := by
      cases q : valV l p.1 with
      | none => rfl
      | some v =>
        exfalso
        have m : (l.any fun kv => decide (kv.1 = p.1)) = true := by rw [valV_any, q]; rfl
        obtain ⟨x, hx, ex⟩ := List.any_eq_true.mp m
        rw [List.map_append, List.nodup_append] at h
        exact h.2.2 x.1 (List.mem_map_of_mem hx) p.1 (by simp) (of_decide_eq_true ex)
    show mergeK (putK l p.1 p.2) r = l ++ p :: r
    rw [putK_new _ hp, mergeK_app r (l ++ [(p.1, p.2)]) (by simpa using h)]
    simp
theorem mergeK_kvS {vs : List (Str × V)} (h : (vs.map (·.1)).Nodup) : mergeK [] (kvS vs) = kvS vs := by
  have e : (kvS vs).map (·.1) = (vs.map (·.1)).map (Sum.inr : Str → Key) := by
    unfold kvS
    rw [List.map_map, List.map_map]
    rfl
  have := mergeK_app (kvS vs) [] (by rw [List.nil_append, e]; exact List.pairwise_map.mpr (List.Pairwise.imp (fun hab z => hab (Sum.inr.inj z)) h))
  rw [List.nil_append] at this
  exact this
theorem IsF.zip {F : Hp} {φ : List Addr} : ∀ {ks : List Str} {vs : List V} {ds : List D}, IsL n F φ vs ds → IsF n F φ (ks.zip vs) (ks.zip ds)
  | [], _, _, _ => by simp only [List.zip_nil_left]; exact .nil
  | _ :: _, _, _, .nil => by simp only [List.zip_nil_right]; exact .nil
  | k :: ks, _, _, .cons h t => by
    rw [List.zip_cons_cons, List.zip_cons_cons]
    exact .cons h (IsF.zip t)
def lsM (g : Expr → M D) : List Expr → M (List D)
  | [] => nilM
  | e :: es => consM (g e) (lsM g es)
theorem pps_ok {g : Expr → M D} {pos : Pos} (hg : ∀ e, PE X e (tX n W (g e))) : ∀ (ks : List (Str × Nat × Pos)) (es : List Expr), ks.length = es.length →
    ∃ trs, PPs X pos (ks.map fun k => some (.Constant (.str k.1) k.2.1 k.2.2)) es trs ∧ ∀ (c : Cf) (Q : List (V × V) → Hp → Prop), Ok n c → Out n W (PL n) c (lsM g es c.S) (fun vs H2 => Q ((ks.zip vs).map (fun p => (V.str p.1.1, p.2))) H2) → tPairs trs c.σ c.H Q
  | [], [], _ => ⟨[], pps_nil, fun c Q k o => o [] c rfl rfl (Stp.refl c) k .nil⟩
  | k :: ks, e :: es, h => by
    obtain ⟨trs, h1, h2⟩ := pps_ok hg ks es (by simpa using h)
    refine ⟨_, pps_cons pe_str (hg e) h1, fun c Q kc o => ?_⟩
    show tX n W (g e) c.σ c.H _
    refine ⟨c, rfl, rfl, kc, Out.bind (P1 := PX n) trL o fun x c1 d e1 s1 k1 i1 o1 => ?_⟩
    have z := h2 c1 (fun ps H3 => Q ((V.str k.1, x) :: ps) H3) k1 (Out.bind (P1 := PL n) trL o1 fun xs c2 ds e2 s2 k2 i2 o2 => o2 (x :: xs) c2 rfl rfl (Stp.refl c2) k2 (.cons (s2.is i1) i2))
    rw [e1] at z
    exact z
/-- into the store -/
def stNew (fs : List (Str × D)) : M L := fun s => .ok (.sh (.mref s.st.length)) { s with st := s.st ++ [.dic fs] }
def ddM (ks : List Str) (fs : M (List D)) : M L := do let ds ← fs; stNew (ks.zip ds)
theorem Ok.newSt {c0 c : Cf} {a : Addr} {fs : List (Str × D)} {vs : List (Str × V)} {o : HO} (k : Ok n c) (s : Stp c0 c) (h0 : c0.H a = none) (hH : c.H a = some o) (hF : c.F a = none) (hm : ¬ Mut c a) (i : IsF n c.F c.φ vs fs) :
    let c' : Cf := { c with S := { c.S with st := c.S.st ++ [.dic fs] }, φ := c.φ ++ [a], H := upd c.H a (.dK (kvS vs)) }; Ok n c' ∧ Stp c0 c' := by
  have hφ : a ∉ c.φ := fun m => hm (.inr m)
  have ne : ∀ {b : Addr}, b ≠ a → upd c.H a (.dK (kvS vs)) b = c.H b := fun hb => upd_ne hb
  refine ⟨⟨k.len, fun b w q => ?_, fun l z q => ?_, k.dist, ?_, ?_, fun l m b q1 q2 => ?_, fun b hb => ?_⟩, ⟨s.F, fun b w q m t => ?_, s.new, fun b m => ?_, fun b q => ?_, ?_, s.an⟩⟩
  · have hb : b ≠ a := fun z => by subst z; rw [hF] at q; cases q
    show upd c.H a _ b = some w
    rw [ne hb]; exact k.sub _ _ q
  · obtain ⟨v, q1, q2⟩ := k.sl l z q
    refine ⟨v, q1, ?_⟩
    have hv : z.own = true → ∀ b, v = .ref b → b ≠ a := fun oz b eb z' => by
      subst z' eb
      exact hm (.inl ⟨l, z, q, oz, q1⟩)
    have hn : ∀ {b : Addr}, b ≠ a → b ∉ c.φ → b ∉ c.φ ++ [a] := fun h1 h2 h3 => by
      rcases List.mem_append.mp h3 with h3 | h3
      · exact h2 h3
      · exact h1 (List.mem_singleton.mp h3)
    cases z with
    | sh w => exact Is.mono (Sub.refl _) q2
    | ol ds => obtain ⟨b, us, eb, h5, h6, h7, h8⟩ := q2; exact ⟨b, us, eb, (ne (hv rfl b eb)).trans h5, h6, hn (hv rfl b eb) h7, h8.mono (Sub.refl _)⟩
    | od kvs =>
      obtain ⟨b, eb, h6, h7, ⟨us, h5, h8⟩ | ⟨us, h5, h8⟩⟩ := q2
      · exact ⟨b, eb, h6, hn (hv rfl b eb) h7, .inl ⟨us, (ne (hv rfl b eb)).trans h5, h8.mono (Sub.refl _)⟩⟩
      · exact ⟨b, eb, h6, hn (hv rfl b eb) h7, .inr ⟨us, (ne (hv rfl b eb)).trans h5, h8.mono (Sub.refl _)⟩⟩
    | oi b0 C fs => obtain ⟨b, C, dx, us, eb, hb, hC, h5, h6, h7, h8⟩ := q2; exact ⟨b, C, dx, us, eb, hb, hC, (ne (hv rfl b eb)).trans h5, h6, hn (hv rfl b eb) h7, h8.mono (Sub.refl _)⟩
  · show (c.φ ++ [a]).Nodup
    rw [List.nodup_append]
    exact ⟨k.nd, by simp, fun x hx y hy z => hφ (by rw [List.mem_singleton.mp hy] at z; exact z ▸ hx)⟩
  · show (c.S.st ++ [_]).length = (c.φ ++ [a]).length
    simp [k.slen]
  · have r1 : (c.S.st ++ [.dic fs])[l]? = some m := q1
    have r2 : (c.φ ++ [a])[l]? = some b := q2
    clear q1 q2
    by_cases hl : l < c.φ.length
    · rw [List.getElem?_append_left (by rw [k.slen]; exact hl)] at r1
      rw [List.getElem?_append_left hl] at r2
      have hb : b ≠ a := fun z => hφ (z ▸ List.mem_of_getElem? r2)
      have z := k.st l m b r1 r2
      cases m with
      | dic p => obtain ⟨lc, h3, h4⟩ := z; exact ⟨lc, (ne hb).trans h3, h4.mono (Sub.refl _)⟩
      | inst C fs => obtain ⟨C, dx, us, h3, h4, h5⟩ := z; exact ⟨C, dx, us, h3, (ne hb).trans h4, h5.mono (Sub.refl _)⟩
    · rw [List.getElem?_append_right (by rw [k.slen]; omega), k.slen] at r1
      rw [List.getElem?_append_right (by omega)] at r2
      cases e : l - c.φ.length with
      | zero =>
        rw [e] at r1 r2
        have r1 : MO.dic fs = m := by simpa using r1
        have r2 : a = b := by simpa using r2
        subst r1 r2
        exact ⟨vs, upd_same, i.mono (Sub.refl _)⟩
      | succ j => rw [e] at r1; simp at r1
  · rcases List.mem_append.mp hb with hb | hb
    · exact k.fφ b hb
    · rw [List.mem_singleton.mp hb]; exact hF
  · have hb : b ≠ a := fun z => by
      subst z
      rw [h0] at q; cases q
    show upd c.H a _ b = some w
    rw [ne hb]; exact s.H b w q m t
  · rcases m with m | m
    · exact s.mono b (.inl m)
    · rcases List.mem_append.mp m with m | m
      · exact s.mono b (.inr m)
      · rw [List.mem_singleton.mp m]; exact .inr h0
  · exact s.there b (upd_none' q).2
  · obtain ⟨ψ, h⟩ := s.φ
    exact ⟨ψ ++ [a], by show c.φ ++ [a] = _; rw [h, List.append_assoc]⟩
theorem Out.bind0 {α β γ γ1 : Type} {P : Cf → Cf → γ → α → Prop} {P1 : Cf → Cf → γ1 → β → Prop} {c0 c : Cf} {m : M β} {k : β → M α} {Q : γ → Hp → Prop} {Q1 : γ1 → Hp → Prop} (s0 : Stp c0 c) (e0 : c.σ = c0.σ) (o : Out n W P c0 ((m >>= k) c.S) Q)
    (h : ∀ v c' a, c'.σ = c.σ → Stp c c' → Ok n c' → P1 c c' v a → Out n W P c0 (k a c'.S) Q → Q1 v c'.H) : Out n W P1 c (m c.S) Q1 := by
  have o : Out n W P c0 (M.bind m k c.S) Q := o
  unfold M.bind at o
  cases e : m c.S with
  | ok a S' =>
    rw [e] at o
    exact fun v c' h1 h2 h3 h4 h5 => h v c' a h2 h3 h4 h5 (by rw [h1]; exact o)
  | exc C fs S' =>
    rw [e] at o
    exact ExcP.later (n := n) (W := W) o s0 e0
  | bad => rw [e] at o; exact o
theorem zip_fst {α β : Type} : ∀ (l : List α) (m : List β), (l.zip m).map (·.1) = l.take m.length
  | [], m => by simp
  | _ :: _, [] => by simp
  | a :: l, b :: m => by
    rw [List.zip_cons_cons, List.map_cons, List.length_cons, List.take_succ_cons, zip_fst l m]
theorem be_disp {g : Expr → M D} {pos : Pos} (hg : ∀ e, PE X e (tX n W (g e))) {ks : List (Str × Nat × Pos)} {es : List Expr} (hl : ks.length = es.length) (hn : (ks.map (·.1)).Nodup) (h0 : ks ≠ []) (h15 : ks.length ≤ 15) :
    PE X (.Dict (ks.map fun k => some (.Constant (.str k.1) k.2.1 k.2.2)) es pos) (tO n W (ddM (ks.map (·.1)) (lsM g es))) := by
  obtain ⟨trs, h1, h2⟩ := pps_ok (pos := pos) hg ks es hl
  refine (pe_disp h1 (by simp) (by simpa using hl) (by simpa using h0) (by simpa using h15)).imp fun σ H Q ⟨c, e1, e2, k, o⟩ => ?_
  subst e1 e2
  intro p hp
  obtain ⟨ka, sa, na, nf, no⟩ := k.alloc (o := .dK []) hp
  have hma : ¬ Mut { c with H := upd c.H p (.dK []) } p := fun m => by
    rcases m with m | m
    · exact no m
    · exact na m
  refine h2 { c with H := upd c.H p (.dK []) } _ ka (Out.bind0 (P1 := PL n) sa rfl o fun vs c2 ds e1 s2 k2 i2 o2 => ?_)
  have hH : c2.H p = some (.dK []) := s2.H p _ upd_same hma (fun _ z => by cases z)
  have hF : c2.F p = none := by
    cases q : c2.F p with
    | none => rfl
    | some u =>
      rcases s2.new p (by rw [q]; simp) with z | z | z
      · exact absurd nf z
      · have z : upd c.H p (.dK []) p = none := z
        rw [upd_same] at z; cases z
      · exact absurd z hma
  have hm2 : ¬ Mut c2 p := fun m => by
    rcases s2.mono p m with z | z
    · exact hma z
    · have z : upd c.H p (.dK []) p = none := z
      rw [upd_same] at z; cases z
  have hi : IsF n c2.F c2.φ ((ks.map (·.1)).zip vs) ((ks.map (·.1)).zip ds) := IsF.zip i2
  obtain ⟨k3, s3⟩ := k2.newSt (sa.trans s2) hp hH hF hm2 hi
  have nd : ((((ks.map (·.1)).zip vs)).map (·.1)).Nodup := by
    rw [zip_fst]
    exact (List.take_sublist _ _).nodup hn
  refine ⟨hH, kvS ((ks.map (·.1)).zip vs), ?_, ?_, ?_⟩
  · unfold kvS
    rw [List.map_map, List.zip_map_left, List.map_map]
    rfl
  · unfold kvS
    rw [List.length_map, List.length_zip, List.length_map]
    omega
  · rw [mergeK_kvS nd]
    exact o2 (.ref p) { c2 with S := { c2.S with st := c2.S.st ++ [.dic ((ks.map (·.1)).zip ds)] }, φ := c2.φ ++ [p], H := upd c2.H p (.dK (kvS ((ks.map (·.1)).zip vs))) } rfl e1 s3 k3 ⟨.mref (by rw [k2.slen]; simp), fun z => by cases z⟩
end Bv

/-! enumerate over a tuple -/
namespace EnT
open PySem
open PySem.Sem (wp)
open AutoSeq1 (wpAny_loadPart')
theorem new_tup (b : Addr) (its : Array Value) (k : Nat) (dd : Option Addr) (ss : Array (Option Value)) :
    Meets (Builtin.«enumerate.__new__» ⟨[.type "enumerate", .ref b], []⟩) (fun _ R s => s.heap.get? b = some { cls := .type "tuple", dict := dd, data := .seq its k, slots := ss } ∧
      R (.ok (.ret (.ref (s.heap.push { cls := .type "tuple_iterator", data := .fields #[.ref b, .int 0 0] }).objs.size)))
        { s with heap := (s.heap.push { cls := .type "tuple_iterator", data := .fields #[.ref b, .int 0 0] }).push { cls := .type "enumerate", data := .fields #[.none, .bool false, .ref s.heap.objs.size, rawInt 0, .none, .none] } }) :=
  .of_wp fun prog w A R s hh => by
    obtain ⟨hp, g, d, tk, os⟩ := s
    obtain ⟨hb, h⟩ := hh
    have hsub := sub_enumerate
    have hT : Heap.IsTuple (Shared.heap ⟨hp, g, d, tk, os⟩) b its := ⟨_, hb, rfl, k, rfl⟩
    wp_walk using wpAny_loadPart' hb
    refine wpAny_stack_any fun st => wpAny_pure ?_
    split
    · rename_i c _ _ _ _ _
      cases (c == Value.type "enumerate")
      all_goals
        wp_walk using wpAny_loadPart' hb, wpAny_pyIter_tuple hT
        exact ⟨_, rfl, h⟩
    · wp_walk using wpAny_loadPart' hb, wpAny_pyIter_tuple hT
      exact ⟨_, rfl, h⟩
section
variable {prog : Program} {w : World} {A : Around} {E : Value → Shared → Prop} {s : Shared}
theorem call_tup {b : Addr} {its : Array Value} {Q : Value → Shared → Prop} (hT : s.heap.IsTuple b its)
    (h : ∀ h', IsEnum h' (s.heap.objs.size + 1) s.heap.objs.size 0 .none → h'.IsTupleIter s.heap.objs.size b 0 →
      (∀ a o, s.heap.get? a = some o → h'.get? a = some o) → Q (.ref (s.heap.objs.size + 1)) { s with heap := h' }) :
    wpAny (model prog w) A (call (.type "enumerate") [.ref b]) Q E s := by
  obtain ⟨⟨cl, dd, dt, ss⟩, hb, e1, k, e2⟩ := hT
  replace e1 : cl = .type "tuple" := e1
  replace e2 : dt = .seq its k := e2
  subst e1 e2
  refine callType_new F.called_enumerate (by decide) (F.typeCall_enumerate_1 _) (F.newCall_enumerate_1 _) (fun obj => F.args_object_init_2 obj _) F.entry_enumerate_new (new_tup b its k dd ss) ⟨hb, ?_⟩
  have hz : (s.heap.push { cls := .type "tuple_iterator", data := .fields #[.ref b, .int 0 0] }).objs.size = s.heap.objs.size + 1 := Heap.size_push ..
  show _ ∧ _
  rw [hz]
  have he : IsEnum ((s.heap.push { cls := .type "tuple_iterator", data := .fields #[.ref b, .int 0 0] }).push { cls := .type "enumerate", data := .fields #[.none, .bool false, .ref s.heap.objs.size, rawInt 0, .none, .none] }) (s.heap.objs.size + 1) s.heap.objs.size 0 .none := by
    have z := Heap.get?_push_size (s.heap.push { cls := .type "tuple_iterator", data := .fields #[.ref b, .int 0 0] }) (o := { cls := .type "enumerate", data := .fields #[.none, .bool false, .ref s.heap.objs.size, rawInt 0, .none, .none] }) rfl
    rw [hz] at z
    exact z
  exact ⟨⟨_, he, rfl⟩, h _ he ⟨_, Heap.get?_push_of_some _ (Heap.get?_push_size _ rfl), rfl, rfl⟩ fun a o x => Heap.get?_push_of_some _ (Heap.get?_push_of_some _ x)⟩
end
theorem draws_tup {prog : Program} {w : World} {A : Around} (hh : A.handled = none) (it b : Addr) (hne : b ≠ it) (its : Array Value) :
    Draws prog w A it [it, b] its.size (fun i v => its[i]? = some v) (fun i h => h.IsTupleIter it b i ∧ h.IsTuple b its) where
  live := fun _ _ st => let ⟨o, ho, _⟩ := st.1; ⟨o, ho⟩
  frame := fun _ _ _ st hk => ⟨st.1.at fun o e => hk it (by simp) o e, let ⟨o, ho, r⟩ := st.2; ⟨o, hk b (by simp) o ho, r⟩⟩
  item := fun i s Q E hi st hQ => by
    refine RZ.nextOf_tuple_item st.1 st.2 (x := its[i]) (by simp [hi]) fun h' hit' hs' => ?_
    exact hQ _ h' s.toks (by simp [hi]) ⟨hit', st.2.extBut hs'.extBut hne⟩ hs'
  done := fun s Q E st hE => RZ.nextOf_tuple_end hh st.1 st.2 (by simp) hE
end EnT
namespace L2
open PySem PySem.Spec PyProof.Rows
/-- the tuple at a, each item in a new pair -/
def IteT (K : PySem.W.Frag) (a : Addr) : It :=
  ⟨fun i H => ∃ (xs : List V) (x : V), SqT K H a xs ∧ xs[i]? = some x, fun i H v H' => ∃ T x, v = .ref T ∧ H T = none ∧ H' = upd H T (.tup [.int (i : Nat), x]) ∧ ∀ xs, SqT K H a xs → xs[i]? = some x, fun i H => ∃ xs : List V, SqT K H a xs ∧ xs.length ≤ i⟩
theorem turn_enT {P : Program} {w : World} {K : PySem.W.Frag} {elts : List Expr} {kk : Nat} {tpos : Pos} (a e it : Addr) (hai : a ≠ it) (hae : a ≠ e) :
    Turn P w K (.Tuple elts kk tpos) (IteT K a) [e, it] e (fun i h => (∃ old, IsEnum h e it ((i : Nat) : Int) old) ∧ h.IsTupleIter it a i ∧ e ≠ it) where
  mem := by simp
  obj := fun i h st b hb => by
    obtain ⟨⟨old, he⟩, ⟨o, ho, hc, hd⟩, _⟩ := st
    have e' : b = e ∨ b = it := by simpa using hb
    rcases e' with rfl | rfl
    · exact ⟨_, he, fun v q => nomatch q⟩
    · exact ⟨o, ho, fun v q => by rw [hd] at q; cases q⟩
  keep := fun i h h' st k => let ⟨⟨old, he⟩, hi, hne⟩ := st; ⟨⟨old, k e (by simp) _ he⟩, hi.at fun o q => k it (by simp) o q, hne⟩
  item := by
    intro X hP hw hK hc i pins s σ H E I hf st hg
    subst hP hw hK
    obtain ⟨⟨old, he⟩, hit, hne⟩ := st
    obtain ⟨xs, x, hq, hx⟩ := hg
    obtain ⟨its, rv, p, hz⟩ := I.tuple hq
    obtain ⟨u, hu, ru⟩ := rv.get hx
    have hel : e < s.heap.objs.size := Heap.lt_size he
    have hil : it < s.heap.objs.size := by obtain ⟨_, q, _⟩ := hit; exact Heap.lt_size q
    have hil2 : i < its.toArray.size := by
      rw [List.size_toArray]
      exact (List.getElem?_eq_some_iff.mp hu).1
    have D := EnT.draws_tup (prog := X.prog) (w := X.w) (A := X.A.in1) (I.ok.hd hc) it a hai its.toArray
    refine wpAny_pyNext_enum_itemD D he ⟨hit, show s.heap.IsTuple a its.toArray from p⟩ hil2 hne (by simp [Ne.symm hae, hne]) fun v h' tk hv ho st' hT hsz hk => ?_
    obtain ⟨hit', _⟩ := st'
    have hvu : v = u := by
      have : its.toArray[i]? = some u := by simpa using hu
      rw [this] at hv
      exact (Option.some.inj hv).symm
    subst hvu
    refine ⟨_, rfl, wpAny_letOwnedTupleGo_enum (s := { s with heap := h', toks := tk + 1 }) ho fun h'' he' sb => ?_⟩
    have hT2 : h''.get? s.heap.objs.size = some { cls := .type "tuple", data := .seq #[.int i tk, v] } := (sb.2 _ (Nat.ne_of_gt hel)).trans hT
    have new : ObjOk X.prog X.w (upd H s.heap.objs.size (.tup [.int (i : Nat), x])) h'' s.heap.objs.size (.tup [.int (i : Nat), x]) :=
      ⟨by show 2 ≤ sizeLine; decide, [.int i tk, v], .cons ⟨_, rfl⟩ (.cons ru .nil), ⟨_, hT2, rfl, _, rfl⟩⟩
    have I1 : Inv X pins σ (upd H s.heap.objs.size (.tup [.int (i : Nat), x])) { s with heap := h'', toks := tk + 1 } :=
      I.turnedNew (ch := [e, it]) (fun b ob hb q => (sb.2 b (fun z => hb (by simp [z]))).trans (hk b ob (fun z => hb (by simp [z])) (fun z => hb (by simp [z])) q)) hf (Nat.le_refl _) new
    refine ⟨.ref s.heap.objs.size, _, I1, rfl, ⟨_, x, rfl, I.hok.fresh (Nat.le_refl _), rfl, fun ys hy => by rw [I.tuple_inj hy hq]; exact hx⟩, ⟨⟨v, ?_⟩, hit'.at fun o q => (sb.2 it (Ne.symm hne)).trans q, hne⟩, fun b hb => ?_⟩
    · rw [show ((i + 1 : Nat) : Int) = (i : Int) + 1 by omega]
      exact he'
    · have hb' : b < s.heap.objs.size := by
        have e' : b = e ∨ b = it := by simpa using hb
        rcases e' with rfl | rfl
        · exact hel
        · exact hil
      rw [upd_ne (Nat.ne_of_lt hb')]
      exact (hf b hb).1
  done := by
    intro X hP hw hK hc i pins s σ H E I hf st hg
    subst hP hw hK
    obtain ⟨⟨old, he⟩, hit, hne⟩ := st
    obtain ⟨xs, hq, hx⟩ := hg
    obtain ⟨its, rv, p, hz⟩ := I.tuple hq
    obtain ⟨f0, f1, f2, f3, f4, f5⟩ := hf it (by simp)
    have hl := rv.length
    have hT : s.TypeIs (.ref e) "enumerate" := ⟨_, he, rfl⟩
    unfold pyNext
    refine wpAny_bind (wpAny_attempt (wpAny_callSpecial?_slot (name := Str.ofString "__next__") hT F.slot_enumerate_next (wpAny_call_entry F.slot_enumerate_next hT F.entry_enumerate_next ?_ (F.args_enumerate_next_1 _))))
    show wpAny _ _ (field (.ref e) 2 >>= _) _ _ _
    refine wpAny_bind (wpAny_field he rfl (x := .ref it) rfl ?_)
    refine wpAny_bind (RZ.nextOf_tuple_end (I.ok.hd hc) hit (show s.heap.IsTuple a its.toArray from p) (by simp; omega) fun h' x he' hx' => ?_)
    obtain ⟨o, ho, hcl⟩ := hx'
    refine wpAny_bind (wpAny_isInstance (T := "StopIteration") (b := true) ⟨o, ho, hcl⟩ isSubtype_stop ?_)
    exact wpAny_pure ⟨rfl, I.turned (t' := s.toks) (fun b o hb q => he' b o hb q) f0 f1 f3 f4 f5⟩
  self := fun A i s Q E st h => let ⟨⟨_, he⟩, _⟩ := st; wpAny_pyIter_enum he h
def iEnA (K : PySem.W.Frag) (ta : TA) : TI := fun σ H R => ta σ H fun vs H1 => ∃ a xs, vs = [.ref a] ∧ ((SqL K H1 a xs ∧ R (Ite K a) H1) ∨ (SqT K H1 a xs ∧ R (IteT K a) H1))
theorem pi_enA {X : Cx} {e : Expr} {ta : TA} {p pos tpos : Pos} {elts : List Expr} {kk : Nat} (hg : Gl X "enumerate") (hm : X.mg "enumerate" = none) (ha : PA X [e] ta) (hs : starEach [e] X.env = [(false, eval e X.env)]) :
    PI X (.Tuple elts kk tpos) (.Call (.Name "enumerate" p) [e] [] pos) (iEnA X.K ta) := by
  refine ⟨fun pins s σ H R I h => ?_⟩
  refine Call_ (ld_blt I hg hm boot_enumerate (PyProof.Rows.callWith_type1 (thn (ha.run pos pins s σ H _ I h) fun us s1 ⟨vs, H1, I1, r1, q1⟩ => ?_) hs rfl))
  obtain ⟨a, xs, ex, q1⟩ := q1
  subst ex
  cases r1 with
  | cons r rr =>
    cases rr
    cases r
    rcases q1 with ⟨hq, q⟩ | ⟨hq, q⟩
    · obtain ⟨its, rv, p', hz⟩ := I1.list hq
      refine call_enumerate_list p'.isList fun h' he hit hsz hk => wpAny_pyIter_enum he ?_
      have I2 : Inv X pins σ H1 { s1 with heap := h' } := I1.kept (t' := s1.toks) hk
      refine ⟨s1.heap.objs.size + 1, [s1.heap.objs.size + 1, s1.heap.objs.size], _, _, H1, rfl, I2, turn_enum a (s1.heap.objs.size + 1) s1.heap.objs.size, ⟨⟨.none, he⟩, hit, Nat.succ_ne_self _⟩, fun b hb => ?_, q⟩
      have hle : s1.heap.objs.size ≤ b := by
        have e' : b = s1.heap.objs.size + 1 ∨ b = s1.heap.objs.size := by simpa using hb
        rcases e' with z | z
        · rw [z]; exact Nat.le_add_right _ _
        · rw [z]; exact Nat.le_refl _
      exact I1.fpOk hle (I1.hok.fresh hle)
    · obtain ⟨its, rv, p', hz⟩ := I1.tuple hq
      have hp : s1.heap.IsTuple a its.toArray := p'
      have hal : a < s1.heap.objs.size := by obtain ⟨o, ho, _⟩ := hp; exact Heap.lt_size ho
      refine EnT.call_tup hp fun h' he hit hk => wpAny_pyIter_enum he ?_
      have I2 : Inv X pins σ H1 { s1 with heap := h' } := I1.kept (t' := s1.toks) hk
      refine ⟨s1.heap.objs.size + 1, [s1.heap.objs.size + 1, s1.heap.objs.size], _, _, H1, rfl, I2, turn_enT a (s1.heap.objs.size + 1) s1.heap.objs.size (Nat.ne_of_lt hal) (Nat.ne_of_lt (Nat.lt_succ_of_lt hal)), ⟨⟨.none, he⟩, hit, Nat.succ_ne_self _⟩, fun b hb => ?_, q⟩
      have hle : s1.heap.objs.size ≤ b := by
        have e' : b = s1.heap.objs.size + 1 ∨ b = s1.heap.objs.size := by simpa using hb
        rcases e' with z | z
        · rw [z]; exact Nat.le_add_right _ _
        · rw [z]; exact Nat.le_refl _
      exact I1.fpOk hle (I1.hok.fresh hle)
end L2

/-! more built-ins: min, max, sum of tuples; enumerate, zip; gcd; index; extend -/
namespace Bv
open PySem PySem.Spec PySem.W PySem.Calls PyProof.Rows PyProof.V L2 RZ
section
variable {prog : Program} {w : World} {A : Around} {E : Value → Shared → Prop} {s : Shared} {t : Addr}
theorem old_tup {h' : Heap} {ob : Obj} (hk : ∀ b o, b ∉ [s.heap.objs.size] → (s.heap.push ob).get? b = some o → h'.get? b = some o) : ∀ b o, s.heap.get? b = some o → h'.get? b = some o := fun b o e => by
  refine hk b o (fun hm => ?_) (Heap.get?_push_of_some _ e)
  rcases List.mem_cons.mp hm with e1 | hm
  · exact absurd (e1 ▸ Heap.lt_size e) (Nat.lt_irrefl _)
  · cases hm
theorem min_intTup {xs : Array (Int × Tok)} {Q : Value → Shared → Prop} (hh : A.handled = none) (ht : s.heap.IsTuple t (intItems xs)) (hne : 0 < xs.size)
    (h : ∀ v h' tk, (intItems xs)[argBest (fun i j => decide (numAt xs i < numAt xs j)) (xs.size - 1)]? = some v → (∀ b o, s.heap.get? b = some o → h'.get? b = some o) → Q v { s with heap := h', toks := tk }) :
    wpAny (model prog w) A (call (.builtin "min") [.ref t]) Q E s := by
  obtain ⟨o, ho, hc, n, hd⟩ := id ht
  have hn : t ≠ s.heap.objs.size := Nat.ne_of_lt (Heap.lt_size ho)
  refine call_min_walk (wpAny_pyIter_tuple ht ?_)
  refine ⟨s.heap.objs.size, _, _, _, _, _, _, rfl, Walks.tuple (A := A.in1) hh s.heap.objs.size t hn (intItems xs), ⟨⟨_, Heap.get?_push_size _ rfl, rfl, rfl⟩, ht.at fun o e => Heap.get?_push_of_some _ e⟩, fun b hb => ?_, by simpa [intItems] using hne, CmpOf.ints_lt (numAt xs) (fun _ _ => intItems_at), fun v h' tk hP hk => ?_⟩
  · rcases List.mem_cons.mp hb with rfl | hb
    · exact Heap.lt_size (Heap.get?_push_size _ rfl)
    · obtain rfl := List.mem_singleton.mp hb
      exact Heap.lt_size (Heap.get?_push_of_some _ ho)
  · exact h v h' tk (by simpa [intItems] using hP) (old_tup hk)
theorem max_intTup {xs : Array (Int × Tok)} {Q : Value → Shared → Prop} (hh : A.handled = none) (ht : s.heap.IsTuple t (intItems xs)) (hne : 0 < xs.size)
    (h : ∀ v h' tk, (intItems xs)[argBest (fun i j => decide (numAt xs i > numAt xs j)) (xs.size - 1)]? = some v → (∀ b o, s.heap.get? b = some o → h'.get? b = some o) → Q v { s with heap := h', toks := tk }) :
    wpAny (model prog w) A (call (.builtin "max") [.ref t]) Q E s := by
  obtain ⟨o, ho, hc, n, hd⟩ := id ht
  have hn : t ≠ s.heap.objs.size := Nat.ne_of_lt (Heap.lt_size ho)
  refine call_max_walk (wpAny_pyIter_tuple ht ?_)
  refine ⟨s.heap.objs.size, _, _, _, _, _, _, rfl, Walks.tuple (A := A.in1) hh s.heap.objs.size t hn (intItems xs), ⟨⟨_, Heap.get?_push_size _ rfl, rfl, rfl⟩, ht.at fun o e => Heap.get?_push_of_some _ e⟩, fun b hb => ?_, by simpa [intItems] using hne, CmpOf.ints_gt (numAt xs) (fun _ _ => intItems_at), fun v h' tk hP hk => ?_⟩
  · rcases List.mem_cons.mp hb with rfl | hb
    · exact Heap.lt_size (Heap.get?_push_size _ rfl)
    · obtain rfl := List.mem_singleton.mp hb
      exact Heap.lt_size (Heap.get?_push_of_some _ ho)
  · exact h v h' tk (by simpa [intItems] using hP) (old_tup hk)
variable {its : List Value} {ns : List Int} {Q : Value → Shared → Prop}
theorem sumT_raw (hh : A.handled = none) (hl : s.heap.IsTuple t its.toArray) (hi : IntsAre its ns)
    (h : ∀ h' tk t', (∀ b o, s.heap.get? b = some o → h'.get? b = some o) → Q (.int ns.sum t') { s with heap := h', toks := tk }) : wpAny (model prog w) A (call (.builtin "sum") [.ref t]) Q E s := by
  obtain ⟨xs, e⟩ := hi.allInts.items
  have hn : numsOf (intItems xs).toList = ns := by rw [← e]; exact hi.numsOf
  rw [nums_intItems] at hn
  rw [e] at hl
  refine PySem.W.ktm_sumG hh hl fun h' tk t' hk => ?_
  have := h h' tk t' hk
  rw [preSum_eq, List.take_of_length_le (by simp), hn]; exact this
theorem maxT_raw (hh : A.handled = none) (hl : s.heap.IsTuple t its.toArray) (hi : IntsAre its ns) (hne : 0 < ns.length)
    (h : ∀ h' tk M t', (∀ b o, s.heap.get? b = some o → h'.get? b = some o) → M ∈ ns → (∀ a, a ∈ ns → a ≤ M) → Q (.int M t') { s with heap := h', toks := tk }) : wpAny (model prog w) A (call (.builtin "max") [.ref t]) Q E s := by
  obtain ⟨xs, e⟩ := hi.allInts.items
  have hn : numsOf (intItems xs).toList = ns := by rw [← e]; exact hi.numsOf
  rw [nums_intItems] at hn
  subst hn
  rw [e] at hl
  have hsz : 0 < xs.size := by simpa using hne
  refine max_intTup hh hl hsz fun v h' tk hv hk => ?_
  obtain ⟨t, rfl⟩ := intItems_at hv
  obtain ⟨h1, h2⟩ := argBest_gt (numAt xs) (xs.size - 1)
  refine h h' tk _ t hk ?_ fun a ha => ?_
  · rw [numAt_eq]; exact PySem.getD_mem (by rw [List.length_map, Array.length_toList]; omega)
  · obtain ⟨j, hj, rfl⟩ := mem_getD ha
    rw [List.length_map, Array.length_toList] at hj
    rw [← numAt_eq]; exact h2 j (by omega)
theorem minT_raw (hh : A.handled = none) (hl : s.heap.IsTuple t its.toArray) (hi : IntsAre its ns) (hne : 0 < ns.length)
    (h : ∀ h' tk M t', (∀ b o, s.heap.get? b = some o → h'.get? b = some o) → M ∈ ns → (∀ a, a ∈ ns → M ≤ a) → Q (.int M t') { s with heap := h', toks := tk }) : wpAny (model prog w) A (call (.builtin "min") [.ref t]) Q E s := by
  obtain ⟨xs, e⟩ := hi.allInts.items
  have hn : numsOf (intItems xs).toList = ns := by rw [← e]; exact hi.numsOf
  rw [nums_intItems] at hn
  subst hn
  rw [e] at hl
  have hsz : 0 < xs.size := by simpa using hne
  refine min_intTup hh hl hsz fun v h' tk hv hk => ?_
  obtain ⟨t, rfl⟩ := intItems_at hv
  obtain ⟨h1, h2⟩ := argBest_lt (numAt xs) (xs.size - 1)
  refine h h' tk _ t hk ?_ fun a ha => ?_
  · rw [numAt_eq]; exact PySem.getD_mem (by rw [List.length_map, Array.length_toList]; omega)
  · obtain ⟨j, hj, rfl⟩ := mem_getD ha
    rw [List.length_map, Array.length_toList] at hj
    rw [← numAt_eq]; exact h2 j (by omega)
end
section
variable {X : Cx}
def rSumT (K : PySem.W.Frag) : List V → Hp → VK → Prop := fun vs H Q => ∃ (a : Addr) (ns : List Int), vs = [V.ref a] ∧ SqT K H a (ns.map V.int) ∧ Q (.int ns.sum) H
def rMaxT (K : PySem.W.Frag) : List V → Hp → VK → Prop := fun vs H Q => ∃ (a : Addr) (ns : List Int), vs = [V.ref a] ∧ SqT K H a (ns.map V.int) ∧ 0 < ns.length ∧ ∀ m, m ∈ ns → (∀ y, y ∈ ns → y ≤ m) → Q (.int m) H
def rMinT (K : PySem.W.Frag) : List V → Hp → VK → Prop := fun vs H Q => ∃ (a : Addr) (ns : List Int), vs = [V.ref a] ∧ SqT K H a (ns.map V.int) ∧ 0 < ns.length ∧ ∀ m, m ∈ ns → (∀ y, y ∈ ns → m ≤ y) → Q (.int m) H
theorem cr_sumT (hc : X.calm = true) : CallR X (.builtin "sum") (rSumT X.K) := by
  intro pins s σ H vs us Q I r h
  obtain ⟨a, ns, rfl, hs, q⟩ := h
  obtain ⟨its, rv, hl, _⟩ := I.tuple hs
  rw [Vals.ref1 r]
  exact sumT_raw (I.ok.hd hc) hl rv.ints fun h' tk t' hk => ⟨.int _, H, I.kept hk, ⟨_, rfl⟩, q⟩
theorem cr_maxT (hc : X.calm = true) : CallR X (.builtin "max") (rMaxT X.K) := by
  intro pins s σ H vs us Q I r h
  obtain ⟨a, ns, rfl, hs, hne, q⟩ := h
  obtain ⟨its, rv, hl, _⟩ := I.tuple hs
  rw [Vals.ref1 r]
  exact maxT_raw (I.ok.hd hc) hl rv.ints hne fun h' tk m t' hk h1 h2 => ⟨.int _, H, I.kept hk, ⟨_, rfl⟩, q m h1 h2⟩
theorem cr_minT (hc : X.calm = true) : CallR X (.builtin "min") (rMinT X.K) := by
  intro pins s σ H vs us Q I r h
  obtain ⟨a, ns, rfl, hs, hne, q⟩ := h
  obtain ⟨its, rv, hl, _⟩ := I.tuple hs
  rw [Vals.ref1 r]
  exact minT_raw (I.ok.hd hc) hl rv.ints hne fun h' tk m t' hk h1 h2 => ⟨.int _, H, I.kept hk, ⟨_, rfl⟩, q m h1 h2⟩
end
variable {n : Nm} {W : WX} {X : Cx}
theorem OIs.intsT {c : Cf} {v : V} {l : L} {ds : List D} {ns : List Int} (k : Ok n c) (h : OIs n c v l) (e : l.d = .tup ds) (q : intsOf ds = some ns) : ∃ a, v = .ref a ∧ SqT n.K c.H a (ns.map V.int) := by
  obtain ⟨a, vs, rfl, h1, h2⟩ := h.tup k e
  rw [intsOf_some q] at h2
  rw [h2.ints] at h1
  exact ⟨a, rfl, h1⟩
def sumW2 (l : L) : M L := match l.d with
  | .lst ds => (match intsOf ds with | some ns => pure (.sh (.int ns.sum)) | none => bad)
  | .tup ds => (match intsOf ds with | some ns => pure (.sh (.int ns.sum)) | none => bad)
  | _ => bad
theorem calls_sum2 : CallW n W (fun xs H Q => rSum n.K xs H Q ∨ rSumT n.K xs H Q) sumW2 := fun c x l Q k i o => by
  unfold sumW2 at o
  cases e : l.d with
  | lst ds =>
    rw [e] at o
    dsimp only at o
    cases q : intsOf ds with
    | some ns =>
      rw [q] at o
      obtain ⟨a, rfl, h⟩ := i.ints k e q
      exact .inl ⟨a, ns, rfl, h, o.sh k (.int _)⟩
    | none => rw [q] at o; exact o.not_bad
  | tup ds =>
    rw [e] at o
    dsimp only at o
    cases q : intsOf ds with
    | some ns =>
      rw [q] at o
      obtain ⟨a, rfl, h⟩ := i.intsT k e q
      exact .inr ⟨a, ns, rfl, h, o.sh k (.int _)⟩
    | none => rw [q] at o; exact o.not_bad
  | _ => rw [e] at o; exact o.not_bad
def bestW2 (f : List Int → Int) (l : L) : M L := match l.d with
  | .lst ds => (match intsOf ds with | some ns => if 0 < ns.length then pure (.sh (.int (f ns))) else bad | none => bad)
  | .tup ds => (match intsOf ds with | some ns => if 0 < ns.length then pure (.sh (.int (f ns))) else bad | none => bad)
  | _ => bad
theorem calls_best2 {f : List Int → Int} {rL rT : List V → Hp → VK → Prop} (hL : ∀ (a : Addr) (ns : List Int) (H : Hp) (Q : VK), SqL n.K H a (ns.map V.int) → 0 < ns.length → Q (.int (f ns)) H → rL [.ref a] H Q)
    (hT : ∀ (a : Addr) (ns : List Int) (H : Hp) (Q : VK), SqT n.K H a (ns.map V.int) → 0 < ns.length → Q (.int (f ns)) H → rT [.ref a] H Q) : CallW n W (fun xs H Q => rL xs H Q ∨ rT xs H Q) (bestW2 f) := fun c x l Q k i o => by
  unfold bestW2 at o
  cases e : l.d with
  | lst ds =>
    rw [e] at o
    dsimp only at o
    cases q : intsOf ds with
    | some ns =>
      rw [q] at o
      dsimp only at o
      obtain ⟨a, rfl, h⟩ := i.ints k e q
      split at o
      · rename_i hz
        exact .inl (hL a ns _ _ h hz (o.sh k (.int _)))
      · exact o.not_bad
    | none => rw [q] at o; exact o.not_bad
  | tup ds =>
    rw [e] at o
    dsimp only at o
    cases q : intsOf ds with
    | some ns =>
      rw [q] at o
      dsimp only at o
      obtain ⟨a, rfl, h⟩ := i.intsT k e q
      split at o
      · rename_i hz
        exact .inr (hT a ns _ _ h hz (o.sh k (.int _)))
      · exact o.not_bad
    | none => rw [q] at o; exact o.not_bad
  | _ => rw [e] at o; exact o.not_bad
theorem calls_max2W : CallW n W (fun xs H Q => rMax n.K xs H Q ∨ rMaxT n.K xs H Q) (bestW2 maxI) :=
  calls_best2 (fun a ns H Q h hz q => ⟨a, ns, rfl, h, hz, fun m h1 h2 => by rw [maxI_is h1 h2]; exact q⟩) (fun a ns H Q h hz q => ⟨a, ns, rfl, h, hz, fun m h1 h2 => by rw [maxI_is h1 h2]; exact q⟩)
theorem calls_min2W : CallW n W (fun xs H Q => rMin n.K xs H Q ∨ rMinT n.K xs H Q) (bestW2 minI) :=
  calls_best2 (fun a ns H Q h hz q => ⟨a, ns, rfl, h, hz, fun m h1 h2 => by rw [minI_is h1 h2]; exact q⟩) (fun a ns H Q h hz q => ⟨a, ns, rfl, h, hz, fun m h1 h2 => by rw [minI_is h1 h2]; exact q⟩)
/-! ### enumerate, zip -/
def enD : Nat → List D → List D
  | _, [] => []
  | k, d :: ds => .tup [.int (k : Nat), d] :: enD (k + 1) ds
theorem enD_len : ∀ (k : Nat) (ds : List D), (enD k ds).length = ds.length
  | _, [] => rfl
  | k, d :: ds => by show (enD (k + 1) ds).length + 1 = ds.length + 1; rw [enD_len]
theorem enD_get : ∀ (k i : Nat) (ds : List D) (d : D), ds[i]? = some d → (enD k ds)[i]? = some (.tup [.int ((k + i : Nat) : Int), d])
  | _, _, [], _, h => by simp at h
  | k, 0, e :: ds, d, h => by
    have h : e = d := by simpa using h
    subst h
    show some (D.tup [.int (k : Nat), e]) = _
    rfl
  | k, i + 1, e :: ds, d, h => by
    have h : ds[i]? = some d := by simpa using h
    show (enD (k + 1) ds)[i]? = _
    rw [enD_get (k + 1) i ds d h, show k + 1 + i = k + (i + 1) by omega]
theorem wk_enum {c1 : Cf} {a : Addr} {vs : List V} {ds : List D} (h : c1.F a = some (.lst vs)) (i : IsL n c1.F c1.φ vs ds) : Wk n c1 (Ite n.K a) (enD 0 ds) where
  go := fun j c hj k f => by
    rw [enD_len] at hj
    have q : SqL n.K c.H a vs := .of (k.sub _ _ (f.F _ _ h))
    exact ⟨vs, vs[j]'(by rw [i.length]; exact hj), q, List.getElem?_eq_getElem _⟩
  yld := fun j c x H' hj k f y => by
    have q : SqL n.K c.H a vs := .of (k.sub _ _ (f.F _ _ h))
    obtain ⟨T, x', rfl, hT, rfl, y⟩ := y
    obtain ⟨d, h1, h2⟩ := i.getV (y vs q)
    obtain ⟨k2, s2⟩ := k.allocF (o := .tup [.int (j : Nat), x']) hT
    refine ⟨{ c with H := upd c.H T (.tup [.int (j : Nat), x']), F := upd c.F T (.tup [.int (j : Nat), x']) }, .tup [.int ((j : Nat) : Int), d], rfl, rfl, rfl, s2, k2, ?_, ?_⟩
    · have := enD_get 0 j ds d h1
      rw [Nat.zero_add] at this
      exact this
    · exact .tup (.of upd_same) (.cons (.int _) (.cons (s2.is (f.is h2)) .nil))
  stop := fun c k f => ⟨vs, .of (k.sub _ _ (f.F _ _ h)), by rw [enD_len, i.length]; exact Nat.le_refl _⟩
theorem wk_enT {c1 : Cf} {a : Addr} {vs : List V} {ds : List D} (h : SqT n.K c1.F a vs) (i : IsL n c1.F c1.φ vs ds) : Wk n c1 (IteT n.K a) (enD 0 ds) where
  go := fun j c hj k f => by
    rw [enD_len] at hj
    have q : SqT n.K c.H a vs := (k.sub.seqT (f.F.seqT h))
    exact ⟨vs, vs[j]'(by rw [i.length]; exact hj), q, List.getElem?_eq_getElem _⟩
  yld := fun j c x H' hj k f y => by
    have q : SqT n.K c.H a vs := (k.sub.seqT (f.F.seqT h))
    obtain ⟨T, x', rfl, hT, rfl, y⟩ := y
    obtain ⟨d, h1, h2⟩ := i.getV (y vs q)
    obtain ⟨k2, s2⟩ := k.allocF (o := .tup [.int (j : Nat), x']) hT
    refine ⟨{ c with H := upd c.H T (.tup [.int (j : Nat), x']), F := upd c.F T (.tup [.int (j : Nat), x']) }, .tup [.int ((j : Nat) : Int), d], rfl, rfl, rfl, s2, k2, ?_, ?_⟩
    · have := enD_get 0 j ds d h1
      rw [Nat.zero_add] at this
      exact this
    · exact .tup (.of upd_same) (.cons (.int _) (.cons (s2.is (f.is h2)) .nil))
  stop := fun c k f => ⟨vs, k.sub.seqT (f.F.seqT h), by rw [enD_len, i.length]; exact Nat.le_refl _⟩
def zpD : List D → List D → List D
  | d :: ds, e :: es => .tup [d, e] :: zpD ds es
  | _, _ => []
theorem zpD_len : ∀ (ds es : List D), (zpD ds es).length = min ds.length es.length
  | [], _ => by simp [zpD]
  | _ :: _, [] => by simp [zpD]
  | d :: ds, e :: es => by show (zpD ds es).length + 1 = _; rw [zpD_len, List.length_cons, List.length_cons]; omega
theorem zpD_get : ∀ (i : Nat) (ds es : List D) (d e : D), ds[i]? = some d → es[i]? = some e → (zpD ds es)[i]? = some (.tup [d, e])
  | _, [], _, _, _, h, _ => by simp at h
  | _, _ :: _, [], _, _, _, h => by simp at h
  | 0, x :: ds, y :: es, d, e, h, h' => by
    have h : x = d := by simpa using h
    have h' : y = e := by simpa using h'
    subst h h'
    rfl
  | i + 1, x :: ds, y :: es, d, e, h, h' => zpD_get i ds es d e (by simpa using h) (by simpa using h')
theorem wk_zip {c1 : Cf} {a b : Addr} {vs us : List V} {ds es : List D} (h : c1.F a = some (.lst vs)) (h' : c1.F b = some (.lst us)) (i : IsL n c1.F c1.φ vs ds) (i' : IsL n c1.F c1.φ us es) : Wk n c1 (Itz n.K a b) (zpD ds es) where
  go := fun j c hj k f => by
    rw [zpD_len] at hj
    have l1 := i.length
    have l2 := i'.length
    exact ⟨vs, us, vs[j]'(by omega), us[j]'(by omega), .of (k.sub _ _ (f.F _ _ h)), .of (k.sub _ _ (f.F _ _ h')), List.getElem?_eq_getElem _, List.getElem?_eq_getElem _⟩
  yld := fun j c x H' hj k f y => by
    obtain ⟨T, x', y', rfl, hT, rfl, y1, y2⟩ := y
    obtain ⟨d, h1, h2⟩ := i.getV (y1 vs (.of (k.sub _ _ (f.F _ _ h))))
    obtain ⟨e, h3, h4⟩ := i'.getV (y2 us (.of (k.sub _ _ (f.F _ _ h'))))
    obtain ⟨k2, s2⟩ := k.allocF (o := .tup [x', y']) hT
    exact ⟨{ c with H := upd c.H T (.tup [x', y']), F := upd c.F T (.tup [x', y']) }, .tup [d, e], rfl, rfl, rfl, s2, k2, zpD_get j ds es d e h1 h3, .tup (.of upd_same) (.cons (s2.is (f.is h2)) (.cons (s2.is (f.is h4)) .nil))⟩
  stop := fun c k f => ⟨vs, us, .of (k.sub _ _ (f.F _ _ h)), .of (k.sub _ _ (f.F _ _ h')), by
    rw [zpD_len, i.length, i'.length]
    omega⟩
theorem wk_zipT {c1 : Cf} {a b : Addr} {vs us : List V} {ds es : List D} (h : SqT n.K c1.F a vs) (h' : SqT n.K c1.F b us) (i : IsL n c1.F c1.φ vs ds) (i' : IsL n c1.F c1.φ us es) : Wk n c1 (ItzT n.K a b) (zpD ds es) where
  go := fun j c hj k f => by
    rw [zpD_len] at hj
    have l1 := i.length
    have l2 := i'.length
    exact ⟨vs, us, vs[j]'(by omega), us[j]'(by omega), k.sub.seqT (f.F.seqT h), k.sub.seqT (f.F.seqT h'), List.getElem?_eq_getElem _, List.getElem?_eq_getElem _⟩
  yld := fun j c x H' hj k f y => by
    obtain ⟨T, x', y', rfl, hT, rfl, y1, y2⟩ := y
    obtain ⟨d, h1, h2⟩ := i.getV (y1 vs (k.sub.seqT (f.F.seqT h)))
    obtain ⟨e, h3, h4⟩ := i'.getV (y2 us (k.sub.seqT (f.F.seqT h')))
    obtain ⟨k2, s2⟩ := k.allocF (o := .tup [x', y']) hT
    exact ⟨{ c with H := upd c.H T (.tup [x', y']), F := upd c.F T (.tup [x', y']) }, .tup [d, e], rfl, rfl, rfl, s2, k2, zpD_get j ds es d e h1 h3, .tup (.of upd_same) (.cons (s2.is (f.is h2)) (.cons (s2.is (f.is h4)) .nil))⟩
  stop := fun c k f => ⟨vs, us, k.sub.seqT (f.F.seqT h), k.sub.seqT (f.F.seqT h'), by
    rw [zpD_len, i.length, i'.length]
    omega⟩
def enW (ds : List D) : M (List D) := match ds with
  | [.lst es] => pure (enD 0 es)
  | [.tup es] => pure (enD 0 es)
  | _ => bad
def zpW (ds : List D) : M (List D) := match ds with
  | [.lst es, .lst fs] => pure (zpD es fs)
  | [.tup es, .tup fs] => pure (zpD es fs)
  | _ => bad
theorem bi_enum {elts : List Expr} {kk : Nat} {tpos : Pos} {a : Expr} {p pos : Pos} {fs : M (List D)} (hK : X.K = n.K) (hg : Gl X "enumerate") (hm : X.mg "enumerate" = none) (ha : PA X [a] (tA n W fs)) (hs : starEach [a] X.env = [(false, eval a X.env)]) :
    PI X (.Tuple elts kk tpos) (.Call (.Name "enumerate" p) [a] [] pos) (tI n W (rgM fs enW)) := (pi_enA hg hm ha hs).imp fun σ H R ⟨c, e1, e2, k, o⟩ => by
  subst e1 e2
  refine ⟨c, rfl, rfl, k, Out.bind (P1 := PL n) trI o fun vs c1 ds e1 s1 k1 i1 o1 => ?_⟩
  unfold enW at o1
  split at o1
  · rename_i es
    obtain ⟨v, rfl, hv⟩ : ∃ v, vs = [v] ∧ Is n c1.F c1.φ v (.lst es) := by
      cases i1 with
      | cons h t => cases t; exact ⟨_, rfl, h⟩
    obtain ⟨b, us, rfl, h1, h2⟩ := is_lst hv
    refine ⟨b, us, rfl, .inl ⟨.of (k1.sub _ _ h1), ?_⟩⟩
    rw [hK]
    exact o1.fin k1 (wk_enum h1 h2)
  · rename_i es
    obtain ⟨v, rfl, hv⟩ : ∃ v, vs = [v] ∧ Is n c1.F c1.φ v (.tup es) := by
      cases i1 with
      | cons h t => cases t; exact ⟨_, rfl, h⟩
    obtain ⟨b, us, rfl, h1, h2⟩ := is_tup hv
    refine ⟨b, us, rfl, .inr ⟨by rw [hK]; exact k1.sub.seqT h1, ?_⟩⟩
    rw [hK]
    exact o1.fin k1 (wk_enT h1 h2)
  · exact o1.not_bad
theorem bi_zip {elts : List Expr} {kk : Nat} {tpos : Pos} {a b : Expr} {p pos : Pos} {fs : M (List D)} (hK : X.K = n.K) (hg : Gl X "zip") (hm : X.mg "zip" = none) (ha : PA X [a, b] (tA n W fs)) (hs : starEach [a, b] X.env = (false, eval a X.env) :: starEach [b] X.env) (hpl : (backTo pos (starEach [b] X.env)).any (·.1) = false) :
    PI X (.Tuple elts kk tpos) (.Call (.Name "zip" p) [a, b] [] pos) (tI n W (rgM fs zpW)) := (pi_zipA hg hm ha hs hpl).imp fun σ H R ⟨c, e1, e2, k, o⟩ => by
  subst e1 e2
  refine ⟨c, rfl, rfl, k, Out.bind (P1 := PL n) trI o fun vs c1 ds e1 s1 k1 i1 o1 => ?_⟩
  unfold zpW at o1
  split at o1
  · rename_i es fs'
    obtain ⟨v, w, rfl, hv, hw⟩ : ∃ v w, vs = [v, w] ∧ Is n c1.F c1.φ v (.lst es) ∧ Is n c1.F c1.φ w (.lst fs') := by
      cases i1 with
      | cons h t =>
        cases t with
        | cons h2 t => cases t; exact ⟨_, _, rfl, h, h2⟩
    obtain ⟨b1, us, rfl, h1, h2⟩ := is_lst hv
    obtain ⟨b2, us2, rfl, h3, h4⟩ := is_lst hw
    refine ⟨b1, b2, us, us2, rfl, .inl ⟨.of (k1.sub _ _ h1), .of (k1.sub _ _ h3), ?_⟩⟩
    rw [hK]
    exact o1.fin k1 (wk_zip h1 h3 h2 h4)
  · rename_i es fs'
    obtain ⟨v, w, rfl, hv, hw⟩ : ∃ v w, vs = [v, w] ∧ Is n c1.F c1.φ v (.tup es) ∧ Is n c1.F c1.φ w (.tup fs') := by
      cases i1 with
      | cons h t =>
        cases t with
        | cons h2 t => cases t; exact ⟨_, _, rfl, h, h2⟩
    obtain ⟨b1, us, rfl, h1, h2⟩ := is_tup hv
    obtain ⟨b2, us2, rfl, h3, h4⟩ := is_tup hw
    refine ⟨b1, b2, us, us2, rfl, .inr ⟨by rw [hK]; exact k1.sub.seqT h1, by rw [hK]; exact k1.sub.seqT h3, ?_⟩⟩
    rw [hK]
    exact o1.fin k1 (wk_zipT h1 h3 h2 h4)
  · exact o1.not_bad
/-! ### gcd -/
def gGcd (ds : List D) : M L := match ds with
  | [.int i, .int j] => pure (.sh (.int ((Nat.gcd i.natAbs j.natAbs : Nat) : Int)))
  | _ => bad
theorem calls_gcd : CallS n W rGcd gGcd := fun c vs ds Q k i o => by
  unfold gGcd at o
  split at o
  · cases i with
    | cons h1 t =>
      cases t with
      | cons h2 t =>
        cases t
        rw [is_int h1, is_int h2]
        exact ⟨_, _, rfl, o.sh k (.int _)⟩
  · exact o.not_bad
theorem be_gcd {x : Str} {p pos : Pos} {e : Expr} {es : List Expr} {fs : M (List D)} (hg : Gl X x) (hm : X.mg x = some (.builtin "math.gcd")) (ha : PA X (e :: es) (tA n W fs)) (hdb : (x == ("__debug__" : Str)) = false)
    (he : starEach (e :: es) X.env = (false, eval e X.env) :: starEach es X.env) (hpl : (backTo pos (starEach es X.env)).any (·.1) = false) : PE X (.Call (.Name x p) (e :: es) [] pos) (tO n W (fnM fs gGcd)) :=
  (pe_callBfun cr_gcd hg hm ha hdb he hpl).imp fun _ _ _ o => be_tCB calls_gcd o
/-! ### index -/
def gIdx (d e : D) : M L := match d with
  | .lst ds => (match pyL ds, e.py with
    | some qs, some p => if SeqAt.shaped (.list qs) && SeqAt.shaped p then (match qs.findIdx? fun z => PyData.eqv z p with
      | some j => pure (.sh (.int (j : Nat)))
      | none => bad) else bad
    | _, _ => bad)
  | _ => bad
def hfewB (e : Expr) (cpos : Pos) (env : Env) : Bool := (backTo cpos (starEach (e :: []) env)).all (fun x => !x.1) && (backToKw cpos (keywordEach [] env)).all (fun x => x.1.isSome) && decide ((e :: []).length + ([] : List Keyword).length + (if ([] : List Keyword).isEmpty then 0 else 1) < 30)
def idxM (fo fe : M D) : M L := do
  let d ← fo
  match d with
  | .lst ds => (do let e ← fe; gIdx (.lst ds) e)
  | _ => bad
theorem be_index {o e : Expr} {apos cpos : Pos} {fo fe : M D} (hu : X.A.units + 65 < cLine) (hK : X.K = n.K) (ho : PE X o (tX n W fo)) (he : PE X e (tX n W fe)) (hbase : attributeBase o "index" X.env (eval o X.env) = eval o X.env)
    (hfew : ((backTo cpos (starEach (e :: []) X.env)).all (fun x => !x.1) && (backToKw cpos (keywordEach [] X.env)).all (fun x => x.1.isSome) && decide ((e :: []).length + ([] : List Keyword).length + (if ([] : List Keyword).isEmpty then 0 else 1) < 30)) = true)
    (hline : (apos.endLine == cpos.line) = true) (hs : starEach (e :: []) X.env = (false, eval e X.env) :: starEach [] X.env) : PE X (.Call (.Attribute o "index" apos) [e] [] cpos) (tO n W (idxM fo fe)) :=
  (pe_bm PySem.F.plainAttrs_list PySem.F.slot_list_index PySem.F.type_list_index (mt_indexD hu) ho (pa_cons he pa_nil hs) hbase hfew hline hs rfl).imp fun σ H Q ⟨c, e1, e2, k, oo⟩ => by
    subst e1 e2
    refine ⟨c, rfl, rfl, k, Out.bind (P1 := PX n) trO oo fun x c1 d e1 s1 k1 i1 o1 => ?_⟩
    cases d with
    | lst ds =>
      obtain ⟨a, vs, rfl, h1, h2⟩ := is_lst i1
      refine ⟨.inl ⟨rfl, vs, .of (k1.sub _ _ h1)⟩, c1, e1, rfl, k1, Out.bind (P1 := PX n) trO o1 fun y c2 e e2 s2 k2 i2 o2 => ?_⟩
      have i3 : Is n c2.F c2.φ (.ref a) (.lst ds) := s2.is i1
      have o2 : Out n W (RV n) c2 ((match pyL ds, e.py with
        | some qs, some p => if SeqAt.shaped (.list qs) && SeqAt.shaped p then (match qs.findIdx? fun z => PyData.eqv z p with
          | some j => (pure (.sh (.int (j : Nat))) : M L)
          | none => bad) else bad
        | _, _ => bad) c2.S) Q := o2
      cases g1 : pyL ds with
      | none => rw [g1] at o2; exact o2.not_bad
      | some qs =>
        cases g2 : e.py with
        | none => rw [g1, g2] at o2; exact o2.not_bad
        | some p =>
          rw [g1, g2] at o2
          dsimp only at o2
          by_cases g3 : (SeqAt.shaped (.list qs) && SeqAt.shaped p) = true
          · rw [if_pos g3] at o2
            rw [Bool.and_eq_true] at g3
            cases g4 : qs.findIdx? fun z => PyData.eqv z p with
            | none => rw [g4] at o2; exact o2.not_bad
            | some j =>
              rw [g4] at o2
              have hl : (D.lst ds).py = some (.list qs) := by unfold D.py; rw [g1]; rfl
              obtain ⟨g5, g6, g7⟩ := List.findIdx?_eq_some_iff_getElem.mp g4
              refine ⟨a, y, p, qs, j, qs[j], rfl, rfl, ?_, ?_, g3.1, g3.2, List.getElem?_eq_getElem g5, by simpa using g6, fun m z' hm hz => ?_, o2.sh k2 (.int _)⟩
              · rw [hK]; exact i3.dp k2.sub hl
              · rw [hK]; exact i2.dp k2.sub g2
              · obtain ⟨hl2, hz2⟩ := List.getElem?_eq_some_iff.mp hz
                have := g7 m hm
                rw [hz2] at this
                simpa using this
          · rw [if_neg g3] at o2; exact o2.not_bad
    | _ => exact o1.not_bad
/-! ### extend -/
def extN (i : Nat) (d : D) : M L := fun s => match s.sl[i]?, d with
  | some (some (.ol ds)), .lst es => if ds.length + es.length ≤ lineN then .ok (.sh .non) { s with sl := s.sl.set i (some (.ol (ds ++ es))) } else .bad
  | _, _ => .bad
def extM (i : Nat) (f : M D) : M L := do chkL i; let d ← f; extN i d
theorem be_extend {e : Expr} {x : Str} {p1 apos cpos : Pos} {i : Nat} {f : M D} (hN : X.N[i]? = some x) (hv : Vis X.env.scope x) (hd : (x == ("__debug__" : Str)) = false) (hcd : (x == ("__classdict__" : Str)) = false) (he : PE X e (tX n W f))
    (hfew : ((backTo cpos (starEach (e :: []) X.env)).all (fun x => !x.1) && (backToKw cpos (keywordEach [] X.env)).all (fun x => x.1.isSome) && decide ((e :: []).length + ([] : List Keyword).length + (if ([] : List Keyword).isEmpty then 0 else 1) < 30)) = true)
    (hline : (apos.endLine == cpos.line) = true) (hs : starEach (e :: []) X.env = (false, eval e X.env) :: starEach [] X.env) : PE X (.Call (.Attribute (.Name x p1) "extend" apos) [e] [] cpos) (tO n W (extM i f)) :=
  (pe_bm PySem.F.plainAttrs_list PySem.F.slot_list_extend PySem.F.type_list_extend mt_extend (pe_var hN hv hd hcd) (pa_cons he pa_nil hs) rfl hfew hline hs rfl).imp fun σ H Q ⟨c, e1, e2, k, o⟩ => by
    subst e1 e2
    obtain ⟨ds, h1, o⟩ := chkL_some o
    obtain ⟨v, h2, a, vs, rfl, h3, h4, h5, h6⟩ := k.sl i _ h1
    refine ⟨.ref a, h2, .inl ⟨rfl, vs, .of h3⟩, c, rfl, rfl, k, Out.bind (P1 := PX n) trO o fun y c1 d e1 s1 k1 i1 o1 => ?_⟩
    unfold extN at o1
    cases q : c1.S.sl[i]? with
    | none => rw [q] at o1; exact o1.not_bad
    | some z =>
      rw [q] at o1
      cases z with
      | none => exact o1.not_bad
      | some z =>
        cases z with
        | ol es =>
          cases d with
          | lst fs =>
            dsimp only at o1
            split at o1
            · rename_i hz
              obtain ⟨v1, g1, a1, vs1, rfl, g3, g4, g5, g6⟩ := k1.sl i _ q
              rw [e1, h2] at g1
              cases g1
              obtain ⟨b, us, rfl, j1, j2⟩ := is_lst i1
              have hi : IsL n c1.F c1.φ (vs1 ++ us) (es ++ fs) := g6.append j2
              obtain ⟨k2, s2⟩ := k1.setOwn (y := .ol (es ++ fs)) (o := .lst (vs1 ++ us)) q rfl rfl (by rw [e1]; exact h2) ⟨a, _, rfl, upd_same, g4, g5, hi⟩
              refine ⟨a, b, vs1, us, rfl, rfl, g3, k1.sub _ _ j1, by rw [g6.length, j2.length, lineN_eq]; exact hz, ?_⟩
              exact o1 .non { c1 with S := { c1.S with sl := c1.S.sl.set i (some (.ol (es ++ fs))) }, H := upd c1.H a (.lst (vs1 ++ us)) } rfl rfl s2 k2 ⟨.non, fun z => by cases z⟩
            · exact o1.not_bad
          | _ => exact o1.not_bad
        | _ => exact o1.not_bad
/-! ### tuple(range(n)), list(range(n)) -/
def rgW (g : List D → L) (d : D) : M L := match d with
  | .int j => if decide (0 ≤ j) && decide (j ≤ 16777216) then pure (g (rgD 0 j.toNat)) else bad
  | _ => bad
def rgOf (f : M D) (g : List D → L) : M L := do
  let d ← f
  rgW g d
theorem isL_rg {F : Hp} {φ : List Addr} (j : Int) : IsL n F φ (rgV 0 j) (rgD 0 j.toNat) := by
  unfold rgV rgD
  have key : ∀ l : List Nat, IsL n F φ (l.map fun i => V.int (0 + (i : Nat))) (l.map fun i => D.int (0 + (i : Nat))) := fun l => by
    induction l with
    | nil => exact .nil
    | cons x r ih => exact .cons (.int _) ih
  have := key (List.range (j - 0).toNat)
  rw [Int.sub_zero] at this ⊢
  exact this
theorem be_tupRg {a : Expr} {f : M D} {p p2 pos pos2 : Pos} (hc : X.calm = true) (hg : Gl X "tuple") (hm : X.mg "tuple" = none) (hg2 : Gl X "range") (hm2 : X.mg "range" = none) (ha : PE X a (tX n W f)) (hs : starEach [a] X.env = (false, eval a X.env) :: starEach [] X.env) :
    PE X (.Call (.Name "tuple" p) [.Call (.Name "range" p2) [a] [] pos2] [] pos) (tO n W (rgOf f fun ds => .sh (.tup ds))) :=
  (pe_tupRg hc hg hm (prg_1 hg2 hm2 ha hs)).imp fun σ H Q ⟨c, e1, e2, k, o⟩ => by
    subst e1 e2
    refine ⟨c, rfl, rfl, k, Out.bind (P1 := PX n) trO o fun x c1 d e1 s1 k1 i1 o1 => ?_⟩
    unfold rgW at o1
    cases d with
    | int j =>
      dsimp only at o1
      split at o1
      · rename_i hz
        simp only [Bool.and_eq_true, decide_eq_true_eq] at hz
        refine ⟨j, is_int i1, .of_le (by omega) (by omega) (by omega) hz.1, fun q hq => ?_⟩
        exact o1.newTup k1 (isL_rg j) hq
      · exact o1.not_bad
    | _ => exact o1.not_bad
theorem be_lstRg {a : Expr} {f : M D} {p p2 pos pos2 : Pos} (hc : X.calm = true) (hg : Gl X "list") (hm : X.mg "list" = none) (hg2 : Gl X "range") (hm2 : X.mg "range" = none) (ha : PE X a (tX n W f)) (hs : starEach [a] X.env = (false, eval a X.env) :: starEach [] X.env) :
    PE X (.Call (.Name "list" p) [.Call (.Name "range" p2) [a] [] pos2] [] pos) (tO n W (rgOf f fun ds => .ol ds)) :=
  (pe_listRg hc hg hm (prg_1 hg2 hm2 ha hs)).imp fun σ H Q ⟨c, e1, e2, k, o⟩ => by
    subst e1 e2
    refine ⟨c, rfl, rfl, k, Out.bind (P1 := PX n) trO o fun x c1 d e1 s1 k1 i1 o1 => ?_⟩
    unfold rgW at o1
    cases d with
    | int j =>
      dsimp only at o1
      split at o1
      · rename_i hz
        simp only [Bool.and_eq_true, decide_eq_true_eq] at hz
        refine ⟨j, is_int i1, .of_le (by omega) (by omega) (by omega) hz.1, fun q hq => ?_⟩
        exact o1.newLst k1 (isL_rg j) hq
      · exact o1.not_bad
    | _ => exact o1.not_bad
/-! ### tuple(range(a, b)), list(range(a, b)) -/
def rgW2 (g : List D → L) (d e : D) : M L := match d, e with
  | .int i, .int j => if decide (-1073741824 ≤ i) && decide (i ≤ 1073741824) && decide (-1073741824 ≤ j) && decide (j ≤ 1073741824) && decide (j - i ≤ 16777216) then pure (g (rgD i (j - i).toNat)) else bad
  | _, _ => bad
def rgOf2 (fa fb : M D) (g : List D → L) : M L := do
  let d ← fa
  let e ← fb
  rgW2 g d e
theorem isL_rg2 {F : Hp} {φ : List Addr} (i j : Int) : IsL n F φ (rgV i j) (rgD i (j - i).toNat) := by
  unfold rgV rgD
  have key : ∀ l : List Nat, IsL n F φ (l.map fun k => V.int (i + (k : Nat))) (l.map fun k => D.int (i + (k : Nat))) := fun l => by
    induction l with
    | nil => exact .nil
    | cons x r ih => exact .cons (.int _) ih
  exact key _
section
variable {a b : Expr} {fa fb : M D} {p p2 pos pos2 : Pos}
theorem be_tupRg2 (hc : X.calm = true) (hg : Gl X "tuple") (hm : X.mg "tuple" = none) (hg2 : Gl X "range") (hm2 : X.mg "range" = none) (ha : PE X a (tX n W fa)) (hb : PE X b (tX n W fb)) (hs : starEach [a, b] X.env = (false, eval a X.env) :: starEach [b] X.env) (hs2 : starEach [b] X.env = (false, eval b X.env) :: starEach [] X.env) (hp : (backTo pos2 (starEach [b] X.env)).any (·.1) = false) :
    PE X (.Call (.Name "tuple" p) [.Call (.Name "range" p2) [a, b] [] pos2] [] pos) (tO n W (rgOf2 fa fb fun ds => .sh (.tup ds))) :=
  (pe_tupRg hc hg hm (prg_2 hg2 hm2 ha hb hs hs2 hp)).imp fun σ H Q ⟨c, e1, e2, k, o⟩ => by
    subst e1 e2
    refine ⟨c, rfl, rfl, k, Out.bind (P1 := PX n) trO o fun x c1 d e1 s1 k1 i1 o1 => ?_⟩
    refine ⟨c1, e1, rfl, k1, Out.bind (P1 := PX n) trO o1 fun y c2 e e2 s2 k2 i2 o2 => ?_⟩
    unfold rgW2 at o2
    split at o2
    · rename_i i j
      split at o2
      · rename_i hz
        simp only [Bool.and_eq_true, decide_eq_true_eq] at hz
        refine ⟨i, j, is_int i1, is_int i2, ⟨by omega, by omega, by omega, by omega, by omega⟩, fun q hq => ?_⟩
        exact o2.newTup k2 (isL_rg2 i j) hq
      · exact o2.not_bad
    · exact o2.not_bad
theorem be_lstRg2 (hc : X.calm = true) (hg : Gl X "list") (hm : X.mg "list" = none) (hg2 : Gl X "range") (hm2 : X.mg "range" = none) (ha : PE X a (tX n W fa)) (hb : PE X b (tX n W fb)) (hs : starEach [a, b] X.env = (false, eval a X.env) :: starEach [b] X.env) (hs2 : starEach [b] X.env = (false, eval b X.env) :: starEach [] X.env) (hp : (backTo pos2 (starEach [b] X.env)).any (·.1) = false) :
    PE X (.Call (.Name "list" p) [.Call (.Name "range" p2) [a, b] [] pos2] [] pos) (tO n W (rgOf2 fa fb fun ds => .ol ds)) :=
  (pe_listRg hc hg hm (prg_2 hg2 hm2 ha hb hs hs2 hp)).imp fun σ H Q ⟨c, e1, e2, k, o⟩ => by
    subst e1 e2
    refine ⟨c, rfl, rfl, k, Out.bind (P1 := PX n) trO o fun x c1 d e1 s1 k1 i1 o1 => ?_⟩
    refine ⟨c1, e1, rfl, k1, Out.bind (P1 := PX n) trO o1 fun y c2 e e2 s2 k2 i2 o2 => ?_⟩
    unfold rgW2 at o2
    split at o2
    · rename_i i j
      split at o2
      · rename_i hz
        simp only [Bool.and_eq_true, decide_eq_true_eq] at hz
        refine ⟨i, j, is_int i1, is_int i2, ⟨by omega, by omega, by omega, by omega, by omega⟩, fun q hq => ?_⟩
        exact o2.newLst k2 (isL_rg2 i j) hq
      · exact o2.not_bad
    · exact o2.not_bad
end
end Bv

/-! dicts with numbers and texts as keys: displays, comprehensions, in, sorted -/
namespace Bv
open PySem PySem.Spec PyProof.Rows L2
variable {n : Nm} {W : WX} {X : Cx}
def kyIs (d : D) (k : Key) : Bool := decide (keyOf d = some k)
def putQ (kvs : List (D × D)) (k : Key) (kd y : D) : List (D × D) :=
  if (kvs.any fun kv => kyIs kv.1 k) = true then kvs.map (fun kv => if kyIs kv.1 k = true then (kv.1, y) else kv) else kvs ++ [(kd, y)]
def valQ (kvs : List (D × D)) (k : Key) : Option D := (kvs.find? fun kv => kyIs kv.1 k).map (·.2)
section
variable {F : Hp} {φ : List Addr}
theorem IsK.any {k : Key} : ∀ {vs : List (Key × V)} {ds : List (D × D)}, IsK n F φ vs ds → (vs.any fun kv => decide (kv.1 = k)) = ds.any fun kv => kyIs kv.1 k
  | _, _, .nil => rfl
  | _, _, .cons (k := k') (kd := kd) hk h t => by
    rw [List.any_cons, List.any_cons, IsK.any t]
    congr 1
    show decide (k' = k) = kyIs kd k
    unfold kyIs
    rw [hk]
    by_cases e : k' = k
    · simp [e]
    · simp [e]
theorem IsK.mapP {k : Key} {v : V} {y : D} (i : Is n F φ v y) : ∀ {vs : List (Key × V)} {ds : List (D × D)}, IsK n F φ vs ds → IsK n F φ (vs.map fun kv => if kv.1 = k then (kv.1, v) else kv) (ds.map fun kv => if kyIs kv.1 k = true then (kv.1, y) else kv)
  | _, _, .nil => .nil
  | _, _, .cons (k := k') (kd := kd) hk h t => by
    rw [List.map_cons, List.map_cons]
    by_cases e : k' = k
    · have e2 : kyIs kd k = true := by unfold kyIs; rw [hk, e]; simp
      rw [if_pos e, if_pos e2]
      exact .cons hk i (IsK.mapP i t)
    · have e2 : ¬ kyIs kd k = true := by unfold kyIs; rw [hk]; simp [e]
      rw [if_neg e, if_neg e2]
      exact .cons hk h (IsK.mapP i t)
theorem IsK.app {k : Key} {v : V} {kd y : D} (hk : keyOf kd = some k) (i : Is n F φ v y) : ∀ {vs : List (Key × V)} {ds : List (D × D)}, IsK n F φ vs ds → IsK n F φ (vs ++ [(k, v)]) (ds ++ [(kd, y)])
  | _, _, .nil => .cons hk i .nil
  | _, _, .cons hk' h t => .cons hk' h (IsK.app hk i t)
theorem IsK.put {k : Key} {v : V} {kd y : D} {vs : List (Key × V)} {ds : List (D × D)} (hk : keyOf kd = some k) (i : Is n F φ v y) (h : IsK n F φ vs ds) : IsK n F φ (putK vs k v) (putQ ds k kd y) := by
  unfold putK putQ
  rw [h.any]
  split
  · exact h.mapP i
  · exact h.app hk i
theorem IsK.val {k : Key} : ∀ {vs : List (Key × V)} {ds : List (D × D)}, IsK n F φ vs ds → (valQ ds k = none ∧ valV vs k = none) ∨ ∃ v d, valQ ds k = some d ∧ valV vs k = some v ∧ Is n F φ v d
  | _, _, .nil => .inl ⟨rfl, rfl⟩
  | _, _, .cons (k := k') (v := v') (kd := kd) (d := d') hk h t => by
    by_cases e : k' = k
    · have e2 : kyIs kd k = true := by unfold kyIs; rw [hk, e]; simp
      refine .inr ⟨v', d', ?_, valV_pos e, h⟩
      unfold valQ
      rw [List.find?_cons, e2]
      rfl
    · have e2 : kyIs kd k = false := by unfold kyIs; rw [hk]; simp [e]
      rw [valV_neg e]
      unfold valQ
      rw [List.find?_cons, e2]
      exact IsK.val t
end
theorem key_is {F : Hp} {φ : List Addr} {x : V} {d : D} {k : Key} (h : Is n F φ x d) (e : keyOf d = some k) : x = kV k := by
  unfold keyOf at e
  split at e
  · cases e; rw [is_int h]; rfl
  · cases e; rw [is_str h]; rfl
  · cases e
/-! ### comprehensions -/
def dcB (vs : List Nat) (a : AS) (t : M Bool) (kx e : M D) : List D → List (D × D) → S → Res (List (D × D))
  | [], acc, s => .ok acc s
  | d :: ds, acc, s => match a (.sh d) (wipeS s vs) with
    | none => .bad
    | some s1 => match t s1 with
      | .ok true s2 => (match kx s2 with
        | .ok kd s3 => (match e s3 with
          | .ok y s4 => (match keyOf kd with
            | some k => if acc.length < lineN then dcB vs a t kx e ds (putQ acc k kd y) s4 else .bad
            | none => .bad)
          | _ => .bad)
        | _ => .bad)
      | .ok false s2 => dcB vs a t kx e ds acc s2
      | _ => .bad
def dcM (m : M (List D)) (vs : List Nat) (a : AS) (t : M Bool) (kx e : M D) : M L := fun s => match m s with
  | .ok ds s1 => (match dcB vs a t kx e ds [] (wipeS s1 vs) with
    | .ok ys s2 => .ok (.od ys) (restS s1 s2 vs)
    | _ => .bad)
  | .exc C fs s1 => .exc C fs s1
  | .bad => .bad
/-- a turn's configuration: the list so far at d -/
structure DcI (n : Nm) (c1 : Cf) (vs : List Nat) (d : Addr) (acc : List (D × D)) (c : Cf) : Prop where
  ok : Ok n c
  st : Stp (c1.wipe vs) c
  sg : L2.wipe c.σ vs = L2.wipe c1.σ vs
  hd : ∃ ys, c.H d = some (.dK ys) ∧ IsK n c.F c.φ ys acc
  nf : c.F d = none
  nm : ¬ Mut c d
theorem DcI.step {c1 c c' : Cf} {vs : List Nat} {d : Addr} {acc : List (D × D)} (h : DcI n c1 vs d acc c) (s : Stp c c') (k : Ok n c') (e : L2.wipe c'.σ vs = L2.wipe c1.σ vs) : DcI n c1 vs d acc c' := by
  obtain ⟨ys, h1, h2⟩ := h.hd
  refine ⟨k, h.st.trans s, e, ⟨ys, s.H d _ h1 h.nm (fun _ z => by cases z), s.isK h2⟩, ?_, fun m => ?_⟩
  · cases q : c'.F d with
    | none => rfl
    | some u =>
      rcases s.new d (by rw [q]; simp) with z | z | z
      · exact absurd h.nf z
      · rw [h1] at z; cases z
      · exact absurd z h.nm
  · rcases s.mono d m with z | z
    · exact h.nm z
    · rw [h1] at z; cases z
/-- the list grows -/
theorem DcI.grow {c1 c : Cf} {vs : List Nat} {d : Addr} {acc : List (D × D)} {y : V} {e kd : D} {k : Key} {ys : List (Key × V)} (hk : keyOf kd = some k) (h : DcI n c1 vs d acc c) (hd0 : c1.H d = none) (i : Is n c.F c.φ y e) (hh : c.H d = some (.dK ys)) : DcI n c1 vs d (putQ acc k kd e) { c with H := upd c.H d (.dK (putK ys k y)) } := by
  obtain ⟨zs, h1, h2⟩ := h.hd
  rw [hh] at h1; cases h1
  have ne : ∀ {b : Addr}, b ≠ d → upd c.H d (.dK (putK ys k y)) b = c.H b := fun hb => upd_ne hb
  have keep : ∀ {b : Addr} {o : HO}, (∀ xs, o ≠ .dK xs) ∨ b ≠ d → c.H b = some o → upd c.H d (.dK (putK ys k y)) b = some o := fun {b o} hb e => by
    by_cases z : b = d
    · subst z
      rcases hb with hb | hb
      · rw [hh] at e; exact absurd (Option.some.inj e).symm (hb ys)
      · exact absurd rfl hb
    · rw [ne z]; exact e
  refine ⟨⟨h.ok.len, fun b u e => ?_, fun j x e => ?_, h.ok.dist, h.ok.nd, h.ok.slen, fun j o a e1 e2 => ?_, h.ok.fφ⟩, ⟨h.st.F, fun b o e m t => ?_, h.st.new, h.st.mono, fun b e => ?_, h.st.φ, h.st.an⟩, h.sg, ⟨putK ys k y, upd_same, IsK.put hk i h2⟩, h.nf, h.nm⟩
  · have hb : b ≠ d := fun z => by
      subst z
      have := h.nf
      rw [e] at this; cases this
    show upd c.H d (.dK (putK ys k y)) b = some u
    rw [ne hb]; exact h.ok.sub _ _ e
  · obtain ⟨v, h3, h4⟩ := h.ok.sl j x e
    refine ⟨v, h3, ?_⟩
    have hv : x.own = true → ∀ a, v = .ref a → a ≠ d := fun o a ea z => by
      subst z ea
      exact h.nm (.inl ⟨j, x, e, o, h3⟩)
    cases x with
    | sh w => exact h4
    | ol ds => obtain ⟨a, us, ea, h5, h6, h7, h8⟩ := h4; exact ⟨a, us, ea, keep (.inr (hv rfl a ea)) h5, h6, h7, h8⟩
    | od kvs =>
      obtain ⟨a, ea, h6, h7, ⟨us, h5, h8⟩ | ⟨us, h5, h8⟩⟩ := h4
      · exact ⟨a, ea, h6, h7, .inl ⟨us, keep (.inr (hv rfl a ea)) h5, h8⟩⟩
      · exact ⟨a, ea, h6, h7, .inr ⟨us, keep (.inr (hv rfl a ea)) h5, h8⟩⟩
    | oi b C fs => obtain ⟨a, C, dx, us, ea, hb, hC, h5, h6, h7, h8⟩ := h4; exact ⟨a, C, dx, us, ea, hb, hC, keep (.inr (hv rfl a ea)) h5, h6, h7, h8⟩
  · have z := h.ok.st j o a e1 e2
    cases o with
    | dic p => obtain ⟨lc, h3, h4⟩ := z; exact ⟨lc, keep (.inr fun z' => h.nm (.inr (z' ▸ List.mem_of_getElem? e2))) h3, h4⟩
    | inst C fs => obtain ⟨C, dx, us, h3, h4, h5⟩ := z; exact ⟨C, dx, us, h3, keep (.inl fun _ q => by cases q) h4, h5⟩
  · have hb : b ≠ d := fun z => by
      subst z
      have e : c1.H b = some o := e
      rw [hd0] at e; cases e
    show upd c.H d (.dK (putK ys k y)) b = some o
    rw [ne hb]; exact h.st.H b o e m t
  · exact h.st.there b (upd_none' e).2
/-- behind the block -/
theorem DcI.rest {c1 c : Cf} {vs : List Nat} {d : Addr} {acc : List (D × D)} (h : DcI n c1 vs d acc c) (k1 : Ok n c1) (hd0 : c1.H d = none) : let c2 : Cf := { c with S := restS c1.S c.S vs, σ := c1.σ }; Ok n c2 ∧ Stp c1 c2 ∧ RV n c1 c2 (.ref d) (.od acc) := by
  have σ_eq : ∀ (i : Nat), i ∉ vs → c.σ[i]? = c1.σ[i]? := fun i hi => by rw [← wipe_get (σ := c.σ) hi, h.sg, wipe_get hi]
  have lens : c.σ.length = c1.σ.length := by
    have z := congrArg List.length h.sg
    rw [wipe_length, wipe_length] at z
    exact z
  -- a hidden own object
  have hid : ∀ (i : Nat) (x : L), i ∈ vs → c1.S.sl[i]? = some (some x) → x.own = true → ∀ a : Addr, c1.σ[i]? = some (some (V.ref a)) → ¬ Mut (c1.wipe vs) a ∧ a ∉ c.φ ∧ ¬ Mut c a := fun i x hi e o a ea => by
    obtain ⟨v, e1, e2⟩ := k1.sl i x e
    rw [ea] at e1; cases e1
    obtain ⟨_, ee, hf, hφ, u, hu, _⟩ := e2.at o
    cases ee
    have m1 : ¬ Mut (c1.wipe vs) a := fun m => by
      rcases m with m | m
      · obtain ⟨j, y, hj, f1, f2, f3⟩ := own_wipe m
        exact k1.dist i j x y a (fun z => hj (z ▸ hi)) e f1 o f2 ea f3
      · exact hφ m
    have m2 : ¬ Mut c a := fun m => by
      rcases h.st.mono a m with z | z
      · exact m1 z
      · have z : c1.H a = none := z
        rw [hu] at z; cases z
    exact ⟨m1, fun m => m2 (.inr m), m2⟩
  have mutS : ∀ b, Mut { c with S := restS c1.S c.S vs, σ := c1.σ } b → Mut c1 b ∨ c1.H b = none := fun b m => by
    rcases m with ⟨i, x, e, o, s⟩ | m
    · have s : c1.σ[i]? = some (some (V.ref b)) := s
      rcases restS_get e with ⟨hi, e⟩ | ⟨hi, e⟩
      · exact .inl (.inl ⟨i, x, e, o, s⟩)
      · rcases h.st.mono b (.inl ⟨i, x, e, o, (σ_eq i hi).trans s⟩) with z | z
        · exact .inl (mut_wipe z)
        · exact .inr z
    · rcases h.st.mono b (.inr m) with z | z
      · exact .inl (mut_wipe z)
      · exact .inr z
  obtain ⟨ys, h1, h2⟩ := h.hd
  refine ⟨⟨?_, h.ok.sub, fun i x e => ?_, fun i j x y a hij e1 e2 o1 o2 s1 s2 => ?_, h.ok.nd, h.ok.slen, fun j o a e1 e2 => ?_, h.ok.fφ⟩, ⟨h.st.F, fun b o e m t => h.st.H b o e (fun z => m (mut_wipe z)) t, fun b e => ?_, mutS, h.st.there, h.st.φ, h.st.an⟩, ⟨⟨d, rfl, h.nf, fun m => h.nm (.inr m), .inl ⟨ys, h1, h2⟩⟩, fun _ a ea => ?_⟩⟩
  · show (restS c1.S c.S vs).sl.length = c1.σ.length
    rw [restS_len, h.ok.len, lens]
  · rcases restS_get e with ⟨hi, e⟩ | ⟨hi, e⟩
    · obtain ⟨v, e1, e2⟩ := k1.sl i x e
      refine ⟨v, e1, ?_⟩
      have e3 : OIs n (c1.wipe vs) v x := by cases x <;> exact e2
      have e4 := e3.step h.st fun o a ea => by
        subst ea
        obtain ⟨m1, m2, _⟩ := hid i x hi e o a e1
        exact ⟨m1, m2⟩
      cases x <;> exact e4
    · obtain ⟨v, e1, e2⟩ := h.ok.sl i x e
      exact ⟨v, (σ_eq i hi).symm.trans e1, by cases x <;> exact e2⟩
  · have s1 : c1.σ[i]? = some (some (V.ref a)) := s1
    have s2 : c1.σ[j]? = some (some (V.ref a)) := s2
    rcases restS_get e1 with ⟨hi, e1⟩ | ⟨hi, e1⟩
    · rcases restS_get e2 with ⟨hj, e2⟩ | ⟨hj, e2⟩
      · exact k1.dist i j x y a hij e1 e2 o1 o2 s1 s2
      · exact (hid i x hi e1 o1 a s1).2.2 (.inl ⟨j, y, e2, o2, (σ_eq j hj).trans s2⟩)
    · rcases restS_get e2 with ⟨hj, e2⟩ | ⟨hj, e2⟩
      · exact (hid j y hj e2 o2 a s2).2.2 (.inl ⟨i, x, e1, o1, (σ_eq i hi).trans s1⟩)
      · exact h.ok.dist i j x y a hij e1 e2 o1 o2 ((σ_eq i hi).trans s1) ((σ_eq j hj).trans s2)
  · have e1 : c.S.st[j]? = some o := e1
    have z := h.ok.st j o a e1 e2
    cases o <;> exact z
  · rcases h.st.new b e with z | z | z
    · exact .inl z
    · exact .inr (.inl z)
    · exact .inr (.inr (mut_wipe z))
  · cases ea
    refine ⟨fun ⟨i, x, e, o, s⟩ => ?_, .inl hd0⟩
    have s : c1.σ[i]? = some (some (V.ref d)) := s
    rcases restS_get e with ⟨hi, e⟩ | ⟨hi, e⟩
    · obtain ⟨v, e1, e2⟩ := k1.sl i x e
      rw [s] at e1; cases e1
      obtain ⟨_, ee, _, _, u, hu, _⟩ := e2.at o
      cases ee
      rw [hd0] at hu; cases hu
    · exact h.nm (.inl ⟨i, x, e, o, (σ_eq i hi).trans s⟩)
/-- the reading of a comprehension -/
theorem dc_read {m : M (List D)} {vs ix : List Nat} {a : AS} {t : M Bool} {kx e : M D} (hix : ∀ i ∈ ix, i ∈ vs) {σ : L2.St} {H : Hp} {Q : VK} (o : tO n W (dcM m vs a t kx e) σ H Q) : tDc (tI n W m) (tG n ix a) (tT n WF t) (tX n WF kx) (tX n WF e) vs σ H Q := by
  obtain ⟨c, rfl, rfl, k, o⟩ := o
  refine ⟨c, rfl, rfl, k, ?_⟩
  unfold dcM at o
  cases q : m c.S with
  | bad => rw [q] at o; exact o
  | exc C fs S1 => rw [q] at o; exact o
  | ok ds S1 =>
    rw [q] at o
    dsimp only at o
    intro J c1 h1 h2 s1 k1 w1 D hD
    cases q1 : dcB vs a t kx e ds [] (wipeS S1 vs) with
    | bad => rw [q1] at o; exact o.elim
    | exc C fs S2 => rw [q1] at o; exact o.elim
    | ok ys0 S2 =>
      rw [q1] at o
      dsimp only at o
      -- the first configuration
      have kw := k1.wipe (n := n) vs
      obtain ⟨ka, sa, na, nf, no⟩ := kw.alloc (o := .dK []) (show (c1.wipe vs).H D = none from hD)
      have I0 : DcI n c1 vs D [] { c1.wipe vs with H := upd c1.H D (.dK []) } := ⟨ka, sa, wipe_wipe vs, ⟨[], upd_same, .nil⟩, nf, fun mm => by
        rcases mm with mm | mm
        · exact no mm
        · exact na mm⟩
      refine ⟨fun i m H => m = ds.length - i ∧ i ≤ ds.length ∧ ∃ (c2 : Cf) (acc : List (Bv.D × Bv.D)), c2.H = H ∧ DcI n c1 vs D acc c2 ∧ dcB vs a t kx e (ds.drop i) acc c2.S = .ok ys0 S2, ⟨ds.length, by simp, Nat.zero_le _, _, _, rfl, I0, by rw [List.drop_zero, ← q1, ← h1]; rfl⟩, ?_⟩
      rintro i m H ⟨rfl, hi, c2, acc, rfl, I2, e2⟩
      have I2w : DcI n c1 vs D acc (c2.wipe vs) := I2.step (Stp.wiped vs) (I2.ok.wipe vs) ((wipe_wipe vs).trans I2.sg)
      have fw : ∀ {c3 : Cf}, DcI n c1 vs D acc c3 → Fwd c1 c3 := fun I => ⟨I.st.F, I.st.φ⟩
      by_cases hlt : i < ds.length
      · refine .inr ⟨w1.go i c2 hlt I2.ok (fw I2), fun H' => ∃ (c4 : Cf) (acc' : List (Bv.D × Bv.D)), c4.H = H' ∧ DcI n c1 vs D acc' c4 ∧ dcB vs a t kx e (ds.drop (i + 1)) acc' c4.S = .ok ys0 S2, fun H' hN => ⟨ds.length - (i + 1), by omega, rfl, hlt, hN⟩, fun x H' y => ?_⟩
        obtain ⟨c3, d, f1, f2, rfl, s3, k3, f4, f5⟩ := w1.yld i (c2.wipe vs) x H' hlt I2w.ok (fw I2w) y
        have hd : ds.drop i = d :: ds.drop (i + 1) := by
          rw [List.getElem?_eq_getElem hlt] at f4
          rw [List.drop_eq_getElem_cons hlt]
          rw [Option.some.inj f4]
        rw [hd] at e2
        unfold dcB at e2
        have f1 : c3.S = wipeS c2.S vs := f1
        have f2 : c3.σ = L2.wipe c2.σ vs := f2
        have I3 : DcI n c1 vs D acc c3 := I2w.step s3 k3 (by rw [f2, wipe_wipe, I2.sg])
        rw [← f1] at e2
        cases q3 : a (.sh d) c3.S with
        | none => rw [q3] at e2; cases e2
        | some S3 =>
          rw [q3] at e2
          dsimp only at e2
          have eσ : c3.σ = L2.wipe c.σ vs := by rw [f2, I2.sg, h2]
          refine ⟨c3, c3, .sh d, eσ, rfl, Stp.refl c3, k3, ⟨OIs.sh f5, fun z => by cases z⟩, S3, q3, fun c4 g1 s4 k4 g4 => ?_⟩
          have w4 : L2.wipe c4.σ vs = L2.wipe c3.σ vs := wipe_agr g4 hix
          have w4' : L2.wipe c4.σ vs = L2.wipe c.σ vs := by rw [w4, eσ, wipe_wipe]
          have I4 : DcI n c1 vs D acc c4 := I3.step s4 k4 (by rw [w4', h2])
          refine ⟨w4', c4, rfl, rfl, k4, ?_⟩
          rw [g1]
          cases q4 : t S3 with
          | bad => rw [q4] at e2; cases e2
          | exc C fs S4 => rw [q4] at e2; cases e2
          | ok b S4 =>
            rw [q4] at e2
            intro v c5 g5 g6 s5 k5 g7
            have g7 : v = b := g7
            subst g7
            have I5 : DcI n c1 vs D acc c5 := I4.step s5 k5 (by rw [g6, w4', h2])
            cases v with
            | false =>
              dsimp only at e2
              exact iteF ⟨c5, acc, rfl, I5, by rw [g5]; exact e2⟩
            | true =>
              dsimp only at e2
              refine iteT ⟨c5, g6, rfl, k5, ?_⟩
              rw [g5]
              cases q5 : kx S4 with
              | bad => rw [q5] at e2; cases e2
              | exc C fs S5 => rw [q5] at e2; cases e2
              | ok kd5 S5 =>
                rw [q5] at e2
                dsimp only at e2
                intro y c6 j1 j2 s6 k6 j3
                have I6 : DcI n c1 vs D acc c6 := I5.step s6 k6 (by rw [j2, g6, w4', h2])
                refine ⟨c6, j2.trans g6, rfl, k6, ?_⟩
                rw [j1]
                cases q6 : e S5 with
                | bad => rw [q6] at e2; cases e2
                | exc C fs S6 => rw [q6] at e2; cases e2
                | ok y5 S6 =>
                  rw [q6] at e2
                  dsimp only at e2
                  intro v c7 l1 l2 s7 k7 l3
                  have I7 : DcI n c1 vs D acc c7 := I6.step s7 k7 (by rw [l2, j2, g6, w4', h2])
                  obtain ⟨zs, z1, z2⟩ := I7.hd
                  cases q7 : keyOf kd5 with
                  | none => rw [q7] at e2; cases e2
                  | some kk =>
                    rw [q7] at e2
                    dsimp only at e2
                    split at e2
                    · rename_i hz
                      have j4 : Is n c7.F c7.φ y kd5 := s7.is j3
                      exact ⟨zs, kk, key_is j4 q7, z1, by rw [z2.length, lineN_eq]; exact hz, { c7 with H := upd c7.H D (.dK (putK zs kk v)) }, putQ acc kk kd5 y5, rfl, I7.grow q7 hD l3 z1, by rw [← e2, ← l1]⟩
                    · cases e2
      · have e : i = ds.length := by omega
        subst e
        rw [List.drop_length] at e2
        unfold dcB at e2
        have ea : acc = ys0 := by injection e2
        have es : c2.S = S2 := by injection e2
        subst ea es
        obtain ⟨kr, sr, rr⟩ := I2.rest k1 hD
        refine .inl ⟨w1.stop c2 I2.ok (fw I2), ?_⟩
        have z := o.later trO s1 h2
        exact z (.ref D) { c2 with S := restS c1.S c2.S vs, σ := c1.σ } (by rw [h1]) rfl sr kr rr

/-- a dict of a comprehension, stored under a name at once -/
theorem ps_setDc {i : Nat} {y : Str} {py : Pos} {kx vx tg iter : Expr} {ifs : List Expr} {scope : Scope} {own : List (Str × Nat)} {pos spos : Pos} {wi : TI} {g : TG} {tt : TT} {tk tv : TE} (hc : X.calm = true) (hN : X.N.Nodup) (hy : X.N[i]? = some y) (hyl : X.env.scope.names.lookup y = some .local)
    (hsw : swapsWith (.DictComp kx vx [⟨tg, iter, ifs, 0⟩] scope pos) (some (.Name y py)) spos.line X.env = pure true) (hi : PI X tg iter wi) (ok : BlkOk X.N X.env.scope scope own)
    (hg : ∀ (s : Shared) (H : Hp) (C : Addr) (cl : List (Str × Addr)) (fp : List Addr), PG (X.blk s H scope (compEnvC scope cl C X.env) fp) tg g)
    (ht : ∀ (s : Shared) (H : Hp) (C : Addr) (cl : List (Str × Addr)) (fp : List Addr), PTs (X.blk s H scope (compEnvC scope cl C X.env) fp) ifs tt)
    (hk : ∀ (s : Shared) (H : Hp) (C : Addr) (cl : List (Str × Addr)) (fp : List Addr), PE (X.blk s H scope (compEnvC scope cl C X.env) fp) kx tk)
    (he : ∀ (s : Shared) (H : Hp) (C : Addr) (cl : List (Str × Addr)) (fp : List Addr), PE (X.blk s H scope (compEnvC scope cl C X.env) fp) vx tv) (hs : ∀ x, foldedSetIterable iter X.env x = pure x) :
    PS X (.Assign [.Name y py] (.DictComp kx vx [⟨tg, iter, ifs, 0⟩] scope pos) spos) (tAsg (tDc wi g tt tk tv (own.map (·.2))) (gName i)) := by
  constructor
  intro pins s σ H D I hDc
  rw [exec_Assign_Name_used _ _ _ _ hsw]; refine wpAny_bind (wpAny_standAt (wpAny_bind ?_))
  show wpAny _ X.A (do let _ ← comprehension (.DictComp kx vx [⟨tg, iter, ifs, 0⟩] scope pos) scope X.env (firstIterPos [⟨tg, iter, ifs, 0⟩] pos) newDict false (eval iter X.env) (some (assign (.Name y py) X.env))) _ _ s
  have hDc : tDc wi g tt tk tv (own.map (·.2)) σ H (fun x H1 => gName i x σ H1 D.nx) := hDc
  refine wpAny_bind (thn (dc_core (Qf := fun _ s1 => SP X pins D .next s1) hc hN I hi ok hg ht hk he hs hDc fun P C s1 m H1 I1 q hn ff => ?_) fun _ s1 hq => wpAny_pure (wpAny_pure hq))
  show wpAny _ _ (assign (.Name y py) X.env (.ref P)) _ _ _
  refine wpAny_assign_Name (store_ok2 (v := V.ref P) I1 hN hy (.inl hyl) rfl (fun s2 I2 ⟨a, sb, ha⟩ => ?_) (.inr hyl))
  obtain ⟨z0, z1, z2, z3, z4, z5⟩ := ff
  have hCa : C ≠ a := ha.elim (fun z => by rw [z]; exact z1) (fun z e => z4 y a z e.symm)
  exact ⟨m, hn.sameBut sb hCa, fun h3 sb3 => ⟨_, H1, I2.turned (t' := s2.toks) (fun b o hb e => (sb3.2 b hb).trans e) z0 z1 z3 z4 z5, q⟩⟩
section
variable {kx vx tg iter : Expr} {ifs : List Expr} {scope : Scope} {own : List (Str × Nat)} {pos : Pos} {m : M (List D)} {a : AS} {ix : List Nat} {t : M Bool} {k e : M D}
theorem be_dc (hc : X.calm = true) (hN : X.N.Nodup) (hi : PI X tg iter (tI n W m)) (ok : BlkOk X.N X.env.scope scope own) (hix : ∀ i ∈ ix, i ∈ own.map (·.2))
    (hg : ∀ (s : Shared) (H : Hp) (C : Addr) (cl : List (Str × Addr)) (fp : List Addr), PG (X.blk s H scope (compEnvC scope cl C X.env) fp) tg (tG n ix a))
    (ht : ∀ (s : Shared) (H : Hp) (C : Addr) (cl : List (Str × Addr)) (fp : List Addr), PTs (X.blk s H scope (compEnvC scope cl C X.env) fp) ifs (tT n WF t))
    (hk : ∀ (s : Shared) (H : Hp) (C : Addr) (cl : List (Str × Addr)) (fp : List Addr), PE (X.blk s H scope (compEnvC scope cl C X.env) fp) kx (tX n WF k))
    (he : ∀ (s : Shared) (H : Hp) (C : Addr) (cl : List (Str × Addr)) (fp : List Addr), PE (X.blk s H scope (compEnvC scope cl C X.env) fp) vx (tX n WF e)) (hs : ∀ x, foldedSetIterable iter X.env x = pure x) :
    PE X (.DictComp kx vx [⟨tg, iter, ifs, 0⟩] scope pos) (tO n W (dcM m (own.map (·.2)) a t k e)) := (pe_dc hc hN hi ok hg ht hk he hs).imp fun _ _ _ o => dc_read hix o
theorem bs_setDc {fb : Bool} {i : Nat} {y : Str} {py spos : Pos} (hc : X.calm = true) (hN : X.N.Nodup) (hy : X.N[i]? = some y) (hyl : X.env.scope.names.lookup y = some .local)
    (hsw : swapsWith (.DictComp kx vx [⟨tg, iter, ifs, 0⟩] scope pos) (some (.Name y py)) spos.line X.env = pure true) (hi : PI X tg iter (tI n W m)) (ok : BlkOk X.N X.env.scope scope own) (hix : ∀ i ∈ ix, i ∈ own.map (·.2))
    (hg : ∀ (s : Shared) (H : Hp) (C : Addr) (cl : List (Str × Addr)) (fp : List Addr), PG (X.blk s H scope (compEnvC scope cl C X.env) fp) tg (tG n ix a))
    (ht : ∀ (s : Shared) (H : Hp) (C : Addr) (cl : List (Str × Addr)) (fp : List Addr), PTs (X.blk s H scope (compEnvC scope cl C X.env) fp) ifs (tT n WF t))
    (hk : ∀ (s : Shared) (H : Hp) (C : Addr) (cl : List (Str × Addr)) (fp : List Addr), PE (X.blk s H scope (compEnvC scope cl C X.env) fp) kx (tX n WF k))
    (he : ∀ (s : Shared) (H : Hp) (C : Addr) (cl : List (Str × Addr)) (fp : List Addr), PE (X.blk s H scope (compEnvC scope cl C X.env) fp) vx (tX n WF e)) (hs : ∀ x, foldedSetIterable iter X.env x = pure x) :
    PS X (.Assign [.Name y py] (.DictComp kx vx [⟨tg, iter, ifs, 0⟩] scope pos) spos) (tS n W (agS (fzM fb (dcM m (own.map (·.2)) a t k e)) (asN i))) := (ps_setDc hc hN hy hyl hsw hi ok hg ht hk he hs).imp fun E σ H ⟨c, e1, e2, k, o⟩ => by
  subst e1 e2
  have z : tO n W (fzM fb (dcM m (own.map (·.2)) a t _ e)) c.σ c.H (fun v H' => gName i v c.σ H' E.nx) := ⟨c, rfl, rfl, k, Out.imp (o.asg (ix := [i])) fun v H' q => by
    obtain ⟨c0, c1, l, h1, h2, s, k1, r, S', h3, q⟩ := q
    cases h3
    obtain ⟨k2, s2⟩ := k1.put (i := i) s r
    have z := q { c1 with S := { c1.S with sl := c1.S.sl.set i (some l) }, σ := c1.σ.set i (some v) } rfl s2 k2 ⟨List.length_set, fun j hj => List.getElem?_set_ne (fun z => hj (by simp [z]))⟩
    show E.nx (c.σ.set i (some v)) H'
    rw [← h1, ← h2]
    exact z⟩
  exact dc_read hix (fz_ok z)
end

/-! ### in -/
def rDIn (neg : Bool) : R2 := fun y x H Q => ∃ (a : Addr) (o : Option V), x = .ref a ∧ DGet H a y o ∧ Q (.bl (if neg then !o.isSome else o.isSome)) H
theorem op_dIn (hu : X.A.units + 65 < cLine) : OpR X (compareOp .In) (rDIn false) := by
  intro pins s σ H x y v u Q I rx ry h
  obtain ⟨a, o, rfl, g, q⟩ := h
  obtain rfl : u = Value.ref a := ry
  exact d_in (by omega) I g rx fun s3 I3 => ⟨.bl _, H, I3, rfl, q⟩
theorem op_dNotIn (hu : X.A.units + 65 < cLine) : OpR X (compareOp .NotIn) (rDIn true) := by
  intro pins s σ H x y v u Q I rx ry h
  obtain ⟨a, o, rfl, g, q⟩ := h
  obtain rfl : u = Value.ref a := ry
  exact d_notIn (by omega) I g rx fun s3 I3 => ⟨.bl _, H, I3, rfl, q⟩
/-- no tuple among the keys -/
def plainK (kvs : List (D × D)) : Bool := kvs.all fun kv => (keyOf kv.1).isSome
theorem plainK_T {F : Hp} {φ : List Addr} {vs : List (List Key × V)} {ds : List (D × D)} (h : IsKT n F φ vs ds) : plainK ds = false := by
  have key : ∀ {kd : D} {k : List Key}, tkeyOf kd = some k → (keyOf kd).isSome = false := fun {kd k} e => by
    cases kd <;> first | rfl | cases e
  cases h with
  | one hk h => unfold plainK; rw [List.all_cons, key hk]; rfl
  | cons hk h t => unfold plainK; rw [List.all_cons, key hk]; rfl
def gInD (neg : Bool) (d : D) (kvs : List (D × D)) : M L := match keyOf d with
  | some k => if plainK kvs then pure (.sh (.bl (if neg then !(valQ kvs k).isSome else (valQ kvs k).isSome))) else bad
  | none => bad
def gIn2 (neg : Bool) (d e : D) : M L := match e with
  | .dic kvs => gInD neg d kvs
  | e => gIn neg d e
theorem ops_in2 (neg : Bool) : OpS n W (fun x y H Q => rInA n.K neg x y H Q ∨ rDIn neg x y H Q) (gIn2 neg) := fun c x y d e Q k hi hj o => by
  by_cases hd : ∃ kvs, e = .dic kvs
  · obtain ⟨kvs, rfl⟩ := hd
    right
    have o : Out n W (RV n) c (gInD neg d kvs c.S) Q := o
    unfold gInD at o
    cases hk : keyOf d with
    | none => rw [hk] at o; exact o.not_bad
    | some key =>
      rw [hk] at o
      dsimp only at o
      by_cases hp : plainK kvs = true
      · rw [if_pos hp] at o
        cases hj with
        | dicK h t =>
          have hy := key_is hi hk
          refine ⟨_, _, rfl, .inl ⟨_, key, .inl (k.sub _ _ h), hy, rfl⟩, ?_⟩
          rcases t.val (k := key) with ⟨z1, z2⟩ | ⟨v, d', z1, z2, _⟩
          · rw [z2]; rw [z1] at o; exact o.sh k (.bl _)
          · rw [z2]; rw [z1] at o; exact o.sh k (.bl _)
        | dicT h t => rw [plainK_T t] at hp; cases hp
      · rw [if_neg hp] at o; exact o.not_bad
  · left
    have e2 : gIn2 neg d e = gIn neg d e := by
      unfold gIn2
      split
      · rename_i kvs; exact absurd ⟨kvs, rfl⟩ hd
      · rfl
    rw [e2] at o
    exact ops_in neg c x y d e Q k hi hj o
/-! ### in a list of one's own -/
def inL (neg : Bool) (d : D) (l : L) : M L := match l with
  | .sh e => gIn2 neg d e
  | .ol ds => gIn neg d (.lst ds)
  | _ => bad
theorem ops_inO (neg : Bool) {c : Cf} {x y : V} {d : D} {l : L} {Q : VK} (k : Ok n c) (hi : Is n c.F c.φ x d) (hj : OIs n c y l) (o : Out n W (RV n) c (inL neg d l c.S) Q) : rInA n.K neg x y c.H Q ∨ rDIn neg x y c.H Q := by
  cases l with
  | sh e => exact ops_in2 neg c x y d e Q k hi hj o
  | ol ds =>
    have o : Out n W (RV n) c (gIn neg d (.lst ds) c.S) Q := o
    obtain ⟨a, vs, rfl, h1, _, _, h2⟩ := hj
    left
    unfold gIn at o
    cases hb : inD d (.lst ds) with
    | none => rw [hb] at o; exact o.not_bad
    | some b =>
      rw [hb] at o
      have hb2 : (match d.py, pyL ds with | some p, some qs => if SeqAt.shaped p && SeqAt.shaped (.list qs) then some (qs.any fun z => PyData.eqv z p) else none | _, _ => none) = some b := hb
      split at hb2
      · rename_i p qs g1 g2
        split at hb2
        · rename_i h3
          rw [Bool.and_eq_true] at h3
          cases hb2
          refine .inl ?_
          cases neg with
          | true => exact ⟨p, qs, hi.dp k.sub g1, .lst (.of h1) (h2.dp k.sub g2), h3.1, h3.2, o.sh k (.bl _)⟩
          | false => exact ⟨p, qs, hi.dp k.sub g1, .lst (.of h1) (h2.dp k.sub g2), h3.1, h3.2, o.sh k (.bl _)⟩
        · cases hb2
      · cases hb2
  | _ => exact o.not_bad
def inN (fa : M D) (i : Nat) (neg : Bool) : M L := do
  let d ← fa
  let l ← slN i
  inL neg d l
section
variable {a : Expr} {fa : M D} {pos p : Pos} {x : Str} {i : Nat} {op : CmpOp} {neg : Bool}
theorem be_inN (ho : OpR X (compareOp op) (fun x y H Q => rInA n.K neg x y H Q ∨ rDIn neg x y H Q)) (hN : X.N[i]? = some x) (hv : Vis X.env.scope x) (hd : (x == ("__debug__" : Str)) = false) (hcd : (x == ("__classdict__" : Str)) = false) (ha : PE X a (tX n W fa)) (hm : behindInMarks op (.Name x p) = false) :
    PE X (.Compare a [op] [.Name x p] pos) (tO n W (inN fa i neg)) :=
  (pe_cmpR ho ha (pe_var hN hv hd hcd) hm).imp fun σ H Q ⟨c, e1, e2, k, o⟩ => by
    subst e1 e2
    refine ⟨c, rfl, rfl, k, Out.bind (P1 := PX n) trO o fun x c1 d e1 s1 k1 i1 o1 => ?_⟩
    obtain ⟨l, v, h1, h2, h3, o2⟩ := slN_some o1 k1
    rw [e1] at h2
    exact ⟨v, h2, ops_inO neg k1 i1 h3 o2⟩
theorem bt_inN (ho : OpR X (compareOp op) (fun x y H Q => rInA n.K neg x y H Q ∨ rDIn neg x y H Q)) (hN : X.N[i]? = some x) (hv : Vis X.env.scope x) (hd : (x == ("__debug__" : Str)) = false) (hcd : (x == ("__classdict__" : Str)) = false) (ha : PE X a (tX n W fa)) (hm : behindInMarks op (.Name x p) = false) :
    PT X (.Compare a [op] [.Name x p] pos) (tT n W (blT (inN fa i neg))) :=
  (pt_cmpR ho ha (pe_var hN hv hd hcd) hm).imp fun σ H Q ⟨c, e1, e2, k, o⟩ => by
    subst e1 e2
    have o := Out.isBl (n := n) o
    refine ⟨c, rfl, rfl, k, Out.bind (P1 := PX n) trO o fun x c1 d e1 s1 k1 i1 o1 => ?_⟩
    obtain ⟨l, v, h1, h2, h3, o2⟩ := slN_some o1 k1
    rw [e1] at h2
    exact ⟨v, h2, ops_inO neg k1 i1 h3 o2⟩
end
/-! ### sorted -/
def intOf : D → Option Int
  | .int i => some i
  | _ => none
def keysI : List (D × D) → Option (List Int)
  | [] => some []
  | p :: r => match intOf p.1, keysI r with
    | some i, some ks => some (i :: ks)
    | _, _ => none
theorem keysI_ok {F : Hp} {φ : List Addr} : ∀ {vs : List (Key × V)} {ds : List (D × D)} {ks : List Int}, IsK n F φ vs ds → keysI ds = some ks → vs.map (·.1) = ks.map Sum.inl
  | _, _, _, .nil, h => by cases h; rfl
  | _, _, _, .cons (kd := kd) (ds := ds) hk h t, e => by
    unfold keysI at e
    cases kd with
    | int i =>
      cases q : keysI ds with
      | none => rw [q] at e; cases e
      | some ks =>
        rw [q] at e; cases e
        have hk : some (Sum.inl i) = some _ := hk
        cases hk
        rw [List.map_cons, List.map_cons, keysI_ok t q]
    | _ => cases e
theorem keysI_plain : ∀ {ds : List (D × D)} {ks : List Int}, keysI ds = some ks → plainK ds = true
  | [], _, _ => rfl
  | (kd, d) :: ds, ks, e => by
    unfold keysI at e
    cases kd with
    | int i =>
      cases q : keysI ds with
      | none => rw [q] at e; cases e
      | some ks =>
        have := keysI_plain q
        unfold plainK at this ⊢
        rw [List.all_cons, this]
        rfl
    | _ => cases e
def sortW2 (l : L) : M L := match l.d with
  | .lst ds => (match intsOf ds with | some ns => pure (.ol ((sortI ns).map D.int)) | none => bad)
  | .dic kvs => (match keysI kvs with | some ns => if ns.length < 64 then pure (.ol ((sortI ns).map D.int)) else bad | none => bad)
  | _ => bad
theorem calls_sorted2 : CallW n W (fun xs H Q => rSortedI n.K xs H Q ∨ (∃ (a : Addr) (kvs : List (Key × V)) (ks : List Int), xs = [.ref a] ∧ Rd H a (.dK kvs) ∧ kvs.map (·.1) = ks.map Sum.inl ∧ ks.length < 64 ∧ ∀ (ys : List Int) (p : Addr), ys.Perm ks → ys.Pairwise (· ≤ ·) → H p = none → Q (.ref p) (upd H p (.lst (ys.map V.int))))) sortW2 := fun c x l Q k i o => by
  unfold sortW2 at o
  cases e : l.d with
  | lst ds =>
    rw [e] at o
    dsimp only at o
    cases q : intsOf ds with
    | some ns =>
      rw [q] at o
      obtain ⟨a, rfl, h⟩ := i.ints k e q
      exact .inl ⟨a, ns, rfl, h, fun ms p h1 h2 hp => by rw [sortI_is h1 h2]; exact o.newLst k (isL_ints _) hp⟩
    | none => rw [q] at o; exact o.not_bad
  | dic kvs =>
    rw [e] at o
    dsimp only at o
    cases q : keysI kvs with
    | some ns =>
      rw [q] at o
      dsimp only at o
      split at o
      · rename_i hz
        right
        obtain ⟨a, rfl, ⟨vs, h1, h2⟩ | ⟨vs, h1, h2⟩⟩ := i.dic k e
        · exact ⟨a, vs, ns, rfl, .inl h1, keysI_ok h2 q, hz, fun ms p h1 h2 hp => by rw [sortI_is h1 h2]; exact o.newLst k (isL_ints _) hp⟩
        · have := keysI_plain q
          rw [plainK_T h2] at this
          cases this
      · exact o.not_bad
    | none => rw [q] at o; exact o.not_bad
  | _ => rw [e] at o; exact o.not_bad
theorem be_dnew {pos : Pos} : PE X (.Dict [] [] pos) (tO n W (pure (.od []))) := pe_dnewK.imp fun σ H Q ⟨c, e1, e2, k, o⟩ => by
  subst e1 e2
  intro p hp
  obtain ⟨k2, s2, h1, h2, h3⟩ := k.alloc (o := .dK []) hp
  have o : Out n W (RV n) c (.ok (.od []) c.S) Q := o
  refine o.to (c' := { c with H := upd c.H p (.dK []) }) rfl rfl s2 k2 ⟨⟨p, rfl, h2, h1, .inl ⟨[], upd_same, .nil⟩⟩, fun _ a e => ?_⟩
  cases e
  exact ⟨fun ⟨j, y, a1, a2, a3⟩ => h3 ⟨j, y, a1, a2, a3⟩, .inl hp⟩
/-! ### sorted(e, reverse=True) -/
def sortR (l : L) : M L := match l.d with
  | .lst ds => (match intsOf ds with
    | some ns => pure (.ol ((sortI ns).reverse.map D.int))
    | none => bad)
  | _ => bad
theorem sort_down {ns ms : List Int} (h1 : ms.Perm ns) (h2 : ms.Pairwise (· ≥ ·)) : ms = (sortI ns).reverse := by
  rw [← sortI_is (ns := ns) (ms := ms.reverse) ((List.reverse_perm ms).trans h1) (by rw [List.pairwise_reverse]; exact h2), List.reverse_reverse]
theorem be_sortR {f : M L} {e : Expr} {p pos p2 kp : Pos} {j : Nat} (hg : Gl X "sorted") (hm : X.mg "sorted" = none) (hK : X.K = n.K) (ha : PE X e (tW n W f)) (he : starEach (e :: []) X.env = (false, eval e X.env) :: starEach [] X.env) :
    PE X (.Call (.Name "sorted" p) [e] [⟨some "reverse", .Constant (.bool true) j p2, kp⟩] pos) (tO n W (thM f sortR)) :=
  (pe_callBK (cr_sortedRev (b := true)) hg hm boot_sorted (pa_cons ha pa_nil he) (pk_cons pe_bl pk_nil) (by decide) (by decide) (by rw [he]; rfl) (by rw [he]; rfl)).imp fun σ H Q ⟨c, e1, e2, k, o⟩ => by
    subst e1 e2
    refine ⟨c, rfl, rfl, k, Out.bind (P1 := PB n) trO o fun x c1 l e1 s1 k1 i1 o1 => ?_⟩
    unfold sortR at o1
    cases q0 : l.d with
    | lst ds =>
      rw [q0] at o1
      dsimp only at o1
      cases q : intsOf ds with
      | some ns =>
        rw [q] at o1
        obtain ⟨a, rfl, h⟩ := (show OIs n c1 x l from i1).ints k1 q0 q
        refine ⟨a, ns, rfl, rfl, by rw [hK]; exact h, fun ms p h1 h2 hp => ?_⟩
        rw [sort_down h1 h2]
        exact o1.newLst k1 (isL_ints _) hp
      | none => rw [q] at o1; exact o1.not_bad
    | _ => rw [q0] at o1; exact o1.not_bad
end Bv

/-! the interpreter by value -/
namespace Bv
open PySem PySem.Spec PyProof.Rows L2
/-- a block as it is written -/
structure Ct where
  N : List Str
  sc : Scope
  fn : Str → Bool
  mu : Str → Bool
/-- what is known of the text's names -/
structure Tb where
  fn : Str → Option (Nat × FnS)
  cl : Str → Option (Nat × FnI)
  ty : Str → Bool
  isi : List Str → Ty → Option Bool
  fld : Str → Bool
  gcd : Bool
  turns : Nat
inductive Bi where
  | len | int | abs | sum | max | min | any | all | sorted | tuple | list | isin
def biTab : List (Str × Bi) := [("len", .len), ("int", .int), ("abs", .abs), ("sum", .sum), ("max", .max), ("min", .min), ("any", .any), ("all", .all), ("sorted", .sorted), ("tuple", .tuple), ("list", .list), ("isinstance", .isin)]
def Ct.gl (ct : Ct) (x : Str) : Bool := match ct.sc.names.lookup x with
  | some .globalImplicit => true
  | _ => false
def Ct.vis (ct : Ct) (x : Str) : Bool := match ct.sc.names.lookup x with
  | some .local => true
  | some .cell => true
  | some .free => true
  | _ => false
def Ct.lo (ct : Ct) (x : Str) : Bool := match ct.sc.names.lookup x with
  | some .local => true
  | _ => false
def Ct.ce (ct : Ct) (x : Str) : Bool := match ct.sc.names.lookup x with
  | some .cell => true
  | _ => false
def ixIn : List Str → Str → Option Nat
  | [], _ => none
  | y :: ys, x => if y = x then some 0 else (ixIn ys x).map (· + 1)
def Ct.ix (ct : Ct) (x : Str) : Option Nat := if ct.vis x then ixIn ct.N x else none
/-- a place to store -/
def Ct.tg (ct : Ct) (x : Str) : Option Nat := if ct.lo x || (ct.ce x && ct.fn x) then ixIn ct.N x else none
def Ct.blk (ct : Ct) (scope : Scope) : Ct := ⟨ct.N, relS scope ct.sc, fun x => scope.names.lookup x == some .cell, ct.mu⟩
def Ct.env (ct : Ct) : Env := { scope := ct.sc, locals := 0, globals := 0, cells := [] }
def ownOf (ct : Ct) (scope : Scope) : List (Str × Nat) := scope.names.filterMap fun y => match y.2 with
  | .local => (ixIn ct.N y.1).map fun i => (y.1, i)
  | .cell => (ixIn ct.N y.1).map fun i => (y.1, i)
  | _ => none
/-! forms -/
def isStar : Expr → Bool
  | .Starred .. => true
  | _ => false
def isSet : Expr → Bool
  | .Set .. => true
  | _ => false
def isSlice : Expr → Bool
  | .Slice .. => true
  | _ => false
def isCmp : Expr → Bool
  | .ListComp .. => true
  | .SetComp .. => true
  | .DictComp .. => true
  | _ => false
def noArgs : Expr → Bool
  | .Call _ [] _ _ => true
  | _ => false
def swp (ct : Ct) (tgs : List Expr) (e : Expr) (line : Nat) : Option Bool := match swapsWithSole tgs e line ct.env with
  | .pure b => some b
  | _ => none
def sws (ct : Ct) (tgs : List Expr) (e : Expr) : Option (Option (List Str)) := match swappedStores tgs e ct.env with
  | .pure b => some b
  | _ => none
section
variable (T : Tb) (ct : Ct) (r : Ct → Expr → M L) (t : Ct → Expr → M Bool)
def nmX (x : Str) : M D := match ct.ix x with
  | some i => escN i
  | none => bad
def nmW (x : Str) : M L := match ct.ix x with
  | some i => slN i
  | none => bad
def cnX : Const → M D
  | .int z => pure (.int z)
  | .bool b => pure (.bl b)
  | .none => pure .non
  | .str z => pure (.str z)
  | _ => bad
def aX (e : Expr) : M D := match e with
  | .Name x _ => nmX ct x
  | .Constant c _ _ => cnX c
  | e => dM (r ct e)
def aW (e : Expr) : M L := match e with
  | .Name x _ => nmW ct x
  | e => r ct e
def aL : List Expr → M (List D)
  | [] => nilM
  | e :: es => if isStar e then bad else consM (aX ct r e) (aL es)
def opB : Operator → D → D → M L
  | .Add => gAdd
  | .Sub => gSub
  | .Mult => gMul
  | .FloorDiv => gFdv
  | .Mod => gMod
  | .Pow => gPow
  | _ => fun _ _ => bad
def gLt : D → D → M L := gCmp fun i j => decide (i < j)
def gLe : D → D → M L := gCmp fun i j => decide (i ≤ j)
def gGt : D → D → M L := gCmp fun i j => decide (j < i)
def gGe : D → D → M L := gCmp fun i j => decide (j ≤ i)
def opC : CmpOp → D → D → M L
  | .Eq => gEq
  | .NotEq => gNe
  | .Lt => gLt
  | .LtE => gLe
  | .Gt => gGt
  | .GtE => gGe
  | .Is => gIs false
  | .IsNot => gIs true
  | .In => gIn2 false
  | .NotIn => gIn2 true
def boE (op : BoolOp) : List Expr → M L
  | [] => bad
  | [a] => r ct a
  | a :: b :: es => match op with
    | .And => andM (aX ct r a) (boE op (b :: es))
    | .Or => orM (aX ct r a) (boE op (b :: es))
def inIx (op : CmpOp) (b : Expr) : Option (Bool × Nat) := match op, b with
  | .In, .Name x _ => if ct.mu x then (ct.ix x).map fun i => (false, i) else none
  | .NotIn, .Name x _ => if ct.mu x then (ct.ix x).map fun i => (true, i) else none
  | _, _ => none
def cmE (a : Expr) : List CmpOp → List Expr → M L
  | [op], [b] => if behindInMarks op b then bad else match inIx ct op b with
    | some p => inN (aX ct r a) p.2 p.1
    | none => bin2 (aX ct r a) (aX ct r b) (opC op)
  | [op, op'], [b, c] => if lastMarks [op, op'] [b, c] then bad else chM (aX ct r a) (aX ct r b) (aX ct r c) (opC op) (opC op')
  | _, _ => bad
def aP : Option Expr → M (Option Int)
  | none => noP
  | some e => soP (aX ct r e)
def suE (a b : Expr) : M L := match b with
  | .Slice lo hi none _ => (match a with
    | .Name x _ => (match ct.ix x with
      | some i => slNM i (aP ct r lo) (aP ct r hi)
      | none => bad)
    | a => slM (aX ct r a) (aP ct r lo) (aP ct r hi))
  | .Constant (.str z) _ _ => (match a with
    | .Name x _ => (match ct.ix x with
      | some i => dgN i z
      | none => bad)
    | _ => bad)
  | b => if isSlice b then bad else match a with
    | .Name x _ => (match ct.ix x with
      | some i => ixNM i (aX ct r b)
      | none => bad)
    | a => ixM (aX ct r a) (aX ct r b)
/-- keys that are texts -/
def kyE : List (Option Expr) → Option (List (Str × Nat × Pos))
  | [] => some []
  | some (.Constant (.str z) j p) :: ks => (kyE ks).map ((z, j, p) :: ·)
  | _ => none
def diE (keys : List (Option Expr)) (es : List Expr) : M L := match kyE keys with
  | some ks => if decide (ks.length = es.length) && decide ((ks.map (·.1)).Nodup) && decide (ks ≠ []) && decide (ks.length ≤ 15) then ddM (ks.map (·.1)) (lsM (aX ct r) es) else bad
  | none => bad
def tyNames : List Expr → Option (List Str)
  | [] => some []
  | .Name c _ :: es => if ct.gl c && T.ty c then (tyNames es).map (c :: ·) else none
  | _ => none
def isE (e c : Expr) : M L := match c with
  | .Name x _ => if ct.gl x && T.ty x then thM (aW ct r e) (isiW (T.isi [x])) else bad
  | .Tuple cs _ _ => (match tyNames T ct cs with
    | some xs => if xs.length ≤ lineN then thM (aW ct r e) (isiW (T.isi xs)) else bad
    | none => bad)
  | _ => bad
def rgA (e : Expr) : Option Expr := match e with
  | .Call (.Name x _) [a] [] _ => if decide (x = "range") && ct.gl x && !isStar a then some a else none
  | _ => none
def rgA2 (e : Expr) : Option (Expr × Expr) := match e with
  | .Call (.Name x _) [a, b] [] _ => if decide (x = "range") && ct.gl x && !isStar a && !isStar b then some (a, b) else none
  | _ => none
def biE : Bi → List Expr → M L
  | .len, [e] => thM (aW ct r e) lenW
  | .int, [e] => thM (aW ct r e) intW
  | .abs, [e] => thM (aW ct r e) absW
  | .sum, [e] => thM (aW ct r e) sumW2
  | .max, [e] => thM (aW ct r e) (bestW2 maxI)
  | .min, [e] => thM (aW ct r e) (bestW2 minI)
  | .max, [a, b] => fnM (aL ct r [a, b]) gMax2
  | .min, [a, b] => fnM (aL ct r [a, b]) gMin2
  | .any, [e] => thM (aW ct r e) (boolsW fun bs => bs.any id)
  | .all, [e] => thM (aW ct r e) (boolsW fun bs => bs.all id)
  | .sorted, [e] => thM (aW ct r e) sortW2
  | .tuple, [e] => (match rgA ct e with
    | some a => rgOf (aX ct r a) fun ds => .sh (.tup ds)
    | none => (match rgA2 ct e with
      | some (a, b) => rgOf2 (aX ct r a) (aX ct r b) fun ds => .sh (.tup ds)
      | none => thM (aW ct r e) tupW))
  | .list, [e] => (match rgA ct e with
    | some a => rgOf (aX ct r a) fun ds => .ol ds
    | none => (match rgA2 ct e with
      | some (a, b) => rgOf2 (aX ct r a) (aX ct r b) fun ds => .ol ds
      | none => thM (aW ct r e) lstW))
  | .isin, [e, c] => isE T ct r e c
  | _, _ => bad
def isGcd (x : Str) : Bool := decide (x = "gcd")
inductive Me where
  | append | extend | index
def meTab : List (Str × Me) := [("append", .append), ("extend", .extend), ("index", .index)]
def isNm : Expr → Bool
  | .Name .. => true
  | _ => false
def meE (o : Expr) (m : Str) (e : Expr) : M L := match meTab.lookup m with
  | some .append => (match o with
    | .Name x _ => (match ct.ix x with
      | some i => appM i (aX ct r e)
      | none => bad)
    | _ => bad)
  | some .extend => (match o with
    | .Name x _ => (match ct.ix x with
      | some i => extM i (aX ct r e)
      | none => bad)
    | _ => bad)
  | some .index => if isNm o then idxM (aX ct r o) (aX ct r e) else bad
  | none => bad
def caE (f : Expr) (args : List Expr) (pos : Pos) : M L := match f, args with
  | .Name x _, e :: es => if ct.gl x && (e :: es).all (fun e => !isStar e) then (match biTab.lookup x with
    | some b => biE T ct r b (e :: es)
    | none => match T.fn x with
      | some (m, f) => fnM (aL ct r (e :: es)) (callN m f)
      | none => match T.cl x with
        | some (m, f) => fnM (aL ct r (e :: es)) (makeM x m f)
        | none => if T.gcd && isGcd x then fnM (aL ct r (e :: es)) gGcd else bad) else bad
  | .Attribute o m apos, [e] => if !isStar e && (apos.endLine == pos.line) then meE ct r o m e else bad
  | _, _ => bad
inductive Wl where
  | range | enum | zip
def wlTab : List (Str × Wl) := [("range", .range), ("enumerate", .enum), ("zip", .zip)]
def isTp : Expr → Bool
  | .Tuple .. => true
  | _ => false
def itE (tg e : Expr) : M (List D) := match e with
  | .Call (.Name x _) args [] _ => if ct.gl x && args.all (fun e => !isStar e) then (match wlTab.lookup x with
    | some .range => (match args with
      | [a] => rgM (aL ct r [a]) rg1W
      | [a, b] => rgM (aL ct r [a, b]) rg2W
      | _ => bad)
    | some .enum => (match args with
      | [a] => if isTp tg then rgM (aL ct r [a]) enW else bad
      | _ => bad)
    | some .zip => (match args with
      | [a, b] => if isTp tg then rgM (aL ct r [a, b]) zpW else bad
      | _ => bad)
    | none => itM (aX ct r e)) else itM (aX ct r e)
  | e => itM (aX ct r e)
def noAS : AS := fun _ _ => none
def agE : Nat → Ct → Expr → AS × List Nat
  | 0, _, _ => (noAS, [])
  | k + 1, ct, e => match e with
    | .Name x _ => (match ct.tg x with
      | some i => (asN i, [i])
      | none => (noAS, []))
    | .Tuple es _ _ => if es.all (fun e => !isStar e) then (asT (es.map fun e => (agE k ct e).1), (es.map fun e => (agE k ct e).2).flatten) else (noAS, [])
    | _ => (noAS, [])
def tsE : List Expr → M Bool
  | [] => yesM
  | [c] => t ct c
  | _ => fun _ => .bad
def lcE (elt tg iter : Expr) (ifs : List Expr) (scope : Scope) : M L :=
  if blkC ct.N ct.sc scope (ownOf ct scope) && !isSet iter && (agE 3 (ct.blk scope) tg).2.all (fun i => decide (i ∈ (ownOf ct scope).map (·.2))) then
    lcM (itE ct r tg iter) ((ownOf ct scope).map (·.2)) (agE 3 (ct.blk scope) tg).1 (tsE (ct.blk scope) t ifs) (aX (ct.blk scope) r elt)
  else bad
def dcE (kx vx tg iter : Expr) (ifs : List Expr) (scope : Scope) : M L :=
  if blkC ct.N ct.sc scope (ownOf ct scope) && !isSet iter && (agE 3 (ct.blk scope) tg).2.all (fun i => decide (i ∈ (ownOf ct scope).map (·.2))) then
    dcM (itE ct r tg iter) ((ownOf ct scope).map (·.2)) (agE 3 (ct.blk scope) tg).1 (tsE (ct.blk scope) t ifs) (aX (ct.blk scope) r kx) (aX (ct.blk scope) r vx)
  else bad
def atOk : Expr → Bool
  | .Name .. => true
  | .Attribute .. => true
  | .Subscript .. => true
  | .Call _ (_ :: _) _ _ => true
  | _ => false
def stE (e : Expr) : M L := match e with
  | .Name x _ => sM (nmX ct x)
  | .Constant c _ _ => sM (cnX c)
  | .BinOp a op b _ => bin2 (aX ct r a) (aX ct r b) (opB op)
  | .UnaryOp .USub a _ => negM (aX ct r a)
  | .UnaryOp .Not a _ => notM (aX ct r a)
  | .BoolOp op es _ => boE ct r op es
  | .Compare a ops es _ => cmE ct r a ops es
  | .IfExp c a b _ => ifM (t ct c) (r ct a) (r ct b)
  | .Tuple es _ _ => fnM (aL ct r es) gTup
  | .List es _ => fnM (aL ct r es) gLst
  | .Subscript a b _ => suE ct r a b
  | .Attribute a f _ => if T.fld f && atOk a then thM (aW ct r a) (fldW f) else bad
  | .Call f args [] pos => caE T ct r f args pos
  | .Call (.Name x _) [a] [⟨some y, .Constant (.bool true) _ _, _⟩] _ => if decide (x = "sorted") && decide (y = "reverse") && ct.gl x && !isStar a then thM (aW ct r a) sortR else bad
  | .ListComp elt [⟨tg, iter, ifs, 0⟩] scope _ => lcE ct r t elt tg iter ifs scope
  | .Dict [] [] _ => pure (.od [])
  | .Dict keys es _ => diE ct r keys es
  | .DictComp kx vx [⟨tg, iter, ifs, 0⟩] scope _ => dcE ct r t kx vx tg iter ifs scope
  | _ => bad
def boT (op : BoolOp) : List Expr → M Bool
  | [] => bad
  | [a] => t ct a
  | a :: b :: es => match op with
    | .And => andT (t ct a) (boT op (b :: es))
    | .Or => orT (t ct a) (boT op (b :: es))
def cmT (a : Expr) : List CmpOp → List Expr → M Bool
  | [op], [b] => if behindInMarks op b then bad else match inIx ct op b with
    | some p => blT (inN (aX ct r a) p.2 p.1)
    | none => cmpT (aX ct r a) (aX ct r b) (opC op)
  | [op, op'], [b, c] => if lastMarks [op, op'] [b, c] then bad else blT (chM (aX ct r a) (aX ct r b) (aX ct r c) (opC op) (opC op'))
  | _, _ => bad
def stT (e : Expr) : M Bool := match e with
  | .UnaryOp .Not a _ => notT (t ct a)
  | .BoolOp op es _ => boT ct t op es
  | .Compare a ops es _ => cmT ct r a ops es
  | .IfExp .. => bad
  | e => truT (aW ct r e)
end
/-- what is read by value, k deep -/
structure Iv where
  e : Ct → Expr → M L
  t : Ct → Expr → M Bool
def iv (T : Tb) : Nat → Iv
  | 0 => ⟨fun _ _ => bad, fun _ _ => bad⟩
  | k + 1 => ⟨fun ct e => stE T ct (iv T k).e (iv T k).t e, fun ct e => stT ct (iv T k).e (iv T k).t e⟩
/-! statements -/
def badS : MS := fun _ => .bad
section
variable (T : Tb) (ct : Ct) (v : Iv) (g : Stmt → MS)
def blS : List Stmt → MS
  | [] => nilS
  | s :: ss => seqS (g s) (blS ss)
def tgMu (tg : Expr) : Bool := match tg with
  | .Name x _ => ct.mu x
  | _ => true
def asE (tg e : Expr) (line : Nat) : MS := match tg with
  | .Attribute (.Name x _) f _ => (match swp ct [tg] e line, ct.ix x with
    | some false, some i => if T.fld f then stS i f (aX ct v.e e) else badS
    | _, _ => badS)
  | .Subscript (.Name x _) (.Constant (.str z) _ _) _ => (match swp ct [tg] e line, ct.ix x with
    | some false, some i => dpS i z (aX ct v.e e)
    | _, _ => badS)
  | tg => match swp ct [tg] e line with
    | some true => (match tg, e with
      | .Name y _, .ListComp elt [⟨tg, iter, ifs, 0⟩] scope _ => (match ct.lo y, ixIn ct.N y with
        | true, some i => if blkC ct.N ct.sc scope (ownOf ct scope) && !isSet iter && (agE 3 (ct.blk scope) tg).2.all (fun i => decide (i ∈ (ownOf ct scope).map (·.2))) then
            agS (fzM (ct.mu y) (lcM (itE ct v.e tg iter) ((ownOf ct scope).map (·.2)) (agE 3 (ct.blk scope) tg).1 (tsE (ct.blk scope) v.t ifs) (aX (ct.blk scope) v.e elt))) (asN i) else badS
        | _, _ => badS)
      | .Name y _, .DictComp kx vx [⟨tg, iter, ifs, 0⟩] scope _ => (match ct.lo y, ixIn ct.N y with
        | true, some i => if blkC ct.N ct.sc scope (ownOf ct scope) && !isSet iter && (agE 3 (ct.blk scope) tg).2.all (fun i => decide (i ∈ (ownOf ct scope).map (·.2))) then
            agS (fzM (ct.mu y) (dcM (itE ct v.e tg iter) ((ownOf ct scope).map (·.2)) (agE 3 (ct.blk scope) tg).1 (tsE (ct.blk scope) v.t ifs) (aX (ct.blk scope) v.e kx) (aX (ct.blk scope) v.e vx))) (asN i) else badS
        | _, _ => badS)
      | _, _ => badS)
    | some false => (match sws ct [tg] e with
      | some none => if isStar tg then badS else (match tg, e with
        | .Tuple [.Name x _, .Name y _, .Name z _] _ _, .Tuple [a, b, c] _ _ => if (ct.mu x || ct.mu y || ct.mu z) && !isStar a && !isStar b && !isStar c then (match ct.tg x, ct.tg y, ct.tg z with
          | some i, some j, some l => par3 i j l (fzM (ct.mu x) (v.e ct a)) (fzM (ct.mu y) (v.e ct b)) (fzM (ct.mu z) (v.e ct c))
          | _, _, _ => badS) else agS (fzM (tgMu ct tg) (v.e ct e)) (agE 3 ct tg).1
        | .Tuple [.Name x _, .Name y _] _ _, .Tuple [a, b] _ _ => if (ct.mu x || ct.mu y) && !isStar a && !isStar b then (match ct.tg x, ct.tg y with
          | some i, some j => par2 i j (fzM (ct.mu x) (v.e ct a)) (fzM (ct.mu y) (v.e ct b))
          | _, _ => badS) else agS (fzM (tgMu ct tg) (v.e ct e)) (agE 3 ct tg).1
        | _, _ => agS (fzM (tgMu ct tg) (v.e ct e)) (agE 3 ct tg).1)
      | some (some _) => (match tg, e with
        | .Tuple [.Name x _, .Name y _] _ _, .Tuple [a, b] _ _ => (match ixIn ct.N x, ixIn ct.N y with
          | some i, some j => if decide (sws ct [tg] e = some (some [x, y])) && ct.lo x && ct.lo y && !isStar a && !isStar b && decide (i ≠ j) then par2 i j (fzM (ct.mu x) (v.e ct a)) (fzM (ct.mu y) (v.e ct b)) else badS
          | _, _ => badS)
        | .Tuple [.Name x _, .Name y _, .Name z _] _ _, .Tuple [a, b, c] _ _ => (match ixIn ct.N x, ixIn ct.N y, ixIn ct.N z with
          | some i, some j, some l => if decide (sws ct [tg] e = some (some [x, y, z])) && ct.lo x && ct.lo y && ct.lo z && !isStar a && !isStar b && !isStar c && decide (i ≠ j) && decide (i ≠ l) && decide (j ≠ l) then par3 i j l (fzM (ct.mu x) (v.e ct a)) (fzM (ct.mu y) (v.e ct b)) (fzM (ct.mu z) (v.e ct c)) else badS
          | _, _, _ => badS)
        | _, _ => badS)
      | none => badS)
    | none => badS
def reE (e : Expr) : MS := match e with
  | .Name x _ => (match ct.ix x with
    | some i => rtS (mvN i)
    | none => badS)
  | e => rtS (v.e ct e)
def stG (s : Stmt) : MS := match s with
  | .Pass _ => nilS
  | .Break _ => fun s => .bk s
  | .Continue _ => fun s => .ct s
  | .Expr e _ => if isCmp e then badS else exS (v.e ct e)
  | .Return none _ => rnS
  | .Return (some e) _ => reE ct v e
  | .Assign [tg] e pos => asE T ct v tg e pos.line
  | .If c a b _ => ifS (v.t ct c) (blS g a) (blS g b)
  | .For tg it body [] _ => if isSet it then badS else forS (itE ct v.e tg it) (agE 3 ct tg).1 (blS g body)
  | .While c body [] _ => whB (v.t ct c) (blS g body) T.turns
  | _ => badS
end
def ivS (T : Tb) : Nat → Ct → Stmt → MS
  | 0, _, _ => badS
  | k + 1, ct, s => stG T ct (iv T 30) (ivS T k ct) s
/-- a body -/
def bodyS (T : Tb) (ct : Ct) (ss : List Stmt) : MS := blS (ivS T 20 ct) ss
end Bv

/-! the interpreter tells what the text does: expressions -/
namespace Bv
open PySem PySem.Spec PyProof.Rows L2
def uOf (n : Nm) (c : Str) : Value := match n.cA c with
  | some C => .ref C
  | none => match bootBuiltins c with
    | some (.type s) => .type s
    | _ => .none
/-- what is known wherever the text runs -/
structure Gk (n : Nm) (T : Tb) (P : Program) (w : World) (K : PySem.W.Frag) (mg : Str → Option Value) (base : Heap) (A : Around) : Prop where
  un : A.units + 65 < cLine
  bi : ∀ p ∈ biTab, mg p.1 = none
  rg : mg "range" = none
  en : mg "enumerate" = none
  zp : mg "zip" = none
  gc : T.gcd = true → mg "gcd" = some (.builtin "math.gcd")
  fn : ∀ x m f, T.fn x = some (m, f) → (x == ("__debug__" : Str)) = false ∧ ∃ k a fd ps, FnOk P w K mg base (L2.CX P w) k a fd ps (spB n m f) ∧ Room k A ∧ mg x = some (.ref a) ∧ PySem.W.keepIn K (.ref a) = true ∧ Binds K fd ps []
  cl : ∀ x m f, T.cl x = some (m, f) → (x == ("__debug__" : Str)) = false ∧ ∃ k a C fd ps, Mk K C a ∧ FnOk P w K mg base (L2.CX P w) k a fd ps (spI n x m f) ∧ Room (k + 1) A ∧ n.cA x = some C ∧ mg x = some (.ref C) ∧ Binds K fd ps []
  ty : ∀ x, T.ty x = true → (x == ("__debug__" : Str)) = false ∧ x ≠ "__name__" ∧ ((∃ C, n.cA x = some C ∧ mg x = some (.ref C)) ∨ ∃ s, n.cA x = none ∧ mg x = none ∧ bootBuiltins x = some (.type s))
  isi : ∀ cs, Asks n (cs.map (uOf n)) (T.isi cs)
  hA : ClsAll n
  fld : ∀ f, T.fld f = true → NoAt n f
structure KnOk (n : Nm) (T : Tb) (ct : Ct) (W : WX) (X : Cx) : Prop where
  g : Gk n T X.prog X.w X.K X.mg X.base X.A
  N : X.N = ct.N
  nd : X.N.Nodup
  sc : X.env.scope = ct.sc
  fn : X.fn = ct.fn
  calm : X.calm = true
  K : X.K = n.K
  tk : Takes X W
  hW : ∀ cls d σ σ' H, W cls d σ H → W cls d σ' H
  nm : ∀ x ∈ X.N, (x == ("__debug__" : Str)) = false ∧ (x == ("__classdict__" : Str)) = false
structure Snd (n : Nm) (T : Tb) (v : Iv) : Prop where
  e : ∀ {W : WX} {ct : Ct} {X : Cx}, KnOk n T ct W X → ∀ e, PE X e (tO n W (v.e ct e))
  t : ∀ {W : WX} {ct : Ct} {X : Cx}, KnOk n T ct W X → ∀ e, PT X e (tT n W (v.t ct e))
section
variable {n : Nm} {W : WX} {X : Cx} {T : Tb} {ct : Ct} {v : Iv}
theorem pe_bad {e : Expr} : PE X e (tO n W bad) := ⟨fun pins s σ H Q I ⟨c, _, _, _, o⟩ => o.elim⟩
theorem pe_badX {e : Expr} : PE X e (tX n W bad) := ⟨fun pins s σ H Q I ⟨c, _, _, _, o⟩ => o.elim⟩
theorem pe_badW {e : Expr} : PE X e (tW n W bad) := ⟨fun pins s σ H Q I ⟨c, _, _, _, o⟩ => o.elim⟩
theorem pt_bad {e : Expr} : PT X e (tT n W bad) := ⟨fun pins s σ H Q I ⟨c, _, _, _, o⟩ => o.elim⟩
theorem pw_bad {e : Expr} : PW X e (tT n W bad) := ⟨fun whole pins s σ H Q I ⟨c, _, _, _, o⟩ => o.elim⟩
theorem pa_bad {e : List Expr} : PA X e (tA n W bad) := ⟨fun pos pins s σ H Q I ⟨c, _, _, _, o⟩ => o.elim⟩
theorem pi_bad {tg e : Expr} : PI X tg e (tI n W bad) := ⟨fun pins s σ H Q I ⟨c, _, _, _, o⟩ => o.elim⟩
theorem ps_bad {e : Stmt} : PS X e (tS n W badS) := ⟨fun pins s σ H Q I ⟨c, _, _, _, o⟩ => o.elim⟩
theorem pg_bad {e : Expr} : PG X e (tG n [] noAS) := ⟨fun pins s σ H v u Q I r ⟨c0, c, l, _, _, _, _, _, S', h, _⟩ => by cases h⟩
theorem ixIn_get : ∀ {N : List Str} {x : Str} {i : Nat}, ixIn N x = some i → N[i]? = some x
  | [], _, _, h => by cases h
  | y :: ys, x, i, h => by
    unfold ixIn at h
    split at h
    · rename_i e; cases h; rw [e]; rfl
    · cases q : ixIn ys x with
      | none => rw [q] at h; cases h
      | some j =>
        rw [q] at h; cases h
        rw [List.getElem?_cons_succ]
        exact ixIn_get q
theorem ix_vis {x : Str} {i : Nat} (k : KnOk n T ct W X) (h : ct.ix x = some i) : X.N[i]? = some x ∧ Vis X.env.scope x ∧ (x == ("__debug__" : Str)) = false ∧ (x == ("__classdict__" : Str)) = false := by
  unfold Ct.ix at h
  split at h
  · rename_i hv
    have h1 : X.N[i]? = some x := by rw [k.N]; exact ixIn_get h
    refine ⟨h1, ?_, k.nm x (List.mem_of_getElem? h1)⟩
    unfold Vis
    rw [k.sc]
    unfold Ct.vis at hv
    split at hv
    · rename_i e; exact .inl e
    · rename_i e; exact .inr (.inl e)
    · rename_i e; exact .inr (.inr e)
    · cases hv
  · cases h
theorem gl_ok {x : Str} (k : KnOk n T ct W X) (h : ct.gl x = true) : Gl X x := by
  unfold Ct.gl at h
  show X.env.scope.names.lookup x = _
  rw [k.sc]
  split at h
  · assumption
  · cases h
theorem star_cons {e : Expr} {es : List Expr} {env : Env} (h : isStar e = false) : starEach (e :: es) env = (false, eval e env) :: starEach es env := by
  cases e <;> first | rfl | cases h
theorem star_none {env : Env} {pos : Pos} : ∀ {es : List Expr}, es.all (fun e => !isStar e) = true → (backTo pos (starEach es env)).any (·.1) = false
  | [], _ => rfl
  | e :: es, h => by
    simp only [List.all_cons, Bool.and_eq_true, Bool.not_eq_true'] at h
    rw [star_cons h.1]
    show (false || (backTo pos (starEach es env)).any (·.1)) = false
    rw [star_none h.2]
    rfl
/-! names and constants -/
theorem sn_nmX {x : Str} {p : Pos} (k : KnOk n T ct W X) : PE X (.Name x p) (tX n W (nmX ct x)) := by
  unfold nmX
  split
  · rename_i i h
    obtain ⟨h1, h2, h3, h4⟩ := ix_vis k h
    exact be_name h1 h2 h3 h4
  · exact pe_badX
theorem sn_nmW {x : Str} {p : Pos} (k : KnOk n T ct W X) : PE X (.Name x p) (tW n W (nmW ct x)) := by
  unfold nmW
  split
  · rename_i i h
    obtain ⟨h1, h2, h3, h4⟩ := ix_vis k h
    exact be_nameW h1 h2 h3 h4
  · exact pe_badW
theorem sn_cn {z : Const} {j : Nat} {p : Pos} : PE X (.Constant z j p) (tX n W (cnX z)) := by
  unfold cnX
  split
  · exact be_int
  · exact be_bl
  · exact be_non
  · exact be_str
  · exact pe_badX
theorem sn_X (k : KnOk n T ct W X) (s : Snd n T v) (e : Expr) : PE X e (tX n W (aX ct v.e e)) := by
  unfold aX
  split
  · exact sn_nmX k
  · exact sn_cn
  · exact be_x (s.e k _)
theorem sn_W (k : KnOk n T ct W X) (s : Snd n T v) (e : Expr) : PE X e (tW n W (aW ct v.e e)) := by
  unfold aW
  split
  · exact sn_nmW k
  · exact be_w (s.e k _)
theorem sn_L (k : KnOk n T ct W X) (s : Snd n T v) : ∀ es : List Expr, PA X es (tA n W (aL ct v.e es))
  | [] => ba_nil
  | e :: es => by
    unfold aL
    split
    · exact pa_bad
    · rename_i h
      exact ba_cons (sn_X k s e) (sn_L k s es) (star_cons (by simpa using h))
theorem op_none {id : List Value → Sem Value} : True := trivial
theorem sn_opB (k : KnOk n T ct W X) (op : Operator) : ∃ r, OpR X (binaryOp op) r ∧ OpS n W r (opB op) := by
  cases op
  case Add => exact ⟨_, op_addA, by rw [k.K]; exact ops_add⟩
  case Sub => exact ⟨_, op_sub, ops_sub⟩
  case Mult => exact ⟨_, op_mulA, by rw [k.K]; exact ops_mul⟩
  case FloorDiv => exact ⟨_, op_fdiv, ops_fdv⟩
  case Mod => exact ⟨_, op_mod, ops_mod⟩
  case Pow => exact ⟨_, op_pow, ops_pow⟩
  all_goals exact ⟨fun _ _ _ _ => False, fun _ _ _ _ _ _ _ _ _ _ _ _ h => h.elim, fun _ _ _ _ _ _ _ _ _ o => o.elim⟩
theorem sn_opC (k : KnOk n T ct W X) (op : CmpOp) : ∃ r, OpR X (compareOp op) r ∧ OpS n W r (opC op) := by
  have un := k.g.un
  cases op
  case Eq => exact ⟨_, op_eqD (by omega), by rw [k.K]; exact ops_eq⟩
  case NotEq => exact ⟨_, op_neD (by omega), by rw [k.K]; exact ops_ne⟩
  case Lt => exact ⟨_, op_lt, ops_cmp _⟩
  case LtE => exact ⟨_, op_le, ops_cmp _⟩
  case Gt => exact ⟨_, op_gt, ops_cmp _⟩
  case GtE => exact ⟨_, op_ge, ops_cmp _⟩
  case Is => exact ⟨_, op_isP, ops_is false⟩
  case IsNot => exact ⟨_, op_isNotP, ops_is true⟩
  case In => exact ⟨_, OpR.or (op_inA un) (op_dIn un), by rw [k.K]; exact ops_in2 false⟩
  case NotIn => exact ⟨_, OpR.or (op_notInA un) (op_dNotIn un), by rw [k.K]; exact ops_in2 true⟩
theorem inIx_ok (k : KnOk n T ct W X) {op : CmpOp} {b : Expr} {q : Bool × Nat} (h : inIx ct op b = some q) : ∃ x p, b = .Name x p ∧ ct.ix x = some q.2 ∧ OpR X (compareOp op) (fun x y H Q => rInA n.K q.1 x y H Q ∨ rDIn q.1 x y H Q) := by
  have un := k.g.un
  unfold inIx at h
  split at h
  · split at h
    · rename_i x p _
      cases e : ct.ix x with
      | none => rw [e] at h; cases h
      | some i =>
        rw [e] at h
        cases h
        exact ⟨_, _, rfl, e, by have := OpR.or (op_inA (X := X) un) (op_dIn un); rw [k.K] at this; exact this⟩
    · cases h
  · split at h
    · rename_i x p _
      cases e : ct.ix x with
      | none => rw [e] at h; cases h
      | some i =>
        rw [e] at h
        cases h
        exact ⟨_, _, rfl, e, by have := OpR.or (op_notInA (X := X) un) (op_dNotIn un); rw [k.K] at this; exact this⟩
    · cases h
  · cases h
theorem sn_bo (k : KnOk n T ct W X) (s : Snd n T v) {op : BoolOp} {pos : Pos} : ∀ es : List Expr, PE X (.BoolOp op es pos) (tO n W (boE ct v.e op es))
  | [] => pe_bad
  | [a] => be_one (s.e k a)
  | a :: b :: es => by
    unfold boE
    cases op
    · exact be_and (sn_X k s a) (sn_bo k s (b :: es))
    · exact be_or (sn_X k s a) (sn_bo k s (b :: es))
theorem sn_cm (k : KnOk n T ct W X) (s : Snd n T v) {a : Expr} {ops : List CmpOp} {es : List Expr} {pos : Pos} : PE X (.Compare a ops es pos) (tO n W (cmE ct v.e a ops es)) := by
  unfold cmE
  split
  · rename_i op b
    split
    · exact pe_bad
    · rename_i h
      split
      · rename_i q hq
        obtain ⟨x, p, rfl, g1, g2⟩ := inIx_ok k hq
        obtain ⟨v1, v2, v3, v4⟩ := ix_vis k g1
        exact be_inN g2 v1 v2 v3 v4 (sn_X k s a) (by simpa using h)
      obtain ⟨r, h1, h2⟩ := sn_opC k op
      exact be_cmp h1 h2 (sn_X k s a) (sn_X k s b) (by simpa using h)
  · rename_i op op' b c
    split
    · exact pe_bad
    · rename_i h
      obtain ⟨r, h1, h2⟩ := sn_opC k op
      obtain ⟨r', h3, h4⟩ := sn_opC k op'
      exact be_chain h1 h3 h2 h4 (sn_X k s a) (sn_X k s b) (sn_X k s c) (by simpa using h)
  · exact pe_bad
theorem sn_P (k : KnOk n T ct W X) (s : Snd n T v) : ∀ e : Option Expr, PO X e (tP n W (aP ct v.e e))
  | none => bp_none
  | some e => bp_some (sn_X k s e)
theorem plain_ix {b : Expr} (h : isSlice b = false) : PlainIx b := fun o i => by
  cases b <;> first | rfl | cases h
theorem sn_su (k : KnOk n T ct W X) (s : Snd n T v) {a b : Expr} {pos : Pos} : PE X (.Subscript a b pos) (tO n W (suE ct v.e a b)) := by
  unfold suE
  split
  · rename_i lo hi p2
    split
    · split
      · rename_i i h
        obtain ⟨h1, h2, h3, h4⟩ := ix_vis k h
        exact be_slN h1 h2 h3 h4 (sn_P k s lo) (sn_P k s hi) k.K
      · exact pe_bad
    · exact be_sl (sn_X k s _) (sn_P k s lo) (sn_P k s hi) k.K
  · rename_i z j p2
    split
    · split
      · rename_i i h
        obtain ⟨h1, h2, h3, h4⟩ := ix_vis k h
        exact be_dgN k.g.un h1 h2 h3 h4
      · exact pe_bad
    · exact pe_bad
  · split
    · exact pe_bad
    · rename_i h
      have hp : PlainIx b := plain_ix (by simpa using h)
      split
      · split
        · rename_i i h
          obtain ⟨h1, h2, h3, h4⟩ := ix_vis k h
          exact be_ixN h1 h2 h3 h4 (sn_X k s b) hp k.K
        · exact pe_bad
      · exact be_ix (sn_X k s _) (sn_X k s b) hp k.K
theorem kyE_ok : ∀ {keys : List (Option Expr)} {ks : List (Str × Nat × Pos)}, kyE keys = some ks → keys = ks.map fun k => some (.Constant (.str k.1) k.2.1 k.2.2)
  | [], ks, h => by cases h; rfl
  | k :: keys, ks, h => by
    unfold kyE at h
    split at h
    · rename_i e; cases e
    · rename_i z j p keys' e
      cases e
      cases q : kyE keys with
      | none => rw [q] at h; cases h
      | some ks' =>
        rw [q] at h; cases h
        rw [List.map_cons, ← kyE_ok q]
    · cases h
theorem sn_di (k : KnOk n T ct W X) (s : Snd n T v) {keys : List (Option Expr)} {es : List Expr} {pos : Pos} : PE X (.Dict keys es pos) (tO n W (diE ct v.e keys es)) := by
  unfold diE
  split
  · rename_i ks h
    split
    · rename_i hc
      simp only [Bool.and_eq_true, decide_eq_true_eq] at hc
      obtain ⟨⟨⟨h1, h2⟩, h3⟩, h4⟩ := hc
      rw [kyE_ok h]
      exact be_disp (sn_X k s) h1 h2 h3 h4
    · exact pe_bad
  · exact pe_bad
end
end Bv

/-! the interpreter tells what the text does: calls, comprehensions, tests -/
namespace Bv
open PySem PySem.Spec PyProof.Rows L2
section
variable {n : Nm} {W : WX} {X : Cx} {T : Tb} {ct : Ct} {v : Iv}
/-- a class's name -/
theorem sn_cls {x : Str} {p : Pos} (k : KnOk n T ct W X) (h1 : ct.gl x = true) (h2 : T.ty x = true) : ∃ cv, PE X (.Name x p) (tC cv) ∧ ClsV cv (uOf n x) := by
  obtain ⟨hd, hn, ⟨C, hC, hm⟩ | ⟨s, hC, hm, hb⟩⟩ := k.g.ty x h2
  · refine ⟨.ref C, pe_glob (gl_ok k h1) hm rfl hd, ?_⟩
    unfold uOf
    rw [hC]
    exact .own C
  · refine ⟨.ty s, pe_bltn (gl_ok k h1) hm hb rfl hn hd, ?_⟩
    unfold uOf
    rw [hC, hb]
    exact .ty s
theorem sn_tyN (k : KnOk n T ct W X) : ∀ {cs : List Expr} {xs : List Str}, tyNames T ct cs = some xs → ∃ cvs, PA X cs (fun _ H Q => Q cvs H) ∧ Paired ClsV cvs (xs.map (uOf n)) ∧ cvs.length = xs.length
  | [], xs, h => by
    cases h
    exact ⟨[], pa_nil, .nil, rfl⟩
  | e :: es, xs, h => by
    unfold tyNames at h
    split at h
    · rename_i e2; cases e2
    · rename_i c p es' e2
      cases e2
      split at h
      · rename_i hc
        simp only [Bool.and_eq_true] at hc
        cases q : tyNames T ct es with
        | none => rw [q] at h; cases h
        | some ys =>
          rw [q] at h; cases h
          obtain ⟨cv, h1, h2⟩ := sn_cls (p := p) k hc.1 hc.2
          obtain ⟨cvs, h3, h4, h5⟩ := sn_tyN k q
          exact ⟨cv :: cvs, pa_cons h1 h3 rfl, .cons h2 h4, by rw [List.length_cons, List.length_cons, h5]⟩
      · cases h
    · cases h
theorem sn_is (k : KnOk n T ct W X) (s : Snd n T v) {e c : Expr} {p pos : Pos} (hg : Gl X "isinstance") (hm : X.mg "isinstance" = none) (hst : isStar e = false) : PE X (.Call (.Name "isinstance" p) [e, c] [] pos) (tO n W (isE T ct v.e e c)) := by
  unfold isE
  split
  · rename_i x px
    split
    · rename_i h
      simp only [Bool.and_eq_true] at h
      obtain ⟨cv, h1, h2⟩ := sn_cls (p := px) k h.1 h.2
      exact be_isi k.g.hA k.K (sn_W k s e) h1 h2 (k.g.isi [x]) hg hm (star_cons hst) rfl rfl
    · exact pe_bad
  · split
    · rename_i cs kk pp xs q
      split
      · rename_i hl
        obtain ⟨cvs, h1, h2, h3⟩ := sn_tyN k q
        exact be_isiT k.g.hA k.K (sn_W k s e) h1 h2 (by rw [h3, lineN_eq]; exact hl) (k.g.isi xs) hg hm (star_cons hst)
      · exact pe_bad
    · exact pe_bad
  · exact pe_bad
theorem biTab_mem {x : Str} {b : Bi} (h : biTab.lookup x = some b) : (x, b) ∈ biTab := mem_of_lookup h
theorem rgA_ok {e a : Expr} (h : rgA ct e = some a) : ∃ p2 pos2, e = .Call (.Name "range" p2) [a] [] pos2 ∧ ct.gl "range" = true ∧ isStar a = false := by
  unfold rgA at h
  split at h
  · rename_i x p a' pos
    split at h
    · rename_i hc
      simp only [Bool.and_eq_true, decide_eq_true_eq, Bool.not_eq_true'] at hc
      obtain ⟨⟨rfl, h1⟩, h2⟩ := hc
      cases h
      exact ⟨_, _, rfl, h1, h2⟩
    · cases h
  · cases h
theorem rgA2_ok {e a b : Expr} (h : rgA2 ct e = some (a, b)) : ∃ p2 pos2, e = .Call (.Name "range" p2) [a, b] [] pos2 ∧ ct.gl "range" = true ∧ isStar a = false ∧ isStar b = false := by
  unfold rgA2 at h
  split at h
  · rename_i x p a' b' pos
    split at h
    · rename_i hc
      simp only [Bool.and_eq_true, decide_eq_true_eq, Bool.not_eq_true'] at hc
      obtain ⟨⟨⟨rfl, h1⟩, h2⟩, h3⟩ := hc
      cases h
      exact ⟨_, _, rfl, h1, h2, h3⟩
    · cases h
  · cases h
theorem sn_bi (k : KnOk n T ct W X) (s : Snd n T v) {x : Str} {b : Bi} {es : List Expr} {p pos : Pos} (h : biTab.lookup x = some b) (hg : Gl X x) (hs : es.all (fun e => !isStar e) = true) : PE X (.Call (.Name x p) es [] pos) (tO n W (biE T ct v.e b es)) := by
  have hx := biTab_mem h
  have hm : X.mg x = none := k.g.bi _ hx
  unfold biE
  split
  · rename_i e
    obtain rfl : x = "len" := by simpa [biTab] using hx
    exact be_callB1 call_lenA (by rw [k.K]; exact calls_len) hg hm boot_len (sn_W k s e) (by decide) (by decide) (star_cons (by simpa using hs))
  · rename_i e
    obtain rfl : x = "int" := by simpa [biTab] using hx
    exact be_callTy1 call_int1 calls_int hg hm PyProof.Rows.boot_int (sn_W k s e) (by decide) (by decide) (star_cons (by simpa using hs))
  · rename_i e
    obtain rfl : x = "abs" := by simpa [biTab] using hx
    exact be_callB1 call_abs calls_abs hg hm boot_abs (sn_W k s e) (by decide) (by decide) (star_cons (by simpa using hs))
  · rename_i e
    obtain rfl : x = "sum" := by simpa [biTab] using hx
    exact be_callB1 (CallR.or (cr_sum k.calm) (cr_sumT k.calm)) (by rw [k.K]; exact calls_sum2) hg hm boot_sum (sn_W k s e) (by decide) (by decide) (star_cons (by simpa using hs))
  · rename_i e
    obtain rfl : x = "max" := by simpa [biTab] using hx
    exact be_callB1 (CallR.or (cr_max k.calm) (cr_maxT k.calm)) (by rw [k.K]; exact calls_max2W) hg hm boot_max (sn_W k s e) (by decide) (by decide) (star_cons (by simpa using hs))
  · rename_i e
    obtain rfl : x = "min" := by simpa [biTab] using hx
    exact be_callB1 (CallR.or (cr_min k.calm) (cr_minT k.calm)) (by rw [k.K]; exact calls_min2W) hg hm boot_min (sn_W k s e) (by decide) (by decide) (star_cons (by simpa using hs))
  · rename_i a c
    obtain rfl : x = "max" := by simpa [biTab] using hx
    simp only [List.all_cons, Bool.and_eq_true, Bool.not_eq_true'] at hs
    exact be_callB (call_max2 k.calm) calls_max2 hg hm boot_max (sn_L k s [a, c]) (by decide) (by decide) (star_cons hs.1) (star_none (by simp [hs.2.1]))
  · rename_i a c
    obtain rfl : x = "min" := by simpa [biTab] using hx
    simp only [List.all_cons, Bool.and_eq_true, Bool.not_eq_true'] at hs
    exact be_callB (call_min2 k.calm) calls_min2 hg hm boot_min (sn_L k s [a, c]) (by decide) (by decide) (star_cons hs.1) (star_none (by simp [hs.2.1]))
  · rename_i e
    obtain rfl : x = "any" := by simpa [biTab] using hx
    exact be_callB1 (cr_any k.calm) (by rw [k.K]; exact calls_any) hg hm boot_any (sn_W k s e) (by decide) (by decide) (star_cons (by simpa using hs))
  · rename_i e
    obtain rfl : x = "all" := by simpa [biTab] using hx
    exact be_callB1 (cr_all k.calm) (by rw [k.K]; exact calls_all) hg hm boot_all (sn_W k s e) (by decide) (by decide) (star_cons (by simpa using hs))
  · rename_i e
    obtain rfl : x = "sorted" := by simpa [biTab] using hx
    exact be_callB1 (CallR.or cr_sortedI (call_sortedDI k.calm)) (by rw [k.K]; exact calls_sorted2) hg hm boot_sorted (sn_W k s e) (by decide) (by decide) (star_cons (by simpa using hs))
  · rename_i e
    obtain rfl : x = "tuple" := by simpa [biTab] using hx
    split
    · rename_i a ha
      obtain ⟨p2, pos2, rfl, g1, g2⟩ := rgA_ok ha
      exact be_tupRg k.calm hg hm (gl_ok k g1) k.g.rg (sn_X k s a) (star_cons g2)
    split
    · rename_i a b ha
      obtain ⟨p2, pos2, rfl, g1, g2, g3⟩ := rgA2_ok ha
      exact be_tupRg2 k.calm hg hm (gl_ok k g1) k.g.rg (sn_X k s a) (sn_X k s b) (star_cons g2) (star_cons g3) (star_none (by simp [g3]))
    exact be_callTy1 call_tuple_of (by rw [k.K]; exact calls_tuple) hg hm PyProof.Rows.boot_tuple (sn_W k s e) (by decide) (by decide) (star_cons (by simpa using hs))
  · rename_i e
    obtain rfl : x = "list" := by simpa [biTab] using hx
    split
    · rename_i a ha
      obtain ⟨p2, pos2, rfl, g1, g2⟩ := rgA_ok ha
      exact be_lstRg k.calm hg hm (gl_ok k g1) k.g.rg (sn_X k s a) (star_cons g2)
    split
    · rename_i a b ha
      obtain ⟨p2, pos2, rfl, g1, g2, g3⟩ := rgA2_ok ha
      exact be_lstRg2 k.calm hg hm (gl_ok k g1) k.g.rg (sn_X k s a) (sn_X k s b) (star_cons g2) (star_cons g3) (star_none (by simp [g3]))
    exact be_callTy1 call_list_of (by rw [k.K]; exact calls_list) hg hm PyProof.Rows.boot_list (sn_W k s e) (by decide) (by decide) (star_cons (by simpa using hs))
  · rename_i e c
    obtain rfl : x = "isinstance" := by simpa [biTab] using hx
    simp only [List.all_cons, Bool.and_eq_true, Bool.not_eq_true'] at hs
    exact sn_is k s hg hm hs.1
  · exact pe_bad
theorem few1 {e : Expr} {env : Env} {cpos : Pos} (h : isStar e = false) : ((backTo cpos (starEach (e :: []) env)).all (fun x => !x.1) && (backToKw cpos (keywordEach [] env)).all (fun x => x.1.isSome) && decide ((e :: []).length + ([] : List Keyword).length + (if ([] : List Keyword).isEmpty then 0 else 1) < 30)) = true := by
  rw [star_cons h]
  rfl
theorem sn_me (k : KnOk n T ct W X) (s : Snd n T v) {o e : Expr} {m : Str} {apos pos : Pos} (h1 : isStar e = false) (h2 : (apos.endLine == pos.line) = true) : PE X (.Call (.Attribute o m apos) [e] [] pos) (tO n W (meE ct v.e o m e)) := by
  unfold meE
  split
  · rename_i hm
    obtain rfl : m = "append" := by simpa [meTab] using mem_of_lookup hm
    split
    · split
      · rename_i i hi
        obtain ⟨g1, g2, g3, g4⟩ := ix_vis k hi
        exact be_append g1 g2 g3 g4 (sn_X k s e) (few1 h1) h2 (star_cons h1)
      · exact pe_bad
    · exact pe_bad
  · rename_i hm
    obtain rfl : m = "extend" := by simpa [meTab] using mem_of_lookup hm
    split
    · split
      · rename_i i hi
        obtain ⟨g1, g2, g3, g4⟩ := ix_vis k hi
        exact be_extend g1 g2 g3 g4 (sn_X k s e) (few1 h1) h2 (star_cons h1)
      · exact pe_bad
    · exact pe_bad
  · rename_i hm
    obtain rfl : m = "index" := by simpa [meTab] using mem_of_lookup hm
    split
    · rename_i ho
      exact be_index k.g.un k.K (sn_X k s o) (sn_X k s e) (by cases o <;> first | rfl | cases ho) (few1 h1) h2 (star_cons h1)
    · exact pe_bad
  · exact pe_bad
theorem sn_ca (k : KnOk n T ct W X) (s : Snd n T v) {f : Expr} {args : List Expr} {pos : Pos} : PE X (.Call f args [] pos) (tO n W (caE T ct v.e f args pos)) := by
  unfold caE
  split
  · rename_i x p e es
    split
    · rename_i h
      rw [Bool.and_eq_true] at h
      obtain ⟨h1, h2⟩ := h
      have h3 : isStar e = false := by simp only [List.all_cons, Bool.and_eq_true, Bool.not_eq_true'] at h2; exact h2.1
      have h4 : es.all (fun e => !isStar e) = true := by simp only [List.all_cons, Bool.and_eq_true] at h2; exact h2.2
      split
      · rename_i b hb
        exact sn_bi k s hb (gl_ok k h1) h2
      · split
        · rename_i m f hf
          obtain ⟨hd, j, a, fd, ps, F, hr, hm, hk, hb⟩ := k.g.fn _ _ _ hf
          exact be_call k.tk F hr (gl_ok k h1) hm hk hb (sn_L k s (e :: es)) hd (star_cons h3) (star_none h4)
        · split
          · rename_i m f hf
            obtain ⟨hd, j, a, C, fd, ps, MK, F, hr, hC, hm, hb⟩ := k.g.cl _ _ _ hf
            exact be_make k.tk k.hW MK F hr hC (gl_ok k h1) hm hb (sn_L k s (e :: es)) hd (star_cons h3) (star_none h4)
          · split
            · rename_i hgc
              rw [Bool.and_eq_true] at hgc
              have hx : x = "gcd" := by have := hgc.2; unfold isGcd at this; exact of_decide_eq_true this
              subst hx
              exact be_gcd (gl_ok k h1) (k.g.gc hgc.1) (sn_L k s (e :: es)) (by decide) (star_cons h3) (star_none h4)
            · exact pe_bad
    · exact pe_bad
  · rename_i o m apos e
    split
    · rename_i h
      simp only [Bool.and_eq_true, Bool.not_eq_true'] at h
      exact sn_me k s h.1 h.2
    · exact pe_bad
  · exact pe_bad
theorem sn_it (k : KnOk n T ct W X) (s : Snd n T v) {tg e : Expr} : PI X tg e (tI n W (itE ct v.e tg e)) := by
  unfold itE
  split
  · rename_i x p args pos
    split
    · rename_i h
      rw [Bool.and_eq_true] at h
      obtain ⟨h1, h3⟩ := h
      split
      · rename_i hw
        obtain rfl : x = "range" := by simpa [wlTab] using mem_of_lookup hw
        split
        · rename_i a
          exact bi_range1 (gl_ok k h1) k.g.rg (sn_L k s [a]) (star_cons (by simpa using h3))
        · rename_i a b
          simp only [List.all_cons, Bool.and_eq_true, Bool.not_eq_true'] at h3
          exact bi_range2 (gl_ok k h1) k.g.rg (sn_L k s [a, b]) (by rw [star_cons h3.1, star_cons h3.2.1]; rfl) (by rw [star_cons h3.2.1]; rfl)
        · exact pi_bad
      · rename_i hw
        obtain rfl : x = "enumerate" := by simpa [wlTab] using mem_of_lookup hw
        split
        · rename_i a
          split
          · rename_i ht
            cases tg with
            | Tuple elts kk tpos => exact bi_enum k.K (gl_ok k h1) k.g.en (sn_L k s [a]) (star_cons (by simpa using h3))
            | _ => cases ht
          · exact pi_bad
        · exact pi_bad
      · rename_i hw
        obtain rfl : x = "zip" := by simpa [wlTab] using mem_of_lookup hw
        split
        · rename_i a b
          simp only [List.all_cons, Bool.and_eq_true, Bool.not_eq_true'] at h3
          split
          · rename_i ht
            cases tg with
            | Tuple elts kk tpos => exact bi_zip k.K (gl_ok k h1) k.g.zp (sn_L k s [a, b]) (star_cons h3.1) (star_none (by simp [h3.2.1]))
            | _ => cases ht
          · exact pi_bad
        · exact pi_bad
      · exact bi_seq (sn_X k s _) k.K
    · exact bi_seq (sn_X k s _) k.K
  · exact bi_seq (sn_X k s _) k.K
theorem as_len {env : Env} : ∀ es : List Expr, (assignEach es env).length = es.length
  | [] => rfl
  | e :: es => by
    cases e <;> (show _ + 1 = _ + 1; rw [as_len es])
theorem as_find {env : Env} : ∀ {es : List Expr}, es.all (fun e => !isStar e) = true → (assignEach es env).findIdx? (·.1) = none := fun {es} h => by
  rw [List.findIdx?_eq_none_iff]
  induction es with
  | nil => intro x hx; cases hx
  | cons e es ih =>
    simp only [List.all_cons, Bool.and_eq_true, Bool.not_eq_true'] at h
    intro x hx
    have : assignEach (e :: es) env = (false, assign e env) :: assignEach es env := by
      cases e <;> first | rfl | cases h.1
    rw [this] at hx
    rcases List.mem_cons.mp hx with rfl | hx
    · rfl
    · exact ih h.2 x hx
theorem as_cons {e : Expr} {es : List Expr} {env : Env} (h : isStar e = false) : (assignEach (e :: es) env).map (·.2) = assign e env :: (assignEach es env).map (·.2) := by
  cases e <;> first | rfl | cases h
theorem tg_raw {x : Str} {i : Nat} (k : KnOk n T ct W X) (h : ct.tg x = some i) : X.N[i]? = some x ∧ Loc X.env.scope x ∧ (X.fn x = true ∨ X.env.scope.names.lookup x = some .local) := by
  unfold Ct.tg at h
  split at h
  · rename_i hc
    have h1 : X.N[i]? = some x := by rw [k.N]; exact ixIn_get h
    rw [Bool.or_eq_true, Bool.and_eq_true] at hc
    rcases hc with hc | ⟨hc, hf⟩
    · unfold Ct.lo at hc
      split at hc
      · rename_i e
        exact ⟨h1, .inl (by rw [k.sc]; exact e), .inr (by rw [k.sc]; exact e)⟩
      · cases hc
    · unfold Ct.ce at hc
      split at hc
      · rename_i e
        exact ⟨h1, .inr (by rw [k.sc]; exact e), .inl (by rw [k.fn]; exact hf)⟩
      · cases hc
  · cases h
theorem tg_ok {x : Str} {i : Nat} {p : Pos} (k : KnOk n T ct W X) (h : ct.tg x = some i) : PG X (.Name x p) (tG n [i] (asN i)) := by
  unfold Ct.tg at h
  split at h
  · rename_i hc
    have h1 : X.N[i]? = some x := by rw [k.N]; exact ixIn_get h
    rw [Bool.or_eq_true, Bool.and_eq_true] at hc
    rcases hc with hc | ⟨hc, hf⟩
    · unfold Ct.lo at hc
      split at hc
      · rename_i e
        exact bg_name k.nd h1 (.inl (by rw [k.sc]; exact e)) (.inr (by rw [k.sc]; exact e))
      · cases hc
    · unfold Ct.ce at hc
      split at hc
      · rename_i e
        exact bg_name k.nd h1 (.inr (by rw [k.sc]; exact e)) (.inl (by rw [k.fn]; exact hf))
      · cases hc
  · cases h
theorem sn_ag : ∀ (j : Nat) {ct : Ct} {W : WX} {X : Cx}, KnOk n T ct W X → ∀ e : Expr, PG X e (tG n (agE j ct e).2 (agE j ct e).1)
  | 0, _, _, _, _, _ => pg_bad
  | j + 1, ct, W, X, k, e => by
    unfold agE
    split
    · split
      · rename_i i h
        exact tg_ok k h
      · exact pg_bad
    · rename_i es kk pos
      split
      · rename_i h
        refine bg_tup k.calm k.K (by rw [as_len, List.length_map]) (as_find h) ?_
        clear kk pos
        induction es with
        | nil => exact bgs_nil
        | cons e es ih =>
          simp only [List.all_cons, Bool.and_eq_true, Bool.not_eq_true'] at h
          exact bgs_cons (sn_ag j k e) (ih h.2) (as_cons h.1)
      · exact pg_bad
    · exact pg_bad
theorem sn_ts (k : KnOk n T ct W X) (s : Snd n T v) : ∀ ifs : List Expr, PTs X ifs (tT n W (tsE ct v.t ifs))
  | [] => bts_nil
  | [c] => pts_one (s.t k c)
  | _ :: _ :: _ => ⟨fun pins s σ H Q I ⟨c, _, _, _, o⟩ => o.elim⟩
theorem KnOk.blk (k : KnOk n T ct W X) (s : Shared) (H : Hp) (scope : Scope) (cl : List (Str × Addr)) (C : Addr) (fp : List Addr) : KnOk n T (ct.blk scope) WF (X.blk s H scope (compEnvC scope cl C X.env) fp) where
  g := k.g
  N := k.N
  nd := k.nd
  sc := by
    show relS scope X.env.scope = relS scope ct.sc
    rw [k.sc]
  fn := rfl
  calm := k.calm
  K := k.K
  tk := takes0
  hW := fun _ _ _ _ _ h => h
  nm := k.nm
theorem set_id {e : Expr} {env : Env} (h : isSet e = false) : ∀ x, foldedSetIterable e env x = pure x := fun x => by
  cases e <;> first | rfl | cases h
theorem sn_lc (k : KnOk n T ct W X) (s : Snd n T v) {elt tg iter : Expr} {ifs : List Expr} {scope : Scope} {pos : Pos} : PE X (.ListComp elt [⟨tg, iter, ifs, 0⟩] scope pos) (tO n W (lcE ct v.e v.t elt tg iter ifs scope)) := by
  unfold lcE
  split
  · rename_i h
    simp only [Bool.and_eq_true, Bool.not_eq_true', List.all_eq_true, decide_eq_true_eq] at h
    obtain ⟨⟨h1, h2⟩, h3⟩ := h
    exact be_lc k.calm k.nd (sn_it k s) (by rw [k.N, k.sc]; exact blkOk_by h1) h3 (fun s' H C cl fp => sn_ag 3 (k.blk s' H scope cl C fp) tg) (fun s' H C cl fp => sn_ts (k.blk s' H scope cl C fp) s ifs) (fun s' H C cl fp => sn_X (k.blk s' H scope cl C fp) s elt) (set_id h2)
  · exact pe_bad
theorem sn_dc (k : KnOk n T ct W X) (s : Snd n T v) {kx vx tg iter : Expr} {ifs : List Expr} {scope : Scope} {pos : Pos} : PE X (.DictComp kx vx [⟨tg, iter, ifs, 0⟩] scope pos) (tO n W (dcE ct v.e v.t kx vx tg iter ifs scope)) := by
  unfold dcE
  split
  · rename_i h
    simp only [Bool.and_eq_true, Bool.not_eq_true', List.all_eq_true, decide_eq_true_eq] at h
    obtain ⟨⟨h1, h2⟩, h3⟩ := h
    exact be_dc k.calm k.nd (sn_it k s) (by rw [k.N, k.sc]; exact blkOk_by h1) h3 (fun s' H C cl fp => sn_ag 3 (k.blk s' H scope cl C fp) tg) (fun s' H C cl fp => sn_ts (k.blk s' H scope cl C fp) s ifs) (fun s' H C cl fp => sn_X (k.blk s' H scope cl C fp) s kx) (fun s' H C cl fp => sn_X (k.blk s' H scope cl C fp) s vx) (set_id h2)
  · exact pe_bad
theorem at_base {e : Expr} {f : Str} {env : Env} (h : atOk e = true) : attributeBase e f env (eval e env) = eval e env := by
  cases e with
  | Call f args kw pos =>
    cases args with
    | nil => cases h
    | cons a as => cases f <;> rfl
  | _ => first | rfl | cases h
theorem sn_stE (k : KnOk n T ct W X) (s : Snd n T v) (e : Expr) : PE X e (tO n W (stE T ct v.e v.t e)) := by
  unfold stE
  split
  · exact be_o (sn_nmX k)
  · exact be_o sn_cn
  · rename_i a op b pos
    obtain ⟨r, h1, h2⟩ := sn_opB k op
    exact be_op h1 h2 (sn_X k s a) (sn_X k s b)
  · exact be_neg (sn_X k s _)
  · exact be_not (sn_X k s _) k.K
  · exact sn_bo k s _
  · exact sn_cm k s
  · exact be_if (s.t k _) (s.e k _) (s.e k _)
  · exact be_tup (sn_L k s _)
  · exact be_lst (sn_L k s _)
  · exact sn_su k s
  · rename_i a f pos
    split
    · rename_i h
      rw [Bool.and_eq_true] at h
      exact be_fld (sn_W k s a) (at_base h.2) (k.g.fld f h.1) k.K
    · exact pe_bad
  · exact sn_ca k s
  · rename_i x p a y j p2 kp pos
    split
    · rename_i h
      simp only [Bool.and_eq_true, decide_eq_true_eq, Bool.not_eq_true'] at h
      obtain ⟨⟨⟨h1, h2⟩, h3⟩, h4⟩ := h
      subst h1 h2
      exact be_sortR (gl_ok k h3) (k.g.bi _ (biTab_mem (x := "sorted") (b := .sorted) (by rfl))) k.K (sn_W k s a) (star_cons h4)
    · exact pe_bad
  · exact sn_lc k s
  · exact be_dnew
  · exact sn_di k s
  · exact sn_dc k s
  · exact pe_bad
/-! tests -/
theorem sn_boT (k : KnOk n T ct W X) (s : Snd n T v) {op : BoolOp} {pos : Pos} : ∀ es : List Expr, PW X (.BoolOp op es pos) (tT n W (boT ct v.t op es))
  | [] => pw_bad
  | [a] => by
    cases op
    · exact bw_and1 (s.t k a)
    · exact bw_or1 (s.t k a)
  | a :: b :: es => by
    unfold boT
    cases op
    · exact bw_and (s.t k a) (sn_boT k s (b :: es))
    · exact bw_or (s.t k a) (sn_boT k s (b :: es))
theorem sn_cmT (k : KnOk n T ct W X) (s : Snd n T v) {a : Expr} {ops : List CmpOp} {es : List Expr} {pos : Pos} : PT X (.Compare a ops es pos) (tT n W (cmT ct v.e a ops es)) := by
  unfold cmT
  split
  · rename_i op b
    split
    · exact pt_bad
    · rename_i h
      split
      · rename_i q hq
        obtain ⟨x, p, rfl, g1, g2⟩ := inIx_ok k hq
        obtain ⟨v1, v2, v3, v4⟩ := ix_vis k g1
        exact bt_inN g2 v1 v2 v3 v4 (sn_X k s a) (by simpa using h)
      obtain ⟨r, h1, h2⟩ := sn_opC k op
      exact bt_cmp h1 h2 (sn_X k s a) (sn_X k s b) (by simpa using h)
  · rename_i op op' b c
    split
    · exact pt_bad
    · rename_i h
      obtain ⟨r, h1, h2⟩ := sn_opC k op
      obtain ⟨r', h3, h4⟩ := sn_opC k op'
      exact bt_chain h1 h3 h2 h4 (sn_X k s a) (sn_X k s b) (sn_X k s c) (by simpa using h)
  · exact pt_bad
end
end Bv

/-! the interpreter tells what the text does: statements -/
namespace Bv
open PySem PySem.Spec PyProof.Rows L2
section
variable {n : Nm} {W : WX} {X : Cx} {T : Tb} {ct : Ct} {v : Iv}
theorem sn_stT (k : KnOk n T ct W X) (s : Snd n T v) (e : Expr) : PT X e (tT n W (stT ct v.e v.t e)) := by
  unfold stT
  split
  · exact bt_not (s.t k _)
  · exact (sn_boT k s _).pt
  · exact sn_cmT k s
  · exact pt_bad
  · rename_i h1 h2 h3 h4
    refine bt_tru (sn_W k s e) (fun whole => ?_) k.K
    cases e with
    | UnaryOp op a p =>
      cases op with
      | Not => exact absurd rfl (h1 a p)
      | _ => rfl
    | BoolOp op es p => exact absurd rfl (h2 op es p)
    | Compare a ops es p => exact absurd rfl (h3 a ops es p)
    | IfExp a b c p => exact absurd rfl (h4 a b c p)
    | _ => rfl
theorem sn_iv : ∀ j : Nat, Snd n T (iv T j)
  | 0 => ⟨fun _ _ => pe_bad, fun _ _ => pt_bad⟩
  | j + 1 => ⟨fun k e => sn_stE k (sn_iv j) e, fun k e => sn_stT k (sn_iv j) e⟩
/-! what a block's scope alone tells -/
theorem swapsWith_env {e : Expr} {t : Option Expr} {l : Nat} {env env' : Env} (h : env.scope = env'.scope) : swapsWith e t l env = swapsWith e t l env' := by
  unfold swapsWith Env.blockKind Env.kindOf
  rw [h]
theorem swapsSole_env {ts : List Expr} {e : Expr} {l : Nat} {env env' : Env} (h : env.scope = env'.scope) : swapsWithSole ts e l env = swapsWithSole ts e l env' := by
  unfold swapsWithSole
  split
  · exact swapsWith_env h
  · rfl
theorem swapped_env {ts : List Expr} {e : Expr} {env env' : Env} (h : env.scope = env'.scope) : swappedStores ts e env = swappedStores ts e env' := by
  unfold swappedStores Env.blockKind Env.kindOf
  rw [h]
theorem swp_ok (k : KnOk n T ct W X) {tgs : List Expr} {e : Expr} {l : Nat} {b : Bool} (h : swp ct tgs e l = some b) : swapsWithSole tgs e l X.env = pure b := by
  rw [swapsSole_env (env' := ct.env) k.sc]
  unfold swp at h
  split at h
  · rename_i c q; cases h; exact q
  · cases h
theorem sws_ok (k : KnOk n T ct W X) {tgs : List Expr} {e : Expr} {b : Option (List Str)} (h : sws ct tgs e = some b) : swappedStores tgs e X.env = pure b := by
  rw [swapped_env (env' := ct.env) k.sc]
  unfold sws at h
  split at h
  · rename_i c q; cases h; exact q
  · cases h
theorem lo_ok {x : Str} (k : KnOk n T ct W X) (h : ct.lo x = true) : X.env.scope.names.lookup x = some .local := by
  rw [k.sc]
  unfold Ct.lo at h
  split at h
  · assumption
  · cases h
theorem exp_ok {e : Expr} {l : Nat} {env : Env} (h : isCmp e = false) : swapsWith e none l env = pure false := by
  cases e <;> first | rfl | cases h
theorem sn_asE (k : KnOk n T ct W X) (s : Snd n T v) {tg e : Expr} {pos : Pos} : PS X (.Assign [tg] e pos) (tS n W (asE T ct v tg e pos.line)) := by
  unfold asE
  split
  · rename_i x p1 f p2
    split
    · rename_i i h1 h2
      split
      · rename_i hf
        obtain ⟨g1, g2, g3, g4⟩ := ix_vis k h2
        exact bs_fld g1 g2 g3 g4 (sn_X k s e) (k.g.fld f hf) k.K (swp_ok k h1)
      · exact ps_bad
    · exact ps_bad
  · rename_i x p1 z j p2 p3
    split
    · rename_i i h1 h2
      obtain ⟨g1, g2, g3, g4⟩ := ix_vis k h2
      exact bs_dp k.g.un g1 g2 g3 g4 (sn_X k s e) (swp_ok k h1)
    · exact ps_bad
  · split
    · rename_i hsw
      split
      · rename_i y py elt tg iter ifs scope pp
        split
        · rename_i i h1 h2
          split
          · rename_i h
            simp only [Bool.and_eq_true, Bool.not_eq_true', List.all_eq_true, decide_eq_true_eq] at h
            obtain ⟨⟨g1, g2⟩, g3⟩ := h
            exact bs_setLc k.calm k.nd (by rw [k.N]; exact ixIn_get h2) (lo_ok k h1) (swp_ok k hsw) (sn_it k s) (by rw [k.N, k.sc]; exact blkOk_by g1) g3 (fun s' H C cl fp => sn_ag 3 (k.blk s' H _ cl C fp) _) (fun s' H C cl fp => sn_ts (k.blk s' H _ cl C fp) s _) (fun s' H C cl fp => sn_X (k.blk s' H _ cl C fp) s _) (set_id g2)
          · exact ps_bad
        · exact ps_bad
      · rename_i y py kx vx tg iter ifs scope pp
        split
        · rename_i i h1 h2
          split
          · rename_i h
            simp only [Bool.and_eq_true, Bool.not_eq_true', List.all_eq_true, decide_eq_true_eq] at h
            obtain ⟨⟨g1, g2⟩, g3⟩ := h
            exact bs_setDc k.calm k.nd (by rw [k.N]; exact ixIn_get h2) (lo_ok k h1) (swp_ok k hsw) (sn_it k s) (by rw [k.N, k.sc]; exact blkOk_by g1) g3 (fun s' H C cl fp => sn_ag 3 (k.blk s' H _ cl C fp) _) (fun s' H C cl fp => sn_ts (k.blk s' H _ cl C fp) s _) (fun s' H C cl fp => sn_X (k.blk s' H _ cl C fp) s _) (fun s' H C cl fp => sn_X (k.blk s' H _ cl C fp) s _) (set_id g2)
          · exact ps_bad
        · exact ps_bad
      · exact ps_bad
    · rename_i hsw
      split
      · rename_i hss
        split
        · exact ps_bad
        · rename_i hst
          split
          · rename_i x px y py z pz kt pt a b c k2 pt2
            split
            · rename_i h
              simp only [Bool.and_eq_true, Bool.not_eq_true'] at h
              obtain ⟨⟨⟨_, g1⟩, g2⟩, g3⟩ := h
              split
              · rename_i i j l h1 h2 h3
                obtain ⟨x1, x2, x3⟩ := tg_raw k h1
                obtain ⟨y1, y2, y3⟩ := tg_raw k h2
                obtain ⟨z1, z2, z3⟩ := tg_raw k h3
                exact bs_tpl3 k.calm k.nd x1 y1 z1 x2 y2 z2 x3 y3 z3 (be_fz (s.e k _)) (be_fz (s.e k _)) (be_fz (s.e k _)) (star_cons g1) (star_cons g2) (star_cons g3) (sws_ok k hss) (swp_ok k hsw)
              · exact ps_bad
            · exact bs_asg (be_fz (s.e k _)) (sn_ag 3 k _) (swp_ok k hsw) (sws_ok k hss) (as_cons (es := []) (by simpa using hst))
          · rename_i x px y py kt pt a b k2 pt2
            split
            · rename_i h
              simp only [Bool.and_eq_true, Bool.not_eq_true'] at h
              obtain ⟨⟨_, g1⟩, g2⟩ := h
              split
              · rename_i i j h1 h2
                obtain ⟨x1, x2, x3⟩ := tg_raw k h1
                obtain ⟨y1, y2, y3⟩ := tg_raw k h2
                exact bs_tpl2 k.calm k.nd x1 y1 x2 y2 x3 y3 (be_fz (s.e k _)) (be_fz (s.e k _)) (star_cons g1) (star_cons g2) (sws_ok k hss) (swp_ok k hsw)
              · exact ps_bad
            · exact bs_asg (be_fz (s.e k _)) (sn_ag 3 k _) (swp_ok k hsw) (sws_ok k hss) (as_cons (es := []) (by simpa using hst))
          · exact bs_asg (be_fz (s.e k e)) (sn_ag 3 k tg) (swp_ok k hsw) (sws_ok k hss) (as_cons (es := []) (by simpa using hst))
      · split
        · rename_i x px y py kt pt a b k2 pt2
          split
          · rename_i i j h1 h2
            split
            · rename_i h
              simp only [Bool.and_eq_true, Bool.not_eq_true', decide_eq_true_eq] at h
              obtain ⟨⟨⟨⟨⟨g1, g2⟩, g3⟩, g4⟩, g5⟩, g6⟩ := h
              exact bs_par k.calm k.nd (by rw [k.N]; exact ixIn_get h1) (by rw [k.N]; exact ixIn_get h2) g6 (lo_ok k g2) (lo_ok k g3) (be_fz (s.e k _)) (be_fz (s.e k _)) (star_cons g4) (star_cons g5) (sws_ok k g1) (swp_ok k hsw)
            · exact ps_bad
          · exact ps_bad
        · rename_i x px y py z pz kt pt a b c k2 pt2
          split
          · rename_i i j l h1 h2 h3
            split
            · rename_i h
              simp only [Bool.and_eq_true, Bool.not_eq_true', decide_eq_true_eq] at h
              obtain ⟨⟨⟨⟨⟨⟨⟨⟨⟨g1, g2⟩, g3⟩, g4⟩, g5⟩, g6⟩, g7⟩, g8⟩, g9⟩, g10⟩ := h
              exact bs_par3 k.calm k.nd (by rw [k.N]; exact ixIn_get h1) (by rw [k.N]; exact ixIn_get h2) (by rw [k.N]; exact ixIn_get h3) g8 g9 g10 (lo_ok k g2) (lo_ok k g3) (lo_ok k g4) (be_fz (s.e k _)) (be_fz (s.e k _)) (be_fz (s.e k _)) (star_cons g5) (star_cons g6) (star_cons g7) (sws_ok k g1) (swp_ok k hsw)
            · exact ps_bad
          · exact ps_bad
        · exact ps_bad
      · exact ps_bad
    · exact ps_bad
theorem sn_re (k : KnOk n T ct W X) (s : Snd n T v) {e : Expr} {pos : Pos} : PS X (.Return (some e) pos) (tS n W (reE ct v e)) := by
  unfold reE
  split
  · rename_i x p
    split
    · rename_i i h
      obtain ⟨h1, h2, h3, h4⟩ := ix_vis k h
      exact bs_ret (be_mv h1 h2 h3 h4)
    · exact ps_bad
  · exact bs_ret (s.e k _)
theorem sn_bl {g : Stmt → MS} (h : ∀ s, PS X s (tS n W (g s))) : ∀ ss : List Stmt, PSs X ss (tS n W (blS g ss))
  | [] => bss_nil
  | s :: ss => bss_cons (h s) (sn_bl h ss)
theorem sn_stG (k : KnOk n T ct W X) (hp : PassesOwn (model X.prog X.w) X.A X.env X.xe) (s : Snd n T v) {g : Stmt → MS} (h : ∀ s, PS X s (tS n W (g s))) (st : Stmt) : PS X st (tS n W (stG T ct v g st)) := by
  unfold stG
  split
  · exact bs_pass
  · exact bs_break
  · exact bs_continue
  · split
    · exact ps_bad
    · rename_i hc
      exact bs_expr (s.e k _) (exp_ok (by simpa using hc))
  · exact bs_retN
  · exact sn_re k s
  · exact sn_asE k s
  · exact bs_if (s.t k _) (sn_bl h _) (sn_bl h _)
  · split
    · exact ps_bad
    · rename_i hc
      exact bs_for hp k.calm (sn_it k s) (sn_ag 3 k _) (sn_bl h _) (set_id (by simpa using hc))
  · exact bs_while T.turns hp (s.t k _) (sn_bl h _)
  · exact ps_bad
theorem sn_ivS (k : KnOk n T ct W X) (hp : PassesOwn (model X.prog X.w) X.A X.env X.xe) : ∀ (j : Nat) (st : Stmt), PS X st (tS n W (ivS T j ct st))
  | 0, _ => ps_bad
  | j + 1, st => sn_stG k hp (sn_iv 30) (sn_ivS k hp j) st
theorem sn_body (k : KnOk n T ct W X) (hp : PassesOwn (model X.prog X.w) X.A X.env X.xe) (ss : List Stmt) : PSs X ss (tS n W (bodyS T ct ss)) := sn_bl (sn_ivS k hp 20) ss
end
/-! ### defs -/
section
variable {n : Nm} {T : Tb} {P : Program} {w : World} {K : PySem.W.Frag} {mg : Str → Option Value} {base : Heap}
def defCt (N u : List Str) (st : Stmt) : Ct := ⟨N, defScope st, fun _ => true, fun x => decide (x ∈ u)⟩
/-- a def by value -/
def defF (T : Tb) (N u : List Str) (st : Stmt) : FnS := runF N (bodyS T (defCt N u st) (defBody st))
def defI (T : Tb) (N u : List Str) (cn : Str) (st : Stmt) : FnI := runI N cn (bodyS T (defCt N u st) (defBody st))
theorem kn_def {qual : Str} {st : Stmt} {f : Addr} {cdv : Value} {A : Around} {outer : List Env} {s : Shared} {H : Hp} {E : XK} {N u : List Str}
    (g : Gk n T P w K mg base (A.deeper (envOfC qual (defScope st) s.heap.objs.size f cdv))) (hK : K = n.K) (hN : N.Nodup) (nm : ∀ x ∈ N, (x == ("__debug__" : Str)) = false ∧ (x == ("__classdict__" : Str)) = false) :
    KnOk n T (defCt N u st) (fun cls d _ H => E cls d H) (cxOf (L2.CX P w) P w K mg base N qual (defScope st) f cdv A outer s H E) where
  g := g
  N := rfl
  nd := hN
  sc := rfl
  fn := rfl
  calm := rfl
  K := hK
  tk := takes_of rfl rfl rfl rfl
  hW := fun _ _ _ _ _ h => h
  nm := nm
theorem def_ok {x qual : Str} {st : Stmt} {f : Addr} {fd : FuncData} {N u ps : List Str} {k : Nat} (F : Fun K x qual st f fd) (SC : FnScope N ps (defScope st)) (hK : K = n.K) (nm : ∀ x ∈ N, (x == ("__debug__" : Str)) = false ∧ (x == ("__classdict__" : Str)) = false)
    (g : ∀ A, Room k A → Gk n T P w K mg base A) : FnOk P w K mg base (L2.CX P w) (k + 1) f fd ps (spB n ps.length (defF T N u st)) :=
  fn_body F SC fun cdv A outer s H E hr => sn_body (kn_def (g _ hr) hK SC.nd nm) (passes_of rfl) (defBody st)
theorem ini_ok {x qual cn : Str} {st : Stmt} {f : Addr} {fd : FuncData} {N u ps : List Str} {k : Nat} (m : Nat) (hm : ps.length = m + 1) (F : Fun K x qual st f fd) (SC : FnScope N ps (defScope st)) (hK : K = n.K) (nm : ∀ x ∈ N, (x == ("__debug__" : Str)) = false ∧ (x == ("__classdict__" : Str)) = false)
    (g : ∀ A, Room k A → Gk n T P w K mg base A) : FnOk P w K mg base (L2.CX P w) (k + 1) f fd ps (spI n cn m (defI T N u cn st)) :=
  init_body m hm F SC fun cdv A outer s H E hr => sn_body (kn_def (g _ hr) hK SC.nd nm) (passes_of rfl) (defBody st)
end
end Bv

/-! ends: the names of a text, the law -/
namespace Bv
open PySem PySem.Spec PyProof.Rows L2
def isiT (isi : List (List Str × Ty × Bool)) (cs : List Str) (t : Ty) : Option Bool := (isi.find? fun e => decide (e.1 = cs ∧ e.2.1 = t)).map (·.2.2)
/-- a table from lists -/
def mkT (fn : List (Str × Nat × FnS)) (cl : List (Str × Nat × FnI)) (ty : List Str) (isi : List (List Str × Ty × Bool)) (fld : List Str) (g : Bool) : Tb where
  fn := fun x => fn.lookup x
  cl := fun x => cl.lookup x
  ty := fun x => decide (x ∈ ty)
  isi := isiT isi
  fld := fun f => decide (f ∈ fld)
  gcd := g
  turns := 1000000
section
variable {n : Nm} {P : Program} {w : World} {K : PySem.W.Frag} {mg : Str → Option Value} {base : Heap}
/-- a def that keeps its promise -/
def Df (n : Nm) (P : Program) (w : World) (K : PySem.W.Frag) (mg : Str → Option Value) (base : Heap) (k : Nat) (p : Str × Nat × FnS) : Prop :=
  (p.1 == ("__debug__" : Str)) = false ∧ ∃ j a fd ps, j ≤ k ∧ FnOk P w K mg base (L2.CX P w) j a fd ps (spB n p.2.1 p.2.2) ∧ mg p.1 = some (.ref a) ∧ PySem.W.keepIn K (.ref a) = true ∧ Binds K fd ps []
/-- a class, by its __init__ -/
def Dc (n : Nm) (P : Program) (w : World) (K : PySem.W.Frag) (mg : Str → Option Value) (base : Heap) (k : Nat) (p : Str × Nat × FnI) : Prop :=
  (p.1 == ("__debug__" : Str)) = false ∧ ∃ j a C fd ps, j + 1 ≤ k ∧ Mk K C a ∧ FnOk P w K mg base (L2.CX P w) j a fd ps (spI n p.1 p.2.1 p.2.2) ∧ n.cA p.1 = some C ∧ mg p.1 = some (.ref C) ∧ Binds K fd ps []
structure Tx (n : Nm) (K : PySem.W.Frag) (mg : Str → Option Value) (ty : List Str) (isi : List (List Str × Ty × Bool)) (fld : List Str) (g : Bool) : Prop where
  bi : ∀ p ∈ biTab, mg p.1 = none
  rg : mg "range" = none
  en : mg "enumerate" = none
  zp : mg "zip" = none
  gc : g = true → mg "gcd" = some (.builtin "math.gcd")
  ty : ∀ x ∈ ty, (x == ("__debug__" : Str)) = false ∧ x ≠ "__name__" ∧ ((∃ C, n.cA x = some C ∧ mg x = some (.ref C)) ∨ ∃ s, n.cA x = none ∧ mg x = none ∧ bootBuiltins x = some (.type s))
  isi : ∀ e ∈ isi, ∀ v, e.2.1.val n = some v → PySem.W.kitAny n.K v (e.1.map (uOf n)) = some e.2.2
  hA : ClsAll n
  fld : ∀ f ∈ fld, NoAt n f
theorem gk_mk {ty : List Str} {isi : List (List Str × Ty × Bool)} {fld : List Str} {g : Bool} {fn : List (Str × Nat × FnS)} {cl : List (Str × Nat × FnI)} {k : Nat} (X : Tx n K mg ty isi fld g) (hf : ∀ p ∈ fn, Df n P w K mg base k p) (hc : ∀ p ∈ cl, Dc n P w K mg base k p) :
    ∀ A, Room k A → Gk n (mkT fn cl ty isi fld g) P w K mg base A := fun A hr => by
  refine ⟨by have := hr.un; omega, X.bi, X.rg, X.en, X.zp, X.gc, fun x m f h => ?_, fun x m f h => ?_, fun x h => X.ty x (of_decide_eq_true h), fun cs t b v h hv => ?_, X.hA, fun f h => X.fld f (of_decide_eq_true h)⟩
  · obtain ⟨h1, j, a, fd, ps, h2, h3, h4, h5, h6⟩ := hf _ (mem_of_lookup h)
    exact ⟨h1, j, a, fd, ps, h3, hr.mono h2, h4, h5, h6⟩
  · obtain ⟨h1, j, a, C, fd, ps, h2, h3, h4, h5, h6, h7⟩ := hc _ (mem_of_lookup h)
    exact ⟨h1, j, a, C, fd, ps, h3, h4, hr.mono h2, h5, h6, h7⟩
  · have h : (isi.find? fun e => decide (e.1 = cs ∧ e.2.1 = t)).map (·.2.2) = some b := h
    cases q : isi.find? fun e => decide (e.1 = cs ∧ e.2.1 = t) with
    | none => rw [q] at h; cases h
    | some e =>
      rw [q] at h
      cases h
      have h0 := List.find?_some q
      have h1 : e.1 = cs ∧ e.2.1 = t := by simpa using h0
      have h2 := X.isi e (List.mem_of_find?_eq_some q) v (by rw [h1.2]; exact hv)
      rw [h1.1] at h2
      exact h2
theorem df_mk {T : Tb} {x qual : Str} {st : Stmt} {f : Addr} {fd : FuncData} {N u ps : List Str} {k : Nat} (hK : K = n.K) (F : Fun K x qual st f fd) (SC : FnScope N ps (defScope st)) (nm : ∀ x ∈ N, (x == ("__debug__" : Str)) = false ∧ (x == ("__classdict__" : Str)) = false)
    (g : ∀ A, Room k A → Gk n T P w K mg base A) (hx : (x == ("__debug__" : Str)) = false) (hm : mg x = some (.ref f)) (hb : Binds K fd ps []) {j : Nat} (hj : k + 1 ≤ j) : Df n P w K mg base j (x, ps.length, defF T N u st) :=
  ⟨hx, k + 1, f, fd, ps, hj, def_ok F SC hK nm g, hm, F.kp, hb⟩
theorem dc_mk {T : Tb} {cn qual : Str} {st : Stmt} {f C : Addr} {fd : FuncData} {N u ps : List Str} {k m : Nat} (hK : K = n.K) (hm : ps.length = m + 1) (F : Fun K "__init__" qual st f fd) (SC : FnScope N ps (defScope st)) (nm : ∀ x ∈ N, (x == ("__debug__" : Str)) = false ∧ (x == ("__classdict__" : Str)) = false)
    (g : ∀ A, Room k A → Gk n T P w K mg base A) (hx : (cn == ("__debug__" : Str)) = false) (MK : Mk K C f) (hC : n.cA cn = some C) (hg : mg cn = some (.ref C)) (hb : Binds K fd ps []) {j : Nat} (hj : k + 2 ≤ j) : Dc n P w K mg base j (cn, m, defI T N u cn st) :=
  ⟨hx, k + 1, f, C, fd, ps, hj, MK, ini_ok m hm F SC hK nm g, hC, hg, hb⟩
end
/-! ### the law's def -/
def spLaw (K : PySem.W.Frag) : Sp := fun vs H Q _ => ∃ (a : Addr) (ns : List Int), vs = [.ref a] ∧ SqL K H a (ns.map V.int) ∧ ns.length ≤ 63 ∧ ∀ H', Q (.bl true) H'
/-- what is to be shown of the law in plain words -/
def Plain (f : FnS) : Prop := ∀ ns : List Int, ns.length ≤ 63 → ∃ s, f [.scr (ns.map D.int)] ⟨[], []⟩ = .ok (.sh (.bl true)) s
theorem law_imp {n : Nm} {f : FnS} (hp : Plain f) : ∀ vs H Q E, spLaw n.K vs H Q E → spB n 1 f vs H Q E := fun vs H Q E ⟨a, ns, h1, h2, h3, h4⟩ => by
  subst h1
  obtain ⟨s, hs⟩ := hp ns h3
  refine ⟨{ S := ⟨[], []⟩, σ := [], φ := [], F := fun b => if b = a then H a else none, H := H, an := 0 }, [.scr (ns.map D.int)], rfl, rfl, rfl, ⟨rfl, fun b o e => ?_, fun i x e => by simp at e, fun i j x y b _ e => by simp at e, List.nodup_nil, rfl, fun k o b e => by simp at e, fun b hb => by cases hb⟩, .cons (.scr ?_ (isL_ints ns)) .nil, rfl, ?_⟩
  · have e : (if b = a then H a else none) = some o := e
    split at e
    · rename_i q; rw [q]; exact e
    · cases e
  · have ha : (fun b => if b = a then H a else none : Hp) a = H a := by show (if a = a then H a else none) = _; rw [if_pos rfl]
    rcases h2 with (h | ⟨o, h⟩) | h
    · exact .inl (.inl (ha.trans h))
    · exact .inl (.inr ⟨o, ha.trans h⟩)
    · exact .inr h
  · show OutF n _ (f [.scr (ns.map D.int)] ⟨[], []⟩) Q E
    rw [hs]
    intro v c' e1 e2 s' k' i ow
    have i : Is n c'.F c'.φ v (.bl true) := i
    rw [is_bl i]
    exact h4 _
theorem law_walk {l : PySem.W.OpenLaw} {q : Program} {loose : List Str} {XP : (Str → Option Value) → Heap → Prop} {YP : World → Heap → Prop} {d : DefRec} {K : Params → PySem.W.Frag} (k : Nat) (hn : l.most = some 63) (hdf : d.params.defaults = []) (hr : Room k callerA)
    (hY : ∀ (w : World) (h : Heap), YP w h → (K w.params).In h)
    (F : ∀ (w : World) (mg : Str → Option Value) (fa : Addr) (h : Heap), (K w.params).In h → h.Ns mainGlobals mg → mg d.name = some (.ref fa) →
      ∃ fd : FuncData, (∀ (s : Shared) (u : Value), BindsTo s fd ⟨[u], []⟩ [("script", u)]) ∧ ∀ base : Heap, (K w.params).In base → base.Ns mainGlobals mg → FnOk l.prog w (K w.params) mg base (L2.CX l.prog w) k fa fd ["script"] (spLaw (K w.params))) :
    PySem.W.WalkO q loose XP YP l.row.toRowW d [] (fun f vs => PySem.call f vs) :=
  L2.walk_of (n := 63) (k := k) (x := "script") (CX := fun w => L2.CX l.prog w) (sp := fun w => spLaw (K w.params)) hn (by decide) hdf hr hY F (fun _ _ a ns hl _ hS => ⟨a, ns, rfl, hS, hl, fun _ => rfl⟩) fun w H s e s' z => by
    obtain ⟨_, _, _, _, _, _, _, _, _, _, _, _, z⟩ := z
    exact z
end Bv

/-! names from lists -/
namespace Bv
open PySem PySem.Spec PyProof.Rows L2
def nmOf (K : PySem.W.Frag) (cl : List (Str × Addr)) : Nm := ⟨K, fun x => cl.lookup x, fun _ => none⟩
theorem all2 {α : Type} {p : α → Prop} {a : α} {l : List α} (h : p a) (t : ∀ x ∈ l, p x) : ∀ x ∈ a :: l, p x := fun x hx => by
  rcases List.mem_cons.mp hx with rfl | hx
  · exact h
  · exact t x hx
theorem all0 {α : Type} {p : α → Prop} : ∀ x ∈ ([] : List α), p x := fun _ h => by cases h
theorem cls_mk {K : PySem.W.Frag} {cl : List (Str × Addr)} (h : ∀ p ∈ cl, ClsI K p.2) : ClsAll (nmOf K cl) := fun x C e => h (x, C) (mem_of_lookup e)
theorem noAt_mk {K : PySem.W.Frag} {cl : List (Str × Addr)} {f : Str} (h : ∀ p ∈ cl, ClsI K p.2) (h2 : ∀ p ∈ cl, NoAttr K p.2 f) : NoAt (nmOf K cl) f := fun x C e => ⟨h (x, C) (mem_of_lookup e), h2 (x, C) (mem_of_lookup e)⟩
theorem isi_mk {n : Nm} {cs : List Str} {t : Ty} {b : Bool} {u : Value} {us : List Value} (h1 : t.val n = some u) (h2 : cs.map (uOf n) = us) (h : PySem.W.kitAny n.K u us = some b) : ∀ v, t.val n = some v → PySem.W.kitAny n.K v (cs.map (uOf n)) = some b := fun v hv => by
  rw [h1] at hv
  cases hv
  rw [h2]
  exact h
theorem u_ty {K : PySem.W.Frag} {cl : List (Str × Addr)} {x : Str} {s : String} (h : cl.lookup x = none) (b : bootBuiltins x = some (.type s)) : uOf (nmOf K cl) x = .type s := by
  unfold uOf
  have : (nmOf K cl).cA x = none := h
  rw [this, b]
theorem u_cl {K : PySem.W.Frag} {cl : List (Str × Addr)} {x : Str} {C : Addr} (h : cl.lookup x = some C) : uOf (nmOf K cl) x = .ref C := by
  unfold uOf
  have : (nmOf K cl).cA x = some C := h
  rw [this]
theorem df_bad {n : Nm} {P : Program} {w : World} {K : PySem.W.Frag} {mg : Str → Option Value} {base : Heap} {x : Str} {m j : Nat} {f : FnS} (h : Df n P w K mg base j (x, m, f)) : Df n P w K mg base j (x, m, fun _ => bad) := by
  obtain ⟨h1, j', a, fd, ps, h2, F, r⟩ := h
  exact ⟨h1, j', a, fd, ps, h2, F.imp (fun vs H Q E ⟨c, ds, _, _, _, _, _, _, o⟩ => o.elim), r⟩
def kitBs (t : String) : List String → Option Bool
  | [] => some false
  | c :: r => match kitB t c with
    | some true => some true
    | some false => kitBs t r
    | none => none
theorem kitAny_bs {K : PySem.W.Frag} {t : String} : ∀ {cs : List String} {b : Bool}, kitBs t cs = some b → PySem.W.kitAny K (.type t) (cs.map Value.type) = some b
  | [], b, h => h
  | c :: r, b, h => by
    unfold kitBs at h
    rw [List.map_cons]
    unfold PySem.W.kitAny
    cases q : kitB t c with
    | none => rw [q] at h; cases h
    | some z =>
      rw [q] at h
      rw [kit_ty q]
      cases z with
      | true => exact h
      | false => exact kitAny_bs h
end Bv

/-! reasoning about meanings -/
namespace Bv
open PySem PySem.Spec PyProof.Rows L2
structure wm {α : Type} (m : M α) (s : S) (Q : α → S → Prop) : Prop where
  out : match m s with
    | .ok a s' => Q a s'
    | _ => False
structure ws (f : MS) (s : S) (N : S → Prop) (R : L → S → Prop) (B C : S → Prop) : Prop where
  out : match f s with
    | .nx s' => N s'
    | .rt l s' => R l s'
    | .bk s' => B s'
    | .ct s' => C s'
    | _ => False
/-- the i-th is x afterwards -/
inductive SetAt {α : Type} : Nat → α → List α → List α → Prop
  | z {x a : α} {l : List α} : SetAt 0 x (a :: l) (x :: l)
  | s {i : Nat} {x a : α} {l m : List α} : SetAt i x l m → SetAt (i + 1) x (a :: l) (a :: m)
theorem SetAt.eq {α : Type} {i : Nat} {x : α} {l m : List α} (h : SetAt i x l m) : l.set i x = m := by
  induction h with
  | z => rfl
  | s _ ih => rw [List.set_cons_succ, ih]
section
variable {α β : Type} {s s' : S} {st : List MO} {sl sm : List (Option L)}
theorem wm_mono {m : M α} {Q Q' : α → S → Prop} (h : wm m s Q) (q : ∀ a s', Q a s' → Q' a s') : wm m s Q' := by
  refine ⟨?_⟩
  have h := h.out
  split at h
  · exact q _ _ h
  · exact h.elim
theorem ws_mono {f : MS} {N N' : S → Prop} {R R' : L → S → Prop} {B B' C C' : S → Prop} (h : ws f s N R B C) (h1 : ∀ s, N s → N' s) (h2 : ∀ l s, R l s → R' l s) (h3 : ∀ s, B s → B' s) (h4 : ∀ s, C s → C' s) : ws f s N' R' B' C' := by
  refine ⟨?_⟩
  have h := h.out
  split at h
  · exact h1 _ h
  · exact h2 _ _ h
  · exact h3 _ h
  · exact h4 _ h
  · exact h.elim
theorem wm_ok {m : M α} {Q : α → S → Prop} (h : wm m s Q) : ∃ a s', m s = .ok a s' ∧ Q a s' := by
  have h := h.out
  split at h
  · rename_i a s' e; exact ⟨a, s', e, h⟩
  · exact h.elim
theorem w_eq {m : M α} {Q : α → S → Prop} {a : α} (e : m s = .ok a s') (h : Q a s') : wm m s Q := by
  refine ⟨?_⟩; rw [e]; exact h
theorem w_bind {m : M β} {k : β → M α} {Q : α → S → Prop} (h : wm m s fun a s' => wm (k a) s' Q) : wm (m >>= k) s Q := by
  obtain ⟨a, s', e, h⟩ := wm_ok h
  refine ⟨?_⟩
  show (match M.bind m k s with | .ok a s' => Q a s' | _ => False)
  unfold M.bind
  rw [e]
  exact h.out
theorem w_pure {a : α} {Q : α → S → Prop} (h : Q a s) : wm (pure a : M α) s Q := ⟨h⟩
theorem w_dM {f : M L} {Q : D → S → Prop} (h : wm f s fun x s' => Q x.d s') : wm (dM f) s Q := w_bind (wm_mono h fun _ _ q => ⟨q⟩)
theorem w_sM {f : M D} {Q : L → S → Prop} (h : wm f s fun x s' => Q (.sh x) s') : wm (sM f) s Q := w_bind (wm_mono h fun _ _ q => ⟨q⟩)
theorem w_th {f : M L} {g : L → M L} {Q : L → S → Prop} (h : wm f s fun x s' => wm (g x) s' Q) : wm (thM f g) s Q := w_bind h
theorem w_fn {f : M (List D)} {g : List D → M L} {Q : L → S → Prop} (h : wm f s fun x s' => wm (g x) s' Q) : wm (fnM f g) s Q := w_bind h
theorem w_rg {f : M (List D)} {g : List D → M (List D)} {Q : List D → S → Prop} (h : wm f s fun x s' => wm (g x) s' Q) : wm (rgM f g) s Q := w_bind h
theorem w_it {f : M D} {Q : List D → S → Prop} (h : wm f s fun x s' => wm (itD x) s' Q) : wm (itM f) s Q := w_bind h
theorem w_nil {Q : List D → S → Prop} (h : Q [] s) : wm nilM s Q := ⟨h⟩
theorem w_cons {f : M D} {fs : M (List D)} {Q : List D → S → Prop} (h : wm f s fun d s1 => wm fs s1 fun ds s2 => Q (d :: ds) s2) : wm (consM f fs) s Q := w_bind (wm_mono h fun _ _ h => w_bind (wm_mono h fun _ _ q => ⟨q⟩))
theorem w_bin2 {fa fb : M D} {g : D → D → M L} {Q : L → S → Prop} (h : wm fa s fun x s1 => wm fb s1 fun y s2 => wm (g x y) s2 Q) : wm (bin2 fa fb g) s Q := w_bind (wm_mono h fun _ _ h => w_bind h)
theorem w_sl {i : Nat} {x : L} {Q : L → S → Prop} (h : s.sl[i]? = some (some x)) (q : Q x s) : wm (slN i) s Q := by
  refine w_eq (s' := s) (a := x) ?_ q
  unfold slN; rw [h]
theorem w_esc {i : Nat} {d : D} {Q : D → S → Prop} (h : s.sl[i]? = some (some (.sh d))) (q : Q d s) : wm (escN i) s Q := by
  refine w_eq (s' := s) (a := d) ?_ q
  unfold escN; rw [h]
  have e : s.sl.set i (some (.sh d)) = s.sl := by
    apply List.ext_getElem?
    intro j
    by_cases hij : i = j
    · subst hij; rw [List.getElem?_set_self', h]; rfl
    · rw [List.getElem?_set_ne hij]
  show Res.ok d { s with sl := s.sl.set i (some (.sh d)) } = .ok d s
  rw [e]
theorem w_escO {i : Nat} {x : L} {Q : D → S → Prop} (h : sl[i]? = some (some x)) (hs : SetAt i (some (.sh x.d)) sl sm) (q : Q x.d ⟨sm, st⟩) : wm (escN i) ⟨sl, st⟩ Q := by
  refine w_eq (s' := ⟨sm, st⟩) (a := x.d) ?_ q
  unfold escN; rw [h, ← hs.eq]
theorem w_mv {i : Nat} {x : L} {Q : L → S → Prop} (h : sl[i]? = some (some x)) (hs : SetAt i none sl sm) (q : Q x ⟨sm, st⟩) : wm (mvN i) ⟨sl, st⟩ Q := by
  refine w_eq (s' := ⟨sm, st⟩) (a := x) ?_ q
  unfold mvN; rw [h, ← hs.eq]
/-! values -/
section
variable {Q : L → S → Prop} {i j : Int}
theorem w_addI (q : Q (.sh (.int (i + j))) s) : wm (gAdd (.int i) (.int j)) s Q := ⟨q⟩
theorem w_subI (q : Q (.sh (.int (i - j))) s) : wm (gSub (.int i) (.int j)) s Q := ⟨q⟩
theorem w_mulI (h : -(2 ^ 64) < i ∧ i < 2 ^ 64 ∨ -(2 ^ 64) < j ∧ j < 2 ^ 64) (q : Q (.sh (.int (i * j))) s) : wm (gMul (.int i) (.int j)) s Q := by
  refine w_eq (s' := s) (a := .sh (.int (i * j))) ?_ q
  unfold gMul
  dsimp only
  rw [if_pos (by simpa [Bool.or_eq_true, Bool.and_eq_true] using h)]
  rfl
theorem w_fdvI (h : 0 < j) (h2 : j < 1073741824) (q : Q (.sh (.int (i / j))) s) : wm (gFdv (.int i) (.int j)) s Q := by
  refine w_eq (s' := s) (a := .sh (.int (i / j))) ?_ q
  unfold gFdv gI
  dsimp only
  rw [if_pos (by simp [h, h2])]
  rfl
theorem w_modI (h : 0 < j) (q : Q (.sh (.int (i % j))) s) : wm (gMod (.int i) (.int j)) s Q := by
  refine w_eq (s' := s) (a := .sh (.int (i % j))) ?_ q
  unfold gMod gI
  dsimp only
  rw [if_pos (by simp [h])]
  rfl
theorem w_powI (h : 0 ≤ j ∧ j ≤ 1000000 ∧ i.natAbs < 2 ^ 64) (q : Q (.sh (.int (i ^ j.toNat))) s) : wm (gPow (.int i) (.int j)) s Q := by
  refine w_eq (s' := s) (a := .sh (.int (i ^ j.toNat))) ?_ q
  unfold gPow gI
  dsimp only
  rw [if_pos (by simp [h])]
  rfl
theorem w_negI {f : M D} (h : wm f s fun d s' => ∃ i, d = .int i ∧ Q (.sh (.int (-i))) s') : wm (negM f) s Q := by
  refine w_bind (wm_mono h fun d s' ⟨i, e, q⟩ => ?_)
  subst e
  exact ⟨q⟩
theorem w_ltI (q : Q (.sh (.bl (decide (i < j)))) s) : wm (gLt (.int i) (.int j)) s Q := ⟨q⟩
theorem w_leI (q : Q (.sh (.bl (decide (i ≤ j)))) s) : wm (gLe (.int i) (.int j)) s Q := ⟨q⟩
theorem w_gtI (q : Q (.sh (.bl (decide (j < i)))) s) : wm (gGt (.int i) (.int j)) s Q := ⟨q⟩
theorem w_geI (q : Q (.sh (.bl (decide (j ≤ i)))) s) : wm (gGe (.int i) (.int j)) s Q := ⟨q⟩
theorem eqD_int (i j : Int) : eqD (.int i) (.int j) = some (decide (i = j)) := by
  have h : eqD (.int i) (.int j) = some (PyData.eqv (.int i) (.int j)) := rfl
  rw [h]
  have h2 : PyData.eqv (.int i) (.int j) = (i == j) := by rw [PyData.eqv]
  rw [h2]
  rfl
theorem w_eqI (q : Q (.sh (.bl (decide (i = j)))) s) : wm (gEq (.int i) (.int j)) s Q := by
  refine w_eq (s' := s) (a := .sh (.bl (decide (i = j)))) ?_ q
  unfold gEq; rw [eqD_int]; rfl
theorem w_neI (q : Q (.sh (.bl (!decide (i = j)))) s) : wm (gNe (.int i) (.int j)) s Q := by
  refine w_eq (s' := s) (a := .sh (.bl (!decide (i = j)))) ?_ q
  unfold gNe; rw [eqD_int]; rfl
theorem w_neS (q : Q (.sh (.bl false)) s) : wm (gNe (.int i) (.int i)) s Q := by
  refine w_neI ?_
  rw [decide_eq_true rfl]
  exact q
theorem w_eqS (q : Q (.sh (.bl true)) s) : wm (gEq (.int i) (.int i)) s Q := by
  refine w_eqI ?_
  rw [decide_eq_true rfl]
  exact q
theorem w_eqD {d e : D} {b : Bool} (h : eqD d e = some b) (q : Q (.sh (.bl b)) s) : wm (gEq d e) s Q := by
  refine w_eq (s' := s) (a := .sh (.bl b)) ?_ q
  unfold gEq; rw [h]; rfl
theorem w_neD {d e : D} {b : Bool} (h : eqD d e = some b) (q : Q (.sh (.bl !b)) s) : wm (gNe d e) s Q := by
  refine w_eq (s' := s) (a := .sh (.bl !b)) ?_ q
  unfold gNe; rw [h]; rfl
theorem w_isF {d e : D} {b : Bool} (h : isD d e = some b) (q : Q (.sh (.bl b)) s) : wm (gIs false d e) s Q := by
  refine w_eq (s' := s) (a := .sh (.bl b)) ?_ q
  unfold gIs; rw [h]; rfl
theorem w_tup {ds : List D} (h : ds.length ≤ lineN) (q : Q (.sh (.tup ds)) s) : wm (gTup ds) s Q := by
  refine w_eq (s' := s) (a := .sh (.tup ds)) ?_ q
  unfold gTup; rw [if_pos h]; rfl
theorem w_lst {ds : List D} (h : ds.length ≤ lineN) (q : Q (.ol ds) s) : wm (gLst ds) s Q := by
  refine w_eq (s' := s) (a := .ol ds) ?_ q
  unfold gLst; rw [if_pos h]; rfl
theorem w_int (q : Q (.sh (.int i)) s) : wm (intW (.sh (.int i))) s Q := ⟨q⟩
theorem w_ixW {l : L} {ds : List D} {d : D} (hl : l.d = .lst ds ∨ l.d = .tup ds) (h : atI ds i = some d) (q : Q (.sh d) s) : wm (ixW l (.int i)) s Q := by
  refine w_eq (s' := s) (a := .sh d) ?_ q
  unfold ixW
  rcases hl with e | e <;> (rw [e]; dsimp only; rw [h]; rfl)
theorem w_ixM {fa fb : M D} (h : wm fa s fun d s1 => wm fb s1 fun e s2 => wm (ixW (.sh d) e) s2 Q) : wm (ixM fa fb) s Q := w_bind (wm_mono h fun _ _ h => w_bind h)
theorem w_ixN {k : Nat} {x : L} {fb : M D} (h0 : s.sl[k]? = some (some x)) (h : wm fb s fun e s2 => wm (slN k) s2 fun l s3 => wm (ixW l e) s3 Q) : wm (ixNM k fb) s Q :=
  w_bind (w_sl h0 (w_bind (wm_mono h fun _ _ h => w_bind h)))
theorem w_fldS {C : Str} {fs : List (Str × D)} {f : Str} {d : D} (h : fs.lookup f = some d) (q : Q (.sh d) s) : wm (fldW f (.sh (.inst C fs))) s Q := by
  show wm (match fs.lookup f with | some d => (pure (.sh d) : M L) | none => bad) s Q
  rw [h]; exact ⟨q⟩
theorem w_fldO {b : Bool} {C : Str} {fs : List (Str × D)} {f : Str} {d : D} (h : fs.lookup f = some d) (q : Q (.sh d) s) : wm (fldW f (.oi b C fs)) s Q := by
  show wm (match fs.lookup f with | some d => (pure (.sh d) : M L) | none => bad) s Q
  rw [h]; exact ⟨q⟩
theorem w_isi {l : L} {g : Ty → Option Bool} {t : Ty} {b : Bool} (h : tyD l.d = some t) (h2 : g t = some b) (q : Q (.sh (.bl b)) s) : wm (isiW g l) s Q := by
  refine w_eq (s' := s) (a := .sh (.bl b)) ?_ q
  unfold isiW
  rw [h]
  show (match g t with | some b => pure (.sh (.bl b)) | none => bad : M L) s = _
  rw [h2]; rfl
theorem w_dg {k : Nat} {z : Str} {j : Nat} {fs : List (Str × D)} {d : D} (h : s.sl[k]? = some (some (.sh (.mref j)))) (h2 : s.st[j]? = some (.dic fs)) (h3 : fs.lookup z = some d) (q : Q (.sh d) s) : wm (dgN k z) s Q := by
  refine w_eq (s' := s) (a := .sh d) ?_ q
  unfold dgN; rw [h]; dsimp only; rw [h2]; dsimp only; rw [h3]
theorem w_andM {f : M D} {g : M L} (h : wm f s fun d s' => ∃ b, d = .bl b ∧ if b = true then wm g s' Q else Q (.sh (.bl false)) s') : wm (Bv.andM f g) s Q := by
  refine w_bind (wm_mono h fun d s' ⟨b, e, q⟩ => ?_)
  subst e
  cases b with
  | true => rw [if_pos rfl] at q; exact q
  | false => rw [if_neg (by decide)] at q; exact ⟨q⟩
theorem w_orM {f : M D} {g : M L} (h : wm f s fun d s' => ∃ b, d = .bl b ∧ if b = true then Q (.sh (.bl true)) s' else wm g s' Q) : wm (Bv.orM f g) s Q := by
  refine w_bind (wm_mono h fun d s' ⟨b, e, q⟩ => ?_)
  subst e
  cases b with
  | true => rw [if_pos rfl] at q; exact ⟨q⟩
  | false => rw [if_neg (by decide)] at q; exact q
theorem w_notM {f : M D} (h : wm f s fun d s' => ∃ b, truD (.sh d) = some b ∧ Q (.sh (.bl !b)) s') : wm (Bv.notM f) s Q := by
  refine w_bind (wm_mono h fun d s' ⟨b, e, q⟩ => ?_)
  rw [e]
  exact ⟨q⟩
theorem w_ifM {t : M Bool} {f g : M L} (h : wm t s fun b s' => if b = true then wm f s' Q else wm g s' Q) : wm (Bv.ifM t f g) s Q := by
  refine w_bind (wm_mono h fun b s' q => ?_)
  cases b with
  | true => rw [if_pos rfl] at q; exact q
  | false => rw [if_neg (by decide)] at q; exact q
end
theorem w_len {l : L} {ds : List D} {Q : L → S → Prop} (h : l.d = .lst ds ∨ l.d = .tup ds) (q : Q (.sh (.int ds.length)) s) : wm (lenW l) s Q := by
  refine w_eq (s' := s) (a := .sh (.int ds.length)) ?_ q
  unfold lenW
  rcases h with e | e <;> (rw [e]; rfl)
theorem if_dec {P : Prop} {inst : Decidable P} {a b : Prop} (h1 : P → a) (h2 : ¬ P → b) : if @decide P inst = true then a else b := by
  by_cases h : P
  · rw [if_pos (decide_eq_true h)]; exact h1 h
  · rw [if_neg (by simp [h])]; exact h2 h
theorem if_decT {P : Prop} {inst : Decidable P} {a b : Prop} (h : P) (q : a) : if @decide P inst = true then a else b := by rw [if_pos (decide_eq_true h)]; exact q
theorem if_decF {P : Prop} {inst : Decidable P} {a b : Prop} (h : ¬ P) (q : b) : if @decide P inst = true then a else b := by rw [if_neg (by simp [h])]; exact q
theorem if_not {c : Bool} {a b : Prop} (h : if c = true then b else a) : if (!c) = true then a else b := by
  cases c with
  | true => rw [if_neg (by decide)]; rw [if_pos rfl] at h; exact h
  | false => rw [if_pos (by decide)]; rw [if_neg (by decide)] at h; exact h
theorem if_tt {a b : Prop} (h : a) : if true = true then a else b := by rw [if_pos rfl]; exact h
theorem if_ff {a b : Prop} (h : b) : if false = true then a else b := by rw [if_neg (by decide)]; exact h
theorem if_t {c : Bool} {a b : Prop} (e : c = true) (h : a) : if c = true then a else b := by rw [if_pos e]; exact h
theorem if_f {c : Bool} {a b : Prop} (e : c = false) (h : b) : if c = true then a else b := by rw [e, if_neg (by decide)]; exact h
theorem ex_truB {b : Bool} {s : S} {Q : Bool → S → Prop} (h : Q b s) : ∃ b', truD (.sh (.bl b)) = some b' ∧ Q b' s := ⟨b, rfl, h⟩
/-! tests -/
section
variable {Q : Bool → S → Prop}
theorem w_blT {f : M L} (h : wm f s fun x s' => ∃ b, x = .sh (.bl b) ∧ Q b s') : wm (blT f) s Q := by
  refine w_bind (wm_mono h fun x s' ⟨b, e, q⟩ => ?_)
  subst e
  exact ⟨q⟩
theorem w_cmpT {fa fb : M D} {g : D → D → M L} (h : wm fa s fun x s1 => wm fb s1 fun y s2 => wm (g x y) s2 fun r s3 => ∃ b, r = .sh (.bl b) ∧ Q b s3) : wm (Bv.cmpT fa fb g) s Q := w_blT (w_bin2 h)
theorem w_notT {f : M Bool} (h : wm f s fun b s' => Q (!b) s') : wm (Bv.notT f) s Q := w_bind (wm_mono h fun _ _ q => ⟨q⟩)
theorem w_andT {f g : M Bool} (h : wm f s fun b s' => if b = true then wm g s' Q else Q false s') : wm (Bv.andT f g) s Q := by
  refine w_bind (wm_mono h fun b s' q => ?_)
  cases b with
  | true => rw [if_pos rfl] at q; exact q
  | false => rw [if_neg (by decide)] at q; exact ⟨q⟩
theorem w_orT {f g : M Bool} (h : wm f s fun b s' => if b = true then Q true s' else wm g s' Q) : wm (Bv.orT f g) s Q := by
  refine w_bind (wm_mono h fun b s' q => ?_)
  cases b with
  | true => rw [if_pos rfl] at q; exact ⟨q⟩
  | false => rw [if_neg (by decide)] at q; exact q
theorem w_truT {f : M L} (h : wm f s fun x s' => ∃ b, truD x = some b ∧ Q b s') : wm (truT f) s Q := by
  refine w_bind (wm_mono h fun x s' ⟨b, e, q⟩ => ?_)
  show wm (match truD x with | some b => (pure b : M Bool) | none => bad) s' Q
  rw [e]; exact ⟨q⟩
theorem w_yes (q : Q true s) : wm yesM s Q := ⟨q⟩
end
/-! chains -/
theorem w_chM {fa fb fc : M D} {g g' : D → D → M L} {Q : L → S → Prop} (h : wm fa s fun x s1 => wm fb s1 fun y s2 => wm (g x y) s2 fun r s3 => ∃ b, r = .sh (.bl b) ∧ if b = true then wm fc s3 fun z s4 => wm (g' y z) s4 Q else Q (.sh (.bl false)) s3) : wm (chM fa fb fc g g') s Q := by
  refine w_bind (wm_mono h fun x s1 h => w_bind (wm_mono h fun y s2 h => w_bind (wm_mono h fun r s3 ⟨b, e, q⟩ => ?_)))
  subst e
  cases b with
  | true => rw [if_pos rfl] at q; exact w_bind q
  | false => rw [if_neg (by decide)] at q; exact ⟨q⟩
/-! statements -/
section
variable {N : S → Prop} {R : L → S → Prop} {B C : S → Prop} {f g : MS}
theorem s_nil (h : N s) : ws nilS s N R B C := ⟨h⟩
theorem s_seq (h : ws f s (fun s' => ws g s' N R B C) R B C) : ws (seqS f g) s N R B C := by
  have h := h.out
  refine ⟨?_⟩
  unfold seqS
  cases e : f s with
  | nx s' => rw [e] at h; exact h.out
  | _ => rw [e] at h; exact h
theorem s_th {m : M α} {k : α → MS} (h : wm m s fun a s' => ws (k a) s' N R B C) : ws (thS m k) s N R B C := by
  obtain ⟨a, s', e, h⟩ := wm_ok h
  refine ⟨?_⟩
  unfold thS
  rw [e]
  exact h.out
def asg (a : AS) (x : L) : MS := fun s => match a x s with
  | some s' => .nx s'
  | none => .bad
theorem s_ag {m : M L} {a : AS} (h : wm m s fun x s' => ws (asg a x) s' N R B C) : ws (agS m a) s N R B C := s_th h
theorem s_asN {i : Nat} {x : L} (hs : SetAt i (some x) sl sm) (q : N ⟨sm, st⟩) : ws (asg (asN i) x) ⟨sl, st⟩ N R B C := by
  refine ⟨?_⟩
  show N ⟨sl.set i (some x), st⟩
  rw [hs.eq]; exact q
theorem s_ex {m : M L} (h : wm m s fun _ s' => N s') : ws (exS m) s N R B C := s_th (wm_mono h fun _ _ q => ⟨q⟩)
theorem s_rt {m : M L} (h : wm m s fun x s' => R x s') : ws (rtS m) s N R B C := s_th (wm_mono h fun _ _ q => ⟨q⟩)
theorem s_if {t : M Bool} (h : wm t s fun b s' => if b = true then ws f s' N R B C else ws g s' N R B C) : ws (ifS t f g) s N R B C := by
  refine s_th (wm_mono h fun b s' q => ?_)
  cases b with
  | true => rw [if_pos rfl] at q; exact q
  | false => rw [if_neg (by decide)] at q; exact q
theorem s_for {m : M (List D)} {a : AS} (h : wm m s fun ds s' => ws (forB a f ds) s' N R B C) : ws (forS m a f) s N R B C := s_th h
theorem s_par2 {i j : Nat} {fa fb : M L} (h : wm fa s fun x s1 => wm fb s1 fun y s2 => ws (asg (asN i) x) s2 (fun s3 => ws (asg (asN j) y) s3 N R B C) R B C) : ws (par2 i j fa fb) s N R B C := s_th (wm_mono h fun x s1 h => s_th (wm_mono h fun y s2 h => ⟨(show ws (asg (asN j) y) _ N R B C from h.out).out⟩))
theorem s_par3 {i j l : Nat} {fa fb fc : M L} (h : wm fa s fun x s1 => wm fb s1 fun y s2 => wm fc s2 fun z s3 => ws (asg (asN i) x) s3 (fun s4 => ws (asg (asN j) y) s4 (fun s5 => ws (asg (asN l) z) s5 N R B C) R B C) R B C) : ws (par3 i j l fa fb fc) s N R B C := s_th (wm_mono h fun x s1 h => s_th (wm_mono h fun y s2 h => s_th (wm_mono h fun z s3 h => ⟨(show ws (asg (asN l) z) _ N R B C from (show ws (asg (asN j) y) _ (fun s5 => ws (asg (asN l) z) s5 N R B C) R B C from h.out).out).out⟩)))
theorem s_asT0 (q : N s) : ws (asg (asT []) (.sh (.tup []))) s N R B C := ⟨q⟩
theorem s_asT1 {a : AS} {as : List AS} {d : D} {ds : List D} (h : ws (asg a (.sh d)) s (fun s' => ws (asg (asT as) (.sh (.tup ds))) s' N R B C) R B C) : ws (asg (asT (a :: as)) (.sh (.tup (d :: ds)))) s N R B C := by
  have z := (s_seq h).out
  refine ⟨?_⟩
  have key : asT (a :: as) (.sh (.tup (d :: ds))) s = match a (.sh d) s with | some s' => asT as (.sh (.tup ds)) s' | none => none := rfl
  unfold seqS asg at z
  unfold asg
  rw [key]
  cases q : a (.sh d) s with
  | none => rw [q] at z; exact z
  | some s' => rw [q] at z; exact z
theorem s_dp {i : Nat} {z : Str} {m : M D} (h : wm m s fun d s' => ws (dpN i z d) s' N R B C) : ws (dpS i z m) s N R B C := s_th h
theorem s_dpN {i : Nat} {z : Str} {d : D} {j : Nat} {fs : List (Str × D)} {su : List MO} (h : sl[i]? = some (some (.sh (.mref j)))) (h2 : st[j]? = some (.dic fs)) (hl : fs.length < lineN) (hs : SetAt j (.dic (Bv.putA z d fs)) st su) (q : N ⟨sl, su⟩) : ws (dpN i z d) ⟨sl, st⟩ N R B C := by
  refine ⟨?_⟩
  unfold dpN
  dsimp only
  rw [h]; dsimp only; rw [h2]; dsimp only
  rw [if_pos hl, hs.eq]
  exact q
/-- a loop by an invariant -/
theorem s_forI {a : AS} {ds : List D} (I : Nat → S → Prop) (h0 : I 0 s) (hb : ∀ (i : Nat) (d : D) (s : S), ds[i]? = some d → I i s → ws (asg a (.sh d)) s (fun s1 => ws f s1 (I (i + 1)) R N (I (i + 1))) (fun _ _ => False) (fun _ => False) (fun _ => False)) (hN : ∀ s, I ds.length s → N s) : ws (forB a f ds) s N R B C := by
  suffices hh : ∀ (k : Nat) (i : Nat) (s : S), k = ds.length - i → i ≤ ds.length → I i s → ws (forB a f (ds.drop i)) s N R B C by
    have := hh ds.length 0 s (by omega) (Nat.zero_le _) h0
    rwa [List.drop_zero] at this
  intro k
  induction k with
  | zero =>
    intro i s hk hi hI
    have e : i = ds.length := by omega
    subst e
    rw [List.drop_length]
    exact ⟨hN s hI⟩
  | succ k ih =>
    intro i s hk hi hI
    have hlt : i < ds.length := by omega
    have hg : ds[i]? = some ds[i] := List.getElem?_eq_getElem hlt
    rw [List.drop_eq_getElem_cons hlt]
    have z := (hb i ds[i] s hg hI).out
    refine ⟨?_⟩
    unfold forB
    unfold asg at z
    cases q : a (.sh ds[i]) s with
    | none => rw [q] at z; exact z.elim
    | some s1 =>
      rw [q] at z
      dsimp only at z ⊢
      have z := z.out
      cases q2 : f s1 with
      | nx s2 => rw [q2] at z; exact (ih (i + 1) s2 (by omega) (by omega) z).out
      | ct s2 => rw [q2] at z; exact (ih (i + 1) s2 (by omega) (by omega) z).out
      | bk s2 => rw [q2] at z; exact z
      | rt l s2 => rw [q2] at z; exact z
      | exc C fs s2 => rw [q2] at z; exact z.elim
      | bad => rw [q2] at z; exact z.elim
/-- a while by an invariant and a measure -/
theorem s_whI {t : M Bool} {m : Nat} (I : Nat → S → Prop) (k : Nat) (hk : k < m) (h0 : I k s)
    (hb : ∀ (k : Nat) (s : S), I k s → wm t s fun b s1 => if b = true then ws f s1 (fun s2 => ∃ j, j < k ∧ I j s2) R N (fun s2 => ∃ j, j < k ∧ I j s2) else N s1) : ws (whB t f m) s N R B C := by
  induction m generalizing k s with
  | zero => omega
  | succ m ih =>
    obtain ⟨b, s1, e, z⟩ := wm_ok (hb k s h0)
    refine ⟨?_⟩
    unfold whB
    rw [e]
    cases b with
    | false => rw [if_neg (by decide)] at z; exact z
    | true =>
      rw [if_pos rfl] at z
      dsimp only
      have z := z.out
      cases q2 : f s1 with
      | nx s2 => rw [q2] at z; obtain ⟨j, h1, h2⟩ := z; exact (ih j (by omega) h2).out
      | ct s2 => rw [q2] at z; obtain ⟨j, h1, h2⟩ := z; exact (ih j (by omega) h2).out
      | bk s2 => rw [q2] at z; exact z
      | rt l s2 => rw [q2] at z; exact z
      | exc C fs s2 => rw [q2] at z; exact z.elim
      | bad => rw [q2] at z; exact z.elim
end
/-! calls -/
theorem w_call {m : Nat} {F : FnS} {ds : List D} {Q : L → S → Prop} {N : List Str} {f : MS} (hF : F = runF N f) (hm : ds.length = m)
    (h : ws f ⟨ds.map (fun d => some (.sh d)) ++ List.replicate (N.length - ds.length) none, s.st⟩ (fun s' => Q (.sh .non) ⟨s.sl, s'.st⟩) (fun l s' => Q l ⟨s.sl, s'.st⟩) (fun _ => False) (fun _ => False)) : wm (callN m F ds) s Q := by
  subst hF
  refine ⟨?_⟩
  unfold callN
  rw [if_pos hm]
  unfold callM runF initS
  have h := h.out
  dsimp only
  cases e : f ⟨ds.map (fun d => some (.sh d)) ++ List.replicate (N.length - ds.length) none, s.st⟩ <;> rw [e] at h <;> exact h
end
end Bv

/-! the source of draws -/
namespace Bv
open PySem PySem.Spec PyProof.Rows L2
set_option hygiene false
local macro_rules | `(tactic| fail "S1") => `(tactic| (first | with_reducible refine s_seq ?_ | with_reducible refine s_nil ?_ | with_reducible refine s_ag ?_ | with_reducible refine s_rt ?_ | with_reducible refine s_ex ?_ | with_reducible refine s_for ?_ | with_reducible refine s_par2 ?_ | with_reducible refine s_par3 ?_ | with_reducible refine w_pure ?_ | with_reducible refine w_dM ?_ | with_reducible refine w_sM ?_ | with_reducible refine w_th ?_ | with_reducible refine w_fn ?_ | with_reducible refine w_rg ?_ | with_reducible refine w_it ?_ | with_reducible refine w_nil ?_ | with_reducible refine w_cons ?_ | with_reducible refine w_bin2 ?_ | with_reducible refine w_addI ?_ | with_reducible refine w_subI ?_ | with_reducible refine w_ltI ?_ | with_reducible refine w_leI ?_ | with_reducible refine w_gtI ?_ | with_reducible refine w_geI ?_ | with_reducible refine w_eqS ?_ | with_reducible refine w_neS ?_ | with_reducible refine w_eqI ?_ | with_reducible refine w_neI ?_ | with_reducible refine w_int ?_ | with_reducible refine w_ixM ?_ | with_reducible refine w_cmpT ?_ | with_reducible refine w_notT ?_ | with_reducible refine w_blT ?_ | with_reducible refine w_yes ?_ | with_reducible refine w_chM ?_ | with_reducible refine w_lcS ?_ | with_reducible refine w_itL ?_ | with_reducible refine w_ix0T ?_ | with_reducible refine w_ix0L ?_ | with_reducible refine w_ix0O ?_ | with_reducible refine w_ix1T ?_ | with_reducible refine w_ix1L ?_ | with_reducible refine w_ix1O ?_ | with_reducible refine w_ix2T ?_ | with_reducible refine w_ix2L ?_ | with_reducible refine w_ix2O ?_ | with_reducible refine w_ix3T ?_ | with_reducible refine w_ix3L ?_ | with_reducible refine w_ix3O ?_ | with_reducible refine w_itT ?_ | with_reducible refine w_itC ?_ | with_reducible refine w_lstS ?_ | with_reducible refine w_lstL ?_ | with_reducible refine w_lstT ?_ | with_reducible refine w_lstO ?_ | with_reducible refine w_tupT ?_ | with_reducible refine w_tupL ?_ | with_reducible refine w_tupO ?_ | with_reducible refine w_dd ?_ | with_reducible refine s_asT1 ?_ | with_reducible refine s_stS ?_ | with_reducible refine w_max2 ?_ | with_reducible refine s_asT0 ?_ | with_reducible refine w_gcd ?_ | with_reducible refine w_idxM ?_ | with_reducible refine w_enW ?_ | with_reducible refine w_zpL ?_ | with_reducible refine w_zpT ?_ | with_reducible refine w_rgOf ?_ | with_reducible refine w_dcS ?_ | with_reducible refine w_inK ?_ | with_reducible refine w_noP ?_ | with_reducible refine w_soP ?_ | with_reducible refine w_slM ?_ | ((with_reducible apply w_esc); (focus exact rfl)) | ((with_reducible apply w_sl); (focus exact rfl)) | ((with_reducible apply s_asN); (focus (repeat (first | exact SetAt.z | apply SetAt.s)))) | ((with_reducible apply w_ixN); (focus exact rfl)) | ((with_reducible apply w_slN); (focus exact rfl)) | ((with_reducible apply w_slL); (focus exact rfl)) | ((with_reducible apply w_slT); (focus exact rfl)) | ((with_reducible apply w_escO); (focus exact rfl); (focus (repeat (first | exact SetAt.z | apply SetAt.s)))) | ((with_reducible apply w_mv); (focus exact rfl); (focus (repeat (first | exact SetAt.z | apply SetAt.s)))) | ((with_reducible refine w_modI ?_ ?_); (focus first | omega | decide)) | ((with_reducible refine w_fdvI ?_ ?_ ?_); (focus first | omega | decide); (focus first | omega | decide)) | ((with_reducible refine w_powI ?_ ?_); (focus decide)) | ((with_reducible refine w_mulI ?_ ?_); (focus first | exact .inr (by decide) | exact .inl (by decide) | exact .inr (by constructor <;> omega) | exact .inl (by constructor <;> omega))) | ((with_reducible apply w_app); (focus exact rfl)) | ((with_reducible apply w_appN); (focus exact rfl); (focus first | decide | (simp only [List.length_cons, List.length_nil]; decide)); (focus (repeat (first | exact SetAt.z | apply SetAt.s)))) | ((with_reducible apply w_isi); (focus exact rfl); (focus assumption)) | ((with_reducible apply w_isF); (focus exact rfl)) | ((with_reducible apply w_fldS); (focus exact rfl)) | ((with_reducible apply s_stN); (focus exact rfl); (focus exact Nat.le_of_ble_eq_true rfl); (focus (repeat (first | exact SetAt.z | apply SetAt.s)))) | ((with_reducible apply w_fldO); (focus exact rfl)) | ((with_reducible refine w_rg1 ?_ ?_); (focus first | (constructor <;> omega) | decide)) | ((with_reducible refine w_rg2 ?_ ?_); (focus first | (refine ⟨?_, ?_, ?_, ?_⟩ <;> omega) | decide)) | ((with_reducible refine w_rgW ?_ ?_); (focus constructor <;> omega)) | ((with_reducible refine w_tup ?_ ?_); (focus exact Nat.le_of_ble_eq_true rfl)) | ((with_reducible refine w_lst ?_ ?_); (focus exact Nat.le_of_ble_eq_true rfl)) | ((with_reducible refine w_pen_at ?_ ?_); (focus exact rfl)) | ((with_reducible refine s_pen_at ?_ ?_ ?_); (focus exact rfl); (focus exact rfl)) | ((with_reducible refine w_pen_digits ?_ ?_); (focus exact rfl)) | ((with_reducible refine s_pen_digits ?_ ?_); (focus exact rfl)) | ((with_reducible refine w_pen_count ?_ ?_); (focus exact rfl)) | ((with_reducible refine s_pen_count ?_ ?_); (focus exact rfl)) | ((with_reducible refine w_pen_fold ?_ ?_); (focus exact rfl)) | ((with_reducible refine s_pen_fold ?_ ?_); (focus exact rfl)) | ((with_reducible refine w_pen_cells ?_ ?_); (focus exact rfl)) | with_reducible refine s_dp ?_ | with_reducible refine if_not ?_ | with_reducible refine if_tt ?_ | with_reducible refine if_ff ?_ | ((with_reducible refine if_decT ?_ ?_); (focus first | omega | (simp only [List.length_cons, List.length_nil]; omega))) | ((with_reducible refine if_decF ?_ ?_); (focus first | omega | (simp only [List.length_cons, List.length_nil]; omega))) | with_reducible refine if_dec (fun hc => ?_) (fun hc => ?_) | with_reducible refine s_if ?_ | with_reducible refine w_andT ?_ | with_reducible refine w_orT ?_ | with_reducible refine w_andM ?_ | with_reducible refine w_orM ?_ | with_reducible refine w_notM ?_ | with_reducible refine w_ifM ?_ | with_reducible refine w_truT ?_ | with_reducible refine w_negI ?_ | with_reducible refine ex_truB ?_ | with_reducible refine ⟨_, rfl, ?_⟩ | dsimp only [L.d] | ((with_reducible refine if_t ?_ ?_); (focus exact rfl)) | ((with_reducible refine if_f ?_ ?_); (focus exact rfl)) | ((with_reducible apply w_len); (focus exact .inl rfl)) | ((with_reducible apply w_len); (focus exact .inr rfl))))
local macro_rules | `(tactic| fail "SA") => `(tactic| (repeat' fail "S1"))
local macro_rules | `(tactic| fail "SR") => `(tactic| (repeat fail "S1"))
set_option hygiene true
structure Pen where
  cells : List Int
  at_ : Nat
  digits : Int
  count : Int
  fold : Int
def Pen.fs (p : Pen) : List (Str × D) := [("cells", .lst (p.cells.map D.int)), ("at", .int p.at_), ("digits", .int p.digits), ("count", .int p.count), ("fold", .int p.fold)]
section
variable {sl : List (Option L)} {r : List MO} {p : Pen} {i : Nat} {Q : L → S → Prop} {N : S → Prop} {R : L → S → Prop} {B C : S → Prop} {v : Int}
theorem w_pen_cells (h : sl[i]? = some (some (.sh (.mref 0)))) (q : Q (.sh (.lst (p.cells.map D.int))) ⟨sl, .dic p.fs :: r⟩) : wm (dgN i (Str.ofString "cells")) ⟨sl, .dic p.fs :: r⟩ Q := w_dg h rfl (by rfl) q
theorem w_pen_at (h : sl[i]? = some (some (.sh (.mref 0)))) (q : Q (.sh (.int p.at_)) ⟨sl, .dic p.fs :: r⟩) : wm (dgN i (Str.ofString "at")) ⟨sl, .dic p.fs :: r⟩ Q := w_dg h rfl (by rfl) q
theorem w_pen_digits (h : sl[i]? = some (some (.sh (.mref 0)))) (q : Q (.sh (.int p.digits)) ⟨sl, .dic p.fs :: r⟩) : wm (dgN i (Str.ofString "digits")) ⟨sl, .dic p.fs :: r⟩ Q := w_dg h rfl (by rfl) q
theorem w_pen_count (h : sl[i]? = some (some (.sh (.mref 0)))) (q : Q (.sh (.int p.count)) ⟨sl, .dic p.fs :: r⟩) : wm (dgN i (Str.ofString "count")) ⟨sl, .dic p.fs :: r⟩ Q := w_dg h rfl (by rfl) q
theorem w_pen_fold (h : sl[i]? = some (some (.sh (.mref 0)))) (q : Q (.sh (.int p.fold)) ⟨sl, .dic p.fs :: r⟩) : wm (dgN i (Str.ofString "fold")) ⟨sl, .dic p.fs :: r⟩ Q := w_dg h rfl (by rfl) q
theorem s_pen_at {u : Int} (e : u = (p.at_ : Int) + 1) (h : sl[i]? = some (some (.sh (.mref 0)))) (q : N ⟨sl, .dic { p with at_ := p.at_ + 1 }.fs :: r⟩) : ws (dpN i (Str.ofString "at") (.int u)) ⟨sl, .dic p.fs :: r⟩ N R B C := by
  subst e
  exact s_dpN h rfl (show 5 < lineN by decide) (.z) (by rw [show putA (Str.ofString "at") (D.int ((p.at_ : Int) + 1)) p.fs = { p with at_ := p.at_ + 1 }.fs from by rfl]; exact q)
theorem atI_ints {l : List Int} {j : Nat} (h : j < l.length) : atI (l.map D.int) (j : Int) = some (.int l[j]) := atI_nat (by rw [List.getElem?_map, List.getElem?_eq_getElem h]; rfl)
theorem s_pen_digits (h : sl[i]? = some (some (.sh (.mref 0)))) (q : N ⟨sl, .dic { p with digits := v }.fs :: r⟩) : ws (dpN i (Str.ofString "digits") (.int v)) ⟨sl, .dic p.fs :: r⟩ N R B C :=
  s_dpN h rfl (show 5 < lineN by decide) (.z) (by rw [show putA (Str.ofString "digits") (D.int v) p.fs = { p with digits := v }.fs from by rfl]; exact q)
theorem s_pen_count (h : sl[i]? = some (some (.sh (.mref 0)))) (q : N ⟨sl, .dic { p with count := v }.fs :: r⟩) : ws (dpN i (Str.ofString "count") (.int v)) ⟨sl, .dic p.fs :: r⟩ N R B C :=
  s_dpN h rfl (show 5 < lineN by decide) (.z) (by rw [show putA (Str.ofString "count") (D.int v) p.fs = { p with count := v }.fs from by rfl]; exact q)
theorem s_pen_fold (h : sl[i]? = some (some (.sh (.mref 0)))) (q : N ⟨sl, .dic { p with fold := v }.fs :: r⟩) : ws (dpN i (Str.ofString "fold") (.int v)) ⟨sl, .dic p.fs :: r⟩ N R B C :=
  s_dpN h rfl (show 5 < lineN by decide) (.z) (by rw [show putA (Str.ofString "fold") (D.int v) p.fs = { p with fold := v }.fs from by rfl]; exact q)
end
/-! the defs that every law has -/
def mPen : MS :=
  seqS (agS (sM (dM (sM (pure (D.int 0))))) (asN 1))
  (seqS (forS (itM (escN 0)) (asN 2) (seqS (agS (sM (dM (bin2 (dM (thM (bin2 (dM (bin2 (escN 1) (pure (D.int 47)) gMul)) (escN 2) gAdd) intW)) (pure (D.int 1000000007)) gMod))) (asN 1)) nilS))
    (seqS
      (rtS
        (ddM [Str.ofString "cells", Str.ofString "at", Str.ofString "digits", Str.ofString "count", Str.ofString "fold"]
          (consM (dM (thM (slN 0) lstW)) (consM (pure (D.int 0)) (consM (pure (D.int 0)) (consM (pure (D.int 0)) (consM (escN 1) nilM)))))))
      nilS))
def mDraw : MS :=
  seqS (dpS 0 (Str.ofString "count") (dM (bin2 (dM (dgN 0 (Str.ofString "count"))) (pure (D.int 1)) gAdd)))
  (seqS
    (ifS (andT (cmpT (dM (dgN 0 (Str.ofString "digits"))) (pure (D.int 0)) gEq) (cmpT (dM (dgN 0 (Str.ofString "at"))) (dM (thM (dgN 0 (Str.ofString "cells")) lenW)) gLt))
      (seqS (agS (sM (dM (ixM (dM (dgN 0 (Str.ofString "cells"))) (dM (dgN 0 (Str.ofString "at")))))) (asN 2))
        (seqS (dpS 0 (Str.ofString "at") (dM (bin2 (dM (dgN 0 (Str.ofString "at"))) (pure (D.int 1)) gAdd)))
          (seqS
            (ifS (cmpT (escN 2) (dM (bin2 (pure (D.int 10)) (pure (D.int 18)) gPow)) gGe)
              (seqS (dpS 0 (Str.ofString "digits") (dM (bin2 (escN 2) (dM (bin2 (pure (D.int 10)) (pure (D.int 18)) gPow)) Bv.gSub))) nilS)
              (seqS (dpS 0 (Str.ofString "fold") (dM (bin2 (dM (thM (bin2 (dM (bin2 (dM (dgN 0 (Str.ofString "fold"))) (pure (D.int 69069)) gMul)) (escN 2) gAdd) intW)) (pure (D.int 2147483587)) gMod)))
                nilS))
            nilS)))
      nilS)
    (seqS
      (ifS (cmpT (dM (dgN 0 (Str.ofString "digits"))) (pure (D.int 0)) gGt)
        (seqS (agS (bin2 (dM (thM (dgN 0 (Str.ofString "digits")) intW)) (escN 1) gMod) (asN 3))
          (seqS (dpS 0 (Str.ofString "digits") (dM (bin2 (dM (dgN 0 (Str.ofString "digits"))) (escN 1) gFdv))) (seqS (rtS (mvN 3)) nilS)))
        nilS)
      (seqS
        (agS
          (sM
            (dM
              (bin2
                (dM
                  (thM
                    (bin2 (dM (bin2 (dM (bin2 (dM (dgN 0 (Str.ofString "fold"))) (pure (D.int 48271)) gMul)) (dM (bin2 (dM (dgN 0 (Str.ofString "count"))) (pure (D.int 7919)) gMul)) gAdd)) (pure (D.int 13))
                      gAdd)
                    intW))
                (pure (D.int 2147483647)) gMod)))
          (asN 4))
        (seqS
          (agS
            (sM
              (dM
                (bin2 (dM (thM (bin2 (dM (bin2 (dM (bin2 (escN 4) (escN 4) gMul)) (dM (bin2 (pure (D.int 31)) (escN 4) gMul)) gAdd)) (dM (dgN 0 (Str.ofString "count"))) gAdd) intW)) (pure (D.int 2147483629))
                  gMod)))
            (asN 4))
          (seqS (dpS 0 (Str.ofString "fold") (dM (bin2 (dM (thM (bin2 (dM (bin2 (escN 4) (pure (D.int 16807)) gMul)) (pure (D.int 7)) gAdd) intW)) (pure (D.int 2147483647)) gMod)))
            (seqS (rtS (bin2 (dM (thM (bin2 (escN 4) (pure (D.int 64)) gFdv) intW)) (escN 1) gMod)) nilS))))))
def mPick (FD : FnS) : MS :=
  seqS (rtS (ixNM 1 (dM (fnM (consM (escN 0) (consM (dM (thM (slN 1) lenW)) nilM)) (callN 2 FD))))) nilS
def mIs (isi : List (List Str × Bv.Ty × Bool)) : FnS → MS := fun F =>
  seqS
    (ifS (truT (thM (slN 1) (isiW (isiT isi [Str.ofString "tuple"]))))
      (seqS (ifS (orT (notT (truT (thM (slN 0) (isiW (isiT isi [Str.ofString "tuple"]))))) (cmpT (dM (thM (slN 0) lenW)) (dM (thM (slN 1) lenW)) gNe)) (seqS (rtS (sM (pure (D.bl false)))) nilS) nilS)
        (seqS
          (rtS
            (bin2 (dM (lcM (rgM (consM (dM (thM (slN 1) lenW)) nilM) rg1W) [2] (asN 2) (notT (truT (fnM (consM (dM (ixNM 0 (escN 2))) (consM (dM (ixNM 1 (escN 2))) nilM)) (callN 2 F)))) (escN 2))) (dM (fnM nilM Bv.gLst))
              gEq))
          nilS))
      nilS)
    (seqS (ifS (cmpT (escN 1) (pure D.non) (gIs false)) (seqS (rtS (bin2 (escN 0) (pure D.non) (gIs false))) nilS) nilS)
      (seqS (ifS (cmpT (escN 1) (pure (D.bl true)) (gIs false)) (seqS (rtS (bin2 (escN 0) (pure (D.bl true)) (gIs false))) nilS) nilS)
        (seqS (ifS (cmpT (escN 1) (pure (D.bl false)) (gIs false)) (seqS (rtS (bin2 (escN 0) (pure (D.bl false)) (gIs false))) nilS) nilS)
          (seqS (ifS (truT (thM (slN 1) (isiW (isiT isi [Str.ofString "str"])))) (seqS (rtS (Bv.andM (dM (thM (slN 0) (isiW (isiT isi [Str.ofString "str"])))) (bin2 (escN 0) (escN 1) gEq))) nilS) nilS)
            (seqS (rtS (Bv.andM (dM (thM (slN 0) (isiW (isiT isi [Str.ofString "int"])))) (Bv.andM (dM (Bv.notM (dM (thM (slN 0) (isiW (isiT isi [Str.ofString "bool"])))))) (bin2 (escN 0) (escN 1) gEq))))
              nilS)))))
/-- the store behind a draw -/
theorem draw_ok {F : FnS} {NN : List Str} (hF : F = runF NN mDraw) (hN : NN.length = 5) {s : S} {p : Pen} {r : List MO} (hs : s.st = .dic p.fs :: r) {many : Int} (h0 : 0 < many) (h1 : many < 1073741824) {Q : L → S → Prop}
    (q : ∀ (x : Int) (p' : Pen), 0 ≤ x → x < many → Q (.sh (.int x)) ⟨s.sl, .dic p'.fs :: r⟩) : wm (callN 2 F [.mref 0, .int many]) s Q := by
  refine w_call hF rfl ?_
  rw [hN, hs]
  show ws mDraw ⟨[some (.sh (.mref 0)), some (.sh (.int many)), none, none, none], .dic p.fs :: r⟩ _ _ _ _
  unfold mDraw
  fail "SA"
  · rename_i hc
    have hl : p.at_ < p.cells.length := by simpa using hc
    refine w_ixW (.inl rfl) (atI_ints hl) ?_
    fail "SA"
    all_goals exact q _ _ (Int.emod_nonneg _ (by omega)) (Int.emod_lt_of_pos _ h0)
  all_goals exact q _ _ (Int.emod_nonneg _ (by omega)) (Int.emod_lt_of_pos _ h0)
end Bv

/-! comprehensions, the pen, a pick, the law's look -/
namespace Bv
open PySem PySem.Spec PyProof.Rows L2
set_option hygiene false
local macro_rules | `(tactic| fail "S1") => `(tactic| (first | with_reducible refine s_seq ?_ | with_reducible refine s_nil ?_ | with_reducible refine s_ag ?_ | with_reducible refine s_rt ?_ | with_reducible refine s_ex ?_ | with_reducible refine s_for ?_ | with_reducible refine s_par2 ?_ | with_reducible refine s_par3 ?_ | with_reducible refine w_pure ?_ | with_reducible refine w_dM ?_ | with_reducible refine w_sM ?_ | with_reducible refine w_th ?_ | with_reducible refine w_fn ?_ | with_reducible refine w_rg ?_ | with_reducible refine w_it ?_ | with_reducible refine w_nil ?_ | with_reducible refine w_cons ?_ | with_reducible refine w_bin2 ?_ | with_reducible refine w_addI ?_ | with_reducible refine w_subI ?_ | with_reducible refine w_ltI ?_ | with_reducible refine w_leI ?_ | with_reducible refine w_gtI ?_ | with_reducible refine w_geI ?_ | with_reducible refine w_eqS ?_ | with_reducible refine w_neS ?_ | with_reducible refine w_eqI ?_ | with_reducible refine w_neI ?_ | with_reducible refine w_int ?_ | with_reducible refine w_ixM ?_ | with_reducible refine w_cmpT ?_ | with_reducible refine w_notT ?_ | with_reducible refine w_blT ?_ | with_reducible refine w_yes ?_ | with_reducible refine w_chM ?_ | with_reducible refine w_lcS ?_ | with_reducible refine w_itL ?_ | with_reducible refine w_ix0T ?_ | with_reducible refine w_ix0L ?_ | with_reducible refine w_ix0O ?_ | with_reducible refine w_ix1T ?_ | with_reducible refine w_ix1L ?_ | with_reducible refine w_ix1O ?_ | with_reducible refine w_ix2T ?_ | with_reducible refine w_ix2L ?_ | with_reducible refine w_ix2O ?_ | with_reducible refine w_ix3T ?_ | with_reducible refine w_ix3L ?_ | with_reducible refine w_ix3O ?_ | with_reducible refine w_itT ?_ | with_reducible refine w_itC ?_ | with_reducible refine w_lstS ?_ | with_reducible refine w_lstL ?_ | with_reducible refine w_lstT ?_ | with_reducible refine w_lstO ?_ | with_reducible refine w_tupT ?_ | with_reducible refine w_tupL ?_ | with_reducible refine w_tupO ?_ | with_reducible refine w_dd ?_ | with_reducible refine s_asT1 ?_ | with_reducible refine s_stS ?_ | with_reducible refine w_max2 ?_ | with_reducible refine s_asT0 ?_ | with_reducible refine w_gcd ?_ | with_reducible refine w_idxM ?_ | with_reducible refine w_enW ?_ | with_reducible refine w_zpL ?_ | with_reducible refine w_zpT ?_ | with_reducible refine w_rgOf ?_ | with_reducible refine w_dcS ?_ | with_reducible refine w_inK ?_ | with_reducible refine w_noP ?_ | with_reducible refine w_soP ?_ | with_reducible refine w_slM ?_ | ((with_reducible apply w_esc); (focus exact rfl)) | ((with_reducible apply w_sl); (focus exact rfl)) | ((with_reducible apply s_asN); (focus (repeat (first | exact SetAt.z | apply SetAt.s)))) | ((with_reducible apply w_ixN); (focus exact rfl)) | ((with_reducible apply w_slN); (focus exact rfl)) | ((with_reducible apply w_slL); (focus exact rfl)) | ((with_reducible apply w_slT); (focus exact rfl)) | ((with_reducible apply w_escO); (focus exact rfl); (focus (repeat (first | exact SetAt.z | apply SetAt.s)))) | ((with_reducible apply w_mv); (focus exact rfl); (focus (repeat (first | exact SetAt.z | apply SetAt.s)))) | ((with_reducible refine w_modI ?_ ?_); (focus first | omega | decide)) | ((with_reducible refine w_fdvI ?_ ?_ ?_); (focus first | omega | decide); (focus first | omega | decide)) | ((with_reducible refine w_powI ?_ ?_); (focus decide)) | ((with_reducible refine w_mulI ?_ ?_); (focus first | exact .inr (by decide) | exact .inl (by decide) | exact .inr (by constructor <;> omega) | exact .inl (by constructor <;> omega))) | ((with_reducible apply w_app); (focus exact rfl)) | ((with_reducible apply w_appN); (focus exact rfl); (focus first | decide | (simp only [List.length_cons, List.length_nil]; decide)); (focus (repeat (first | exact SetAt.z | apply SetAt.s)))) | ((with_reducible apply w_isi); (focus exact rfl); (focus assumption)) | ((with_reducible apply w_isF); (focus exact rfl)) | ((with_reducible apply w_fldS); (focus exact rfl)) | ((with_reducible apply s_stN); (focus exact rfl); (focus exact Nat.le_of_ble_eq_true rfl); (focus (repeat (first | exact SetAt.z | apply SetAt.s)))) | ((with_reducible apply w_fldO); (focus exact rfl)) | ((with_reducible refine w_rg1 ?_ ?_); (focus first | (constructor <;> omega) | decide)) | ((with_reducible refine w_rg2 ?_ ?_); (focus first | (refine ⟨?_, ?_, ?_, ?_⟩ <;> omega) | decide)) | ((with_reducible refine w_rgW ?_ ?_); (focus constructor <;> omega)) | ((with_reducible refine w_tup ?_ ?_); (focus exact Nat.le_of_ble_eq_true rfl)) | ((with_reducible refine w_lst ?_ ?_); (focus exact Nat.le_of_ble_eq_true rfl)) | ((with_reducible refine w_pen_at ?_ ?_); (focus exact rfl)) | ((with_reducible refine s_pen_at ?_ ?_ ?_); (focus exact rfl); (focus exact rfl)) | ((with_reducible refine w_pen_digits ?_ ?_); (focus exact rfl)) | ((with_reducible refine s_pen_digits ?_ ?_); (focus exact rfl)) | ((with_reducible refine w_pen_count ?_ ?_); (focus exact rfl)) | ((with_reducible refine s_pen_count ?_ ?_); (focus exact rfl)) | ((with_reducible refine w_pen_fold ?_ ?_); (focus exact rfl)) | ((with_reducible refine s_pen_fold ?_ ?_); (focus exact rfl)) | ((with_reducible refine w_pen_cells ?_ ?_); (focus exact rfl)) | with_reducible refine s_dp ?_ | with_reducible refine if_not ?_ | with_reducible refine if_tt ?_ | with_reducible refine if_ff ?_ | ((with_reducible refine if_decT ?_ ?_); (focus first | omega | (simp only [List.length_cons, List.length_nil]; omega))) | ((with_reducible refine if_decF ?_ ?_); (focus first | omega | (simp only [List.length_cons, List.length_nil]; omega))) | with_reducible refine if_dec (fun hc => ?_) (fun hc => ?_) | with_reducible refine s_if ?_ | with_reducible refine w_andT ?_ | with_reducible refine w_orT ?_ | with_reducible refine w_andM ?_ | with_reducible refine w_orM ?_ | with_reducible refine w_notM ?_ | with_reducible refine w_ifM ?_ | with_reducible refine w_truT ?_ | with_reducible refine w_negI ?_ | with_reducible refine ex_truB ?_ | with_reducible refine ⟨_, rfl, ?_⟩ | dsimp only [L.d] | ((with_reducible refine if_t ?_ ?_); (focus exact rfl)) | ((with_reducible refine if_f ?_ ?_); (focus exact rfl)) | ((with_reducible apply w_len); (focus exact .inl rfl)) | ((with_reducible apply w_len); (focus exact .inr rfl))))
local macro_rules | `(tactic| fail "SA") => `(tactic| (repeat' fail "S1"))
local macro_rules | `(tactic| fail "SR") => `(tactic| (repeat fail "S1"))
set_option hygiene true
theorem SetAt.get {α : Type} {i : Nat} {x : α} {l m : List α} (h : SetAt i x l m) : m[i]? = some x := by
  induction h with
  | z => rfl
  | s _ ih => rw [List.getElem?_cons_succ]; exact ih
theorem SetAt.other {α : Type} {i j : Nat} {x : α} {l m : List α} (h : SetAt i x l m) (hj : i ≠ j) : m[j]? = l[j]? := by
  rw [← h.eq, List.getElem?_set_ne hj]
theorem SetAt.len {α : Type} {i : Nat} {x : α} {l m : List α} (h : SetAt i x l m) : m.length = l.length ∧ i < l.length := by
  induction h with
  | z => exact ⟨rfl, by simp⟩
  | s _ ih => exact ⟨by rw [List.length_cons, List.length_cons, ih.1], by rw [List.length_cons]; omega⟩
section
variable {sl sm : List (Option L)} {st : List MO} {s : S} {v : Nat} {t : M Bool} {e : M D} {Q : L → S → Prop} {ds : List D}
def lcD (ds : List D) (vs : List Nat) (a : AS) (t : M Bool) (e : M D) : M L := lcM (pure ds) vs a t e
theorem w_lcS {m : M (List D)} {vs : List Nat} {a : AS} (h : wm m s fun ds s1 => wm (lcD ds vs a t e) s1 Q) : wm (lcM m vs a t e) s Q := by
  obtain ⟨ds, s1, e1, h⟩ := wm_ok h
  have h := h.out
  refine ⟨?_⟩
  unfold lcD at h
  unfold lcM at h ⊢
  rw [e1]
  exact h
/-- a comprehension over a single name that leaves all as it was -/
theorem w_lcP (hw : SetAt v none sl sm) (hl : ds.length ≤ lineN) (g : D → Option D)
    (h : ∀ d ∈ ds, ∃ sd, SetAt v (some (.sh d)) sm sd ∧ wm t ⟨sd, st⟩ fun b s4 => s4 = ⟨sd, st⟩ ∧ if b = true then wm e ⟨sd, st⟩ (fun y s5 => s5 = ⟨sd, st⟩ ∧ g d = some y) else g d = none) (q : Q (.ol (ds.filterMap g)) ⟨sl, st⟩) :
    wm (lcD ds [v] (asN v) t e) ⟨sl, st⟩ Q := by
  unfold lcD
  have hws : wipeS ⟨sl, st⟩ [v] = ⟨sm, st⟩ := by
    show (⟨sl.set v none, st⟩ : S) = _
    rw [hw.eq]
  have key : ∀ (r : List D) (acc : List D) (s : S), (∀ d ∈ r, d ∈ ds) → acc.length + r.length ≤ lineN → wipeS s [v] = ⟨sm, st⟩ → ∃ s', lcB [v] (asN v) t e r acc s = .ok (acc ++ r.filterMap g) s' ∧ wipeS s' [v] = ⟨sm, st⟩ := by
    intro r
    induction r with
    | nil => intro acc s _ _ hs; exact ⟨s, by unfold lcB; simp, hs⟩
    | cons d r ih =>
      intro acc s hm hlen hs
      obtain ⟨sd, h1, h2⟩ := h d (hm d (by simp))
      obtain ⟨b, s4, e4, rfl, h3⟩ := wm_ok h2
      have hsd : wipeS ⟨sd, st⟩ [v] = ⟨sm, st⟩ := by
        show (⟨sd.set v none, st⟩ : S) = _
        rw [← h1.eq, List.set_set, ← hw.eq, List.set_set]
      unfold lcB
      rw [hs]
      have ha : asN v (.sh d) ⟨sm, st⟩ = some ⟨sd, st⟩ := by
        show some (⟨sm.set v (some (.sh d)), st⟩ : S) = _
        rw [h1.eq]
      rw [ha]
      dsimp only
      rw [e4]
      rw [List.length_cons] at hlen
      cases b with
      | false =>
        rw [if_neg (by decide)] at h3
        dsimp only
        obtain ⟨s', h5, h6⟩ := ih acc ⟨sd, st⟩ (fun x hx => hm x (by simp [hx])) (by omega) hsd
        exact ⟨s', by rw [h5, List.filterMap_cons, h3], h6⟩
      | true =>
        rw [if_pos rfl] at h3
        dsimp only
        obtain ⟨y, s5, e5, rfl, h7⟩ := wm_ok h3
        rw [e5]
        dsimp only
        rw [if_pos (by omega)]
        obtain ⟨s', h5, h6⟩ := ih (acc ++ [y]) ⟨sd, st⟩ (fun x hx => hm x (by simp [hx])) (by rw [List.length_append, List.length_singleton]; omega) hsd
        exact ⟨s', by rw [h5, List.filterMap_cons, h7]; simp, h6⟩
  obtain ⟨s', h5, h6⟩ := key ds [] (wipeS ⟨sl, st⟩ [v]) (fun _ h => h) (by simpa using hl) (by
    show (⟨(sl.set v none).set v none, st⟩ : S) = _
    rw [List.set_set, hw.eq])
  have hok : lcM (pure ds) [v] (asN v) t e ⟨sl, st⟩ = .ok (.ol ([] ++ ds.filterMap g)) (restS ⟨sl, st⟩ s' [v]) := by
    unfold lcM
    show (match lcB [v] (asN v) t e ds [] (wipeS ⟨sl, st⟩ [v]) with | .ok ys s2 => (Res.ok (L.ol ys) (restS ⟨sl, st⟩ s2 [v]) : Res L) | _ => Res.bad) = _
    rw [h5]
  have e1 : s'.st = st := congrArg S.st h6
  have e2 : s'.sl.set v none = sm := congrArg S.sl h6
  have e3 : restS ⟨sl, st⟩ s' [v] = ⟨sl, st⟩ := by
    unfold restS
    have lens : s'.sl.length = sl.length := by
      have z1 := congrArg List.length e2
      rw [List.length_set] at z1
      rw [z1, hw.len.1]
    congr 1
    apply List.ext_getElem?
    intro i
    rw [List.getElem?_map]
    by_cases hi : i < sl.length
    · rw [List.getElem?_range (by rw [lens]; exact hi)]
      show some (if i ∈ [v] then (sl[i]?).getD none else (s'.sl[i]?).getD none) = sl[i]?
      rw [List.getElem?_eq_getElem hi]
      by_cases hv : i = v
      · rw [if_pos (by simp [hv])]; rfl
      · rw [if_neg (by simp [hv])]
        have z : s'.sl[i]? = sl[i]? := by
          have z1 : (s'.sl.set v none)[i]? = s'.sl[i]? := List.getElem?_set_ne (fun z => hv z.symm)
          rw [← z1, e2, hw.other (fun z => hv z.symm)]
        rw [z, List.getElem?_eq_getElem hi]; rfl
    · rw [List.getElem?_eq_none (by rw [List.length_range, lens]; omega), List.getElem?_eq_none (by omega)]
      rfl
  rw [List.nil_append, e3] at hok
  exact w_eq hok q
theorem w_ix0T {d0 : D} {r : List D} (q : Q (.sh d0) s) : wm (ixW (.sh (.tup (d0 :: r))) (.int 0)) s Q := w_ixW (ds := d0 :: r) (.inr rfl) (atI_nat (j := 0) rfl) q
theorem w_ix0L {d0 : D} {r : List D} (q : Q (.sh d0) s) : wm (ixW (.sh (.lst (d0 :: r))) (.int 0)) s Q := w_ixW (ds := d0 :: r) (.inl rfl) (atI_nat (j := 0) rfl) q
theorem w_ix0O {d0 : D} {r : List D} (q : Q (.sh d0) s) : wm (ixW (.ol (d0 :: r)) (.int 0)) s Q := w_ixW (ds := d0 :: r) (.inl rfl) (atI_nat (j := 0) rfl) q
theorem w_ix1T {d0 d1 : D} {r : List D} (q : Q (.sh d1) s) : wm (ixW (.sh (.tup (d0 :: d1 :: r))) (.int 1)) s Q := w_ixW (ds := d0 :: d1 :: r) (.inr rfl) (atI_nat (j := 1) rfl) q
theorem w_ix1L {d0 d1 : D} {r : List D} (q : Q (.sh d1) s) : wm (ixW (.sh (.lst (d0 :: d1 :: r))) (.int 1)) s Q := w_ixW (ds := d0 :: d1 :: r) (.inl rfl) (atI_nat (j := 1) rfl) q
theorem w_ix1O {d0 d1 : D} {r : List D} (q : Q (.sh d1) s) : wm (ixW (.ol (d0 :: d1 :: r)) (.int 1)) s Q := w_ixW (ds := d0 :: d1 :: r) (.inl rfl) (atI_nat (j := 1) rfl) q
theorem w_ix2T {d0 d1 d2 : D} {r : List D} (q : Q (.sh d2) s) : wm (ixW (.sh (.tup (d0 :: d1 :: d2 :: r))) (.int 2)) s Q := w_ixW (ds := d0 :: d1 :: d2 :: r) (.inr rfl) (atI_nat (j := 2) rfl) q
theorem w_ix2L {d0 d1 d2 : D} {r : List D} (q : Q (.sh d2) s) : wm (ixW (.sh (.lst (d0 :: d1 :: d2 :: r))) (.int 2)) s Q := w_ixW (ds := d0 :: d1 :: d2 :: r) (.inl rfl) (atI_nat (j := 2) rfl) q
theorem w_ix2O {d0 d1 d2 : D} {r : List D} (q : Q (.sh d2) s) : wm (ixW (.ol (d0 :: d1 :: d2 :: r)) (.int 2)) s Q := w_ixW (ds := d0 :: d1 :: d2 :: r) (.inl rfl) (atI_nat (j := 2) rfl) q
theorem w_ix3T {d0 d1 d2 d3 : D} {r : List D} (q : Q (.sh d3) s) : wm (ixW (.sh (.tup (d0 :: d1 :: d2 :: d3 :: r))) (.int 3)) s Q := w_ixW (ds := d0 :: d1 :: d2 :: d3 :: r) (.inr rfl) (atI_nat (j := 3) rfl) q
theorem w_ix3L {d0 d1 d2 d3 : D} {r : List D} (q : Q (.sh d3) s) : wm (ixW (.sh (.lst (d0 :: d1 :: d2 :: d3 :: r))) (.int 3)) s Q := w_ixW (ds := d0 :: d1 :: d2 :: d3 :: r) (.inl rfl) (atI_nat (j := 3) rfl) q
theorem w_ix3O {d0 d1 d2 d3 : D} {r : List D} (q : Q (.sh d3) s) : wm (ixW (.ol (d0 :: d1 :: d2 :: d3 :: r)) (.int 3)) s Q := w_ixW (ds := d0 :: d1 :: d2 :: d3 :: r) (.inl rfl) (atI_nat (j := 3) rfl) q
theorem restS_one {sl sl' : List (Option L)} {st st' : List MO} {v : Nat} {o : Option L} (h : sl[v]? = some o) (hl : sl'.length = sl.length) : restS ⟨sl, st⟩ ⟨sl', st'⟩ [v] = ⟨sl'.set v o, st'⟩ := by
  unfold restS
  congr 1
  apply List.ext_getElem?
  intro i
  rw [List.getElem?_map]
  by_cases hi : i < sl.length
  · rw [List.getElem?_range (by show i < sl'.length; rw [hl]; exact hi)]
    show some (if i ∈ [v] then (sl[i]?).getD none else (sl'[i]?).getD none) = _
    by_cases hv : v = i
    · subst hv
      rw [if_pos (by simp), h, List.getElem?_set_self (by rw [hl]; exact hi)]
      rfl
    · rw [if_neg (by simpa using fun z => hv z.symm), List.getElem?_set_ne hv, List.getElem?_eq_getElem (by rw [hl]; exact hi)]
      rfl
  · rw [List.getElem?_eq_none (by rw [List.length_range]; show sl'.length ≤ i; omega), List.getElem?_eq_none (by rw [List.length_set]; omega)]
    rfl
/-- a comprehension over a single name, by an invariant -/
theorem w_lcI {o : Option L} (I : Nat → List D → S → Prop) (hw : SetAt v none sl sm) (ho : sl[v]? = some o) (hl : ds.length ≤ lineN) (h0 : I 0 [] ⟨sm, st⟩)
    (hb : ∀ (i : Nat) (d : D) (acc : List D) (s' : S), ds[i]? = some d → I i acc s' → ∃ sm' sd, SetAt v none s'.sl sm' ∧ SetAt v (some (.sh d)) sm' sd ∧ wm t ⟨sd, s'.st⟩ fun b s4 => if b = true then wm e s4 (fun y s5 => I (i + 1) (acc ++ [y]) s5) else I (i + 1) acc s4)
    (hq : ∀ (acc : List D) (s' : S), I ds.length acc s' → s'.sl.length = sl.length ∧ ∃ su, SetAt v o s'.sl su ∧ Q (.ol acc) ⟨su, s'.st⟩) : wm (lcD ds [v] (asN v) t e) ⟨sl, st⟩ Q := by
  unfold lcD
  have key : ∀ (k i : Nat) (acc : List D) (s : S), k = ds.length - i → i ≤ ds.length → acc.length ≤ i → I i acc s → ∃ acc' s', lcB [v] (asN v) t e (ds.drop i) acc s = .ok acc' s' ∧ I ds.length acc' s' := by
    intro k
    induction k with
    | zero =>
      intro i acc s hk hi _ hI
      have e : i = ds.length := by omega
      subst e
      rw [List.drop_length]
      exact ⟨acc, s, by unfold lcB; rfl, hI⟩
    | succ k ih =>
      intro i acc s hk hi hal hI
      have hlt : i < ds.length := by omega
      rw [List.drop_eq_getElem_cons hlt]
      obtain ⟨sm', sd, h1, h2, h3⟩ := hb i ds[i] acc s (List.getElem?_eq_getElem hlt) hI
      obtain ⟨b, s4, e4, h4⟩ := wm_ok h3
      unfold lcB
      have hws : wipeS s [v] = ⟨sm', s.st⟩ := by
        show (⟨s.sl.set v none, s.st⟩ : S) = _
        rw [h1.eq]
      have ha : asN v (.sh ds[i]) ⟨sm', s.st⟩ = some ⟨sd, s.st⟩ := by
        show some (⟨sm'.set v (some (.sh ds[i])), s.st⟩ : S) = _
        rw [h2.eq]
      rw [hws, ha]
      dsimp only
      rw [e4]
      cases b with
      | false =>
        rw [if_neg (by decide)] at h4
        dsimp only
        exact ih (i + 1) acc s4 (by omega) (by omega) (by omega) h4
      | true =>
        rw [if_pos rfl] at h4
        obtain ⟨y, s5, e5, h5⟩ := wm_ok h4
        dsimp only
        rw [e5]
        dsimp only
        rw [if_pos (by omega)]
        exact ih (i + 1) (acc ++ [y]) s5 (by omega) (by omega) (by rw [List.length_append, List.length_singleton]; omega) h5
  obtain ⟨acc, s', h5, h6⟩ := key ds.length 0 [] ⟨sm, st⟩ (by omega) (Nat.zero_le _) (Nat.le_refl _) h0
  rw [List.drop_zero] at h5
  obtain ⟨h7, su, h8, h9⟩ := hq acc s' h6
  have hw2 : wipeS ⟨sl, st⟩ [v] = ⟨sm, st⟩ := by
    show (⟨sl.set v none, st⟩ : S) = _
    rw [hw.eq]
  have hok : lcM (pure ds) [v] (asN v) t e ⟨sl, st⟩ = .ok (.ol acc) (restS ⟨sl, st⟩ s' [v]) := by
    unfold lcM
    show (match lcB [v] (asN v) t e ds [] (wipeS ⟨sl, st⟩ [v]) with | .ok ys s2 => (Res.ok (L.ol ys) (restS ⟨sl, st⟩ s2 [v]) : Res L) | _ => Res.bad) = _
    rw [hw2, h5]
  rw [show s' = ⟨s'.sl, s'.st⟩ from rfl, restS_one ho h7, h8.eq] at hok
  exact w_eq hok h9
/-! what is walked -/
theorem w_itL {Q : List D → S → Prop} (q : Q ds s) : wm (itD (.lst ds)) s Q := ⟨q⟩
theorem w_itT {Q : List D → S → Prop} (q : Q ds s) : wm (itD (.tup ds)) s Q := ⟨q⟩
theorem w_itC {Q : List D → S → Prop} (q : Q ds s) : wm (itD (.scr ds)) s Q := ⟨q⟩
theorem rgD_len (a : Int) (m : Nat) : (rgD a m).length = m := by unfold rgD; rw [List.length_map, List.length_range]
theorem mem_rgD {a : Int} {m : Nat} {d : D} (h : d ∈ rgD a m) : ∃ i : Nat, i < m ∧ d = .int (a + (i : Nat)) := by
  unfold rgD at h
  obtain ⟨i, hi, e⟩ := List.mem_map.mp h
  exact ⟨i, List.mem_range.mp hi, e.symm⟩
theorem w_rg1 {Q : List D → S → Prop} {j : Int} (h : -(2 ^ 62) ≤ j ∧ j < 2 ^ 62) (q : Q (rgD 0 j.toNat) s) : wm (rg1W [.int j]) s Q := by
  show wm (if decide (-(2 ^ 62) ≤ j) && decide (j < 2 ^ 62) then (pure (rgD 0 j.toNat) : M (List D)) else bad) s Q
  rw [if_pos (by rw [Bool.and_eq_true, decide_eq_true_eq, decide_eq_true_eq]; exact h)]
  exact ⟨q⟩
theorem w_rg2 {Q : List D → S → Prop} {i j : Int} (h : -(2 ^ 62) ≤ i ∧ i < 2 ^ 62 ∧ -(2 ^ 62) ≤ j ∧ j < 2 ^ 62) (q : Q (rgD i (j - i).toNat) s) : wm (rg2W [.int i, .int j]) s Q := by
  show wm (if decide (-(2 ^ 62) ≤ i) && decide (i < 2 ^ 62) && decide (-(2 ^ 62) ≤ j) && decide (j < 2 ^ 62) then (pure (rgD i (j - i).toNat) : M (List D)) else bad) s Q
  rw [if_pos (by simp only [Bool.and_eq_true, decide_eq_true_eq]; exact ⟨⟨⟨h.1, h.2.1⟩, h.2.2.1⟩, h.2.2.2⟩)]
  exact ⟨q⟩
theorem w_lstS (q : Q (.ol ds) s) : wm (lstW (.sh (.scr ds))) s Q := ⟨q⟩
theorem w_lstL (q : Q (.ol ds) s) : wm (lstW (.sh (.lst ds))) s Q := ⟨q⟩
theorem w_lstT (q : Q (.ol ds) s) : wm (lstW (.sh (.tup ds))) s Q := ⟨q⟩
theorem w_lstO (q : Q (.ol ds) s) : wm (lstW (.ol ds)) s Q := ⟨q⟩
theorem w_tupT (q : Q (.sh (.tup ds)) s) : wm (tupW (.sh (.tup ds))) s Q := ⟨q⟩
theorem w_tupL (q : Q (.sh (.tup ds)) s) : wm (tupW (.sh (.lst ds))) s Q := ⟨q⟩
theorem w_tupO (q : Q (.sh (.tup ds)) s) : wm (tupW (.ol ds)) s Q := ⟨q⟩
theorem w_dd {ks : List Str} {fs : M (List D)} (h : wm fs s fun ds s' => Q (.sh (.mref s'.st.length)) ⟨s'.sl, s'.st ++ [.dic (ks.zip ds)]⟩) : wm (ddM ks fs) s Q := w_bind (wm_mono h fun _ _ q => ⟨q⟩)
theorem w_app {i : Nat} {f : M D} {ds : List D} (h0 : s.sl[i]? = some (some (.ol ds))) (h : wm f s fun d s' => wm (appN i d) s' Q) : wm (appM i f) s Q := by
  have hc : chkL i s = .ok () s := by unfold chkL; rw [h0]
  exact w_bind (w_eq hc (w_bind h))
theorem w_appN {i : Nat} {d : D} (h : sl[i]? = some (some (.ol ds))) (hl : ds.length < lineN) (hs : SetAt i (some (.ol (ds ++ [d]))) sl sm) (q : Q (.sh .non) ⟨sm, st⟩) : wm (appN i d) ⟨sl, st⟩ Q := by
  refine w_eq (s' := ⟨sm, st⟩) (a := .sh .non) ?_ q
  unfold appN
  dsimp only
  rw [h]
  dsimp only
  rw [if_pos hl, hs.eq]
end
section
variable {sl sm : List (Option L)} {st : List MO} {s : S} {N : S → Prop} {R : L → S → Prop} {B C : S → Prop}
theorem s_stS {i : Nat} {f : Str} {m : M D} (h : wm m s fun d s' => ws (stN i f d) s' N R B C) : ws (stS i f m) s N R B C := s_th h
theorem s_stN {i : Nat} {f : Str} {d : D} {b : Bool} {cn : Str} {fs : List (Str × D)} (h : sl[i]? = some (some (.oi b cn fs))) (hl : fs.length < 1000) (hs : SetAt i (some (.oi b cn (putD f d fs))) sl sm) (q : N ⟨sm, st⟩) : ws (stN i f d) ⟨sl, st⟩ N R B C := by
  refine ⟨?_⟩
  unfold stN
  dsimp only
  rw [h]
  dsimp only
  rw [if_pos hl, hs.eq]
  exact q
theorem w_max2 {i j : Int} {Q : L → S → Prop} (q : Q (.sh (.int (if j > i then j else i))) s) : wm (gMax2 [.int i, .int j]) s Q := ⟨q⟩
theorem w_make {cn : Str} {m : Nat} {F : FnI} {ds : List D} {Q : L → S → Prop} {NN : List Str} {f : MS} (hF : F = runI NN cn f) (hm : ds.length = m)
    (h : ws f ⟨some (.oi true cn []) :: (ds.map (fun d => some (.sh d)) ++ List.replicate (NN.length - (ds.length + 1)) none), s.st⟩ (fun s' => ∃ fs, s'.sl[0]? = some (some (.oi true cn fs)) ∧ Q (.oi false cn fs) ⟨s.sl, s'.st⟩) (fun _ _ => False) (fun _ => False) (fun _ => False)) : wm (makeM cn m F ds) s Q := by
  subst hF
  refine ⟨?_⟩
  unfold makeM
  rw [if_pos hm]
  unfold runI initI
  have h := h.out
  dsimp only
  cases e : f ⟨some (.oi true cn []) :: (ds.map (fun d => some (.sh d)) ++ List.replicate (NN.length - (ds.length + 1)) none), s.st⟩ with
  | nx s' =>
    rw [e] at h
    obtain ⟨fs, h1, h2⟩ := h
    dsimp only
    rw [h1]
    dsimp only
    rw [if_pos rfl]
    exact h2
  | _ => rw [e] at h; exact h.elim
end
/-- the pen is made -/
theorem pen_ok {F : FnS} {NN : List Str} (hF : F = runF NN mPen) (hN : NN.length = 3) {s : S} (hs : s.st = []) {ns : List Int} {Q : L → S → Prop}
    (q : ∀ p : Pen, Q (.sh (.mref 0)) ⟨s.sl, [.dic p.fs]⟩) : wm (callN 1 F [.scr (ns.map D.int)]) s Q := by
  refine w_call hF rfl ?_
  rw [hN, hs]
  show ws mPen ⟨[some (.sh (.scr (ns.map D.int))), none, none], []⟩ _ _ _ _
  unfold mPen
  fail "SA"
  refine s_forI (fun _ s => ∃ (f : Int) (o : Option L), s = ⟨[some (.sh (.scr (ns.map D.int))), some (.sh (.int f)), o], []⟩) ⟨0, none, rfl⟩ (fun i d s hd ⟨f, o, e⟩ => ?_) (fun s ⟨f, o, e⟩ => ?_)
  · subst e
    obtain ⟨z, rfl⟩ : ∃ z, d = .int z := by
      rw [List.getElem?_map] at hd
      cases h : ns[i]? with
      | none => rw [h] at hd; cases hd
      | some z => rw [h] at hd; exact ⟨z, (Option.some.inj hd).symm⟩
    fail "SA"
    exact ⟨_, _, rfl⟩
  · subst e
    fail "SA"
    exact q ⟨ns, 0, 0, 0, f⟩
end Bv

/-! a pick; the law's look at what is told -/
namespace Bv
open PySem PySem.Spec PyProof.Rows L2
set_option hygiene false
local macro_rules | `(tactic| fail "S1") => `(tactic| (first | with_reducible refine s_seq ?_ | with_reducible refine s_nil ?_ | with_reducible refine s_ag ?_ | with_reducible refine s_rt ?_ | with_reducible refine s_ex ?_ | with_reducible refine s_for ?_ | with_reducible refine s_par2 ?_ | with_reducible refine s_par3 ?_ | with_reducible refine w_pure ?_ | with_reducible refine w_dM ?_ | with_reducible refine w_sM ?_ | with_reducible refine w_th ?_ | with_reducible refine w_fn ?_ | with_reducible refine w_rg ?_ | with_reducible refine w_it ?_ | with_reducible refine w_nil ?_ | with_reducible refine w_cons ?_ | with_reducible refine w_bin2 ?_ | with_reducible refine w_addI ?_ | with_reducible refine w_subI ?_ | with_reducible refine w_ltI ?_ | with_reducible refine w_leI ?_ | with_reducible refine w_gtI ?_ | with_reducible refine w_geI ?_ | with_reducible refine w_eqS ?_ | with_reducible refine w_neS ?_ | with_reducible refine w_eqI ?_ | with_reducible refine w_neI ?_ | with_reducible refine w_int ?_ | with_reducible refine w_ixM ?_ | with_reducible refine w_cmpT ?_ | with_reducible refine w_notT ?_ | with_reducible refine w_blT ?_ | with_reducible refine w_yes ?_ | with_reducible refine w_chM ?_ | with_reducible refine w_lcS ?_ | with_reducible refine w_itL ?_ | with_reducible refine w_ix0T ?_ | with_reducible refine w_ix0L ?_ | with_reducible refine w_ix0O ?_ | with_reducible refine w_ix1T ?_ | with_reducible refine w_ix1L ?_ | with_reducible refine w_ix1O ?_ | with_reducible refine w_ix2T ?_ | with_reducible refine w_ix2L ?_ | with_reducible refine w_ix2O ?_ | with_reducible refine w_ix3T ?_ | with_reducible refine w_ix3L ?_ | with_reducible refine w_ix3O ?_ | with_reducible refine w_itT ?_ | with_reducible refine w_itC ?_ | with_reducible refine w_lstS ?_ | with_reducible refine w_lstL ?_ | with_reducible refine w_lstT ?_ | with_reducible refine w_lstO ?_ | with_reducible refine w_tupT ?_ | with_reducible refine w_tupL ?_ | with_reducible refine w_tupO ?_ | with_reducible refine w_dd ?_ | with_reducible refine s_asT1 ?_ | with_reducible refine s_stS ?_ | with_reducible refine w_max2 ?_ | with_reducible refine s_asT0 ?_ | with_reducible refine w_gcd ?_ | with_reducible refine w_idxM ?_ | with_reducible refine w_enW ?_ | with_reducible refine w_zpL ?_ | with_reducible refine w_zpT ?_ | with_reducible refine w_rgOf ?_ | with_reducible refine w_dcS ?_ | with_reducible refine w_inK ?_ | with_reducible refine w_noP ?_ | with_reducible refine w_soP ?_ | with_reducible refine w_slM ?_ | ((with_reducible apply w_esc); (focus exact rfl)) | ((with_reducible apply w_sl); (focus exact rfl)) | ((with_reducible apply s_asN); (focus (repeat (first | exact SetAt.z | apply SetAt.s)))) | ((with_reducible apply w_ixN); (focus exact rfl)) | ((with_reducible apply w_slN); (focus exact rfl)) | ((with_reducible apply w_slL); (focus exact rfl)) | ((with_reducible apply w_slT); (focus exact rfl)) | ((with_reducible apply w_escO); (focus exact rfl); (focus (repeat (first | exact SetAt.z | apply SetAt.s)))) | ((with_reducible apply w_mv); (focus exact rfl); (focus (repeat (first | exact SetAt.z | apply SetAt.s)))) | ((with_reducible refine w_modI ?_ ?_); (focus first | omega | decide)) | ((with_reducible refine w_fdvI ?_ ?_ ?_); (focus first | omega | decide); (focus first | omega | decide)) | ((with_reducible refine w_powI ?_ ?_); (focus decide)) | ((with_reducible refine w_mulI ?_ ?_); (focus first | exact .inr (by decide) | exact .inl (by decide) | exact .inr (by constructor <;> omega) | exact .inl (by constructor <;> omega))) | ((with_reducible apply w_app); (focus exact rfl)) | ((with_reducible apply w_appN); (focus exact rfl); (focus first | decide | (simp only [List.length_cons, List.length_nil]; decide)); (focus (repeat (first | exact SetAt.z | apply SetAt.s)))) | ((with_reducible apply w_isi); (focus exact rfl); (focus assumption)) | ((with_reducible apply w_isF); (focus exact rfl)) | ((with_reducible apply w_fldS); (focus exact rfl)) | ((with_reducible apply s_stN); (focus exact rfl); (focus exact Nat.le_of_ble_eq_true rfl); (focus (repeat (first | exact SetAt.z | apply SetAt.s)))) | ((with_reducible apply w_fldO); (focus exact rfl)) | ((with_reducible refine w_rg1 ?_ ?_); (focus first | (constructor <;> omega) | decide)) | ((with_reducible refine w_rg2 ?_ ?_); (focus first | (refine ⟨?_, ?_, ?_, ?_⟩ <;> omega) | decide)) | ((with_reducible refine w_rgW ?_ ?_); (focus constructor <;> omega)) | ((with_reducible refine w_tup ?_ ?_); (focus exact Nat.le_of_ble_eq_true rfl)) | ((with_reducible refine w_lst ?_ ?_); (focus exact Nat.le_of_ble_eq_true rfl)) | ((with_reducible refine w_pen_at ?_ ?_); (focus exact rfl)) | ((with_reducible refine s_pen_at ?_ ?_ ?_); (focus exact rfl); (focus exact rfl)) | ((with_reducible refine w_pen_digits ?_ ?_); (focus exact rfl)) | ((with_reducible refine s_pen_digits ?_ ?_); (focus exact rfl)) | ((with_reducible refine w_pen_count ?_ ?_); (focus exact rfl)) | ((with_reducible refine s_pen_count ?_ ?_); (focus exact rfl)) | ((with_reducible refine w_pen_fold ?_ ?_); (focus exact rfl)) | ((with_reducible refine s_pen_fold ?_ ?_); (focus exact rfl)) | ((with_reducible refine w_pen_cells ?_ ?_); (focus exact rfl)) | with_reducible refine s_dp ?_ | with_reducible refine if_not ?_ | with_reducible refine if_tt ?_ | with_reducible refine if_ff ?_ | ((with_reducible refine if_decT ?_ ?_); (focus first | omega | (simp only [List.length_cons, List.length_nil]; omega))) | ((with_reducible refine if_decF ?_ ?_); (focus first | omega | (simp only [List.length_cons, List.length_nil]; omega))) | with_reducible refine if_dec (fun hc => ?_) (fun hc => ?_) | with_reducible refine s_if ?_ | with_reducible refine w_andT ?_ | with_reducible refine w_orT ?_ | with_reducible refine w_andM ?_ | with_reducible refine w_orM ?_ | with_reducible refine w_notM ?_ | with_reducible refine w_ifM ?_ | with_reducible refine w_truT ?_ | with_reducible refine w_negI ?_ | with_reducible refine ex_truB ?_ | with_reducible refine ⟨_, rfl, ?_⟩ | dsimp only [L.d] | ((with_reducible refine if_t ?_ ?_); (focus exact rfl)) | ((with_reducible refine if_f ?_ ?_); (focus exact rfl)) | ((with_reducible apply w_len); (focus exact .inl rfl)) | ((with_reducible apply w_len); (focus exact .inr rfl))))
local macro_rules | `(tactic| fail "SA") => `(tactic| (repeat' fail "S1"))
local macro_rules | `(tactic| fail "SR") => `(tactic| (repeat fail "S1"))
set_option hygiene true
theorem pick_ok {F FD : FnS} {NN ND : List Str} (hF : F = runF NN (mPick FD)) (hN : NN.length = 2) (hD : FD = runF ND mDraw) (hND : ND.length = 5) {s : S} {p : Pen} {r : List MO} (hs : s.st = .dic p.fs :: r) {ds : List D} (h0 : 0 < ds.length) (h1 : ds.length < 1073741824) {Q : L → S → Prop}
    (q : ∀ (d : D) (p' : Pen), d ∈ ds → Q (.sh d) ⟨s.sl, .dic p'.fs :: r⟩) : wm (callN 2 F [.mref 0, .lst ds]) s Q := by
  refine w_call hF rfl ?_
  rw [hN, hs]
  show ws (mPick FD) ⟨[some (.sh (.mref 0)), some (.sh (.lst ds))], .dic p.fs :: r⟩ _ _ _ _
  unfold mPick
  fail "SA"
  refine draw_ok hD hND rfl (by omega) (by omega) fun x p' hx0 hx1 => ?_
  fail "SA"
  obtain ⟨k, rfl⟩ := Int.eq_ofNat_of_zero_le hx0
  have hk : k < ds.length := by omega
  refine w_ixW (.inl rfl) (atI_nat (List.getElem?_eq_getElem hk)) ?_
  fail "SA"
  exact q _ p' (List.getElem_mem hk)
/-- plain data -/
inductive Pln : Nat → D → Prop
  | int (k : Nat) (i : Int) : Pln k (.int i)
  | bl (k : Nat) (b : Bool) : Pln k (.bl b)
  | non (k : Nat) : Pln k .non
  | tup {k : Nat} {ds : List D} (h : ∀ d ∈ ds, Pln k d) (hl : ds.length ≤ lineN) : Pln (k + 1) (.tup ds)
def isTab : List (Str × String × Bool) := [("tuple", "int", false), ("tuple", "bool", false), ("tuple", "NoneType", false), ("tuple", "tuple", true), ("str", "int", false), ("int", "int", true), ("bool", "int", false)]
theorem is_ok {isi : List (List Str × Bv.Ty × Bool)} (H : ∀ e ∈ isTab, isiT isi [e.1] (.b e.2.1) = some e.2.2) {FF : Nat → FnS} {NN : List Str} (hF : ∀ j, FF (j + 1) = runF NN (mIs isi (FF j))) (hN : NN.length = 3) :
    ∀ (k : Nat) (d : D), Pln k d → ∀ (s : S) (Q : L → S → Prop), Q (.sh (.bl true)) s → wm (callN 2 (FF (k + 1)) [d, d]) s Q := by
  have t1 : isiT isi [Str.ofString "tuple"] (.b "int") = some false := H ("tuple", "int", false) (by simp [isTab])
  have t2 : isiT isi [Str.ofString "tuple"] (.b "bool") = some false := H ("tuple", "bool", false) (by simp [isTab])
  have t3 : isiT isi [Str.ofString "tuple"] (.b "NoneType") = some false := H ("tuple", "NoneType", false) (by simp [isTab])
  have t4 : isiT isi [Str.ofString "tuple"] (.b "tuple") = some true := H ("tuple", "tuple", true) (by simp [isTab])
  have t5 : isiT isi [Str.ofString "str"] (.b "int") = some false := H ("str", "int", false) (by simp [isTab])
  have t6 : isiT isi [Str.ofString "int"] (.b "int") = some true := H ("int", "int", true) (by simp [isTab])
  have t7 : isiT isi [Str.ofString "bool"] (.b "int") = some false := H ("bool", "int", false) (by simp [isTab])
  have body : ∀ (k : Nat) (d : D) (s : S) (Q : L → S → Prop), Q (.sh (.bl true)) s → ws (mIs isi (FF k)) ⟨[some (.sh d), some (.sh d), none], s.st⟩ (fun s' => Q (.sh .non) ⟨s.sl, s'.st⟩) (fun l s' => Q l ⟨s.sl, s'.st⟩) (fun _ => False) (fun _ => False) → wm (callN 2 (FF (k + 1)) [d, d]) s Q := fun k d s Q q h => by
    refine w_call (hF k) rfl ?_
    rw [hN]
    exact h
  intro k d hd
  induction hd with
  | int k i =>
    intro s Q q
    refine body k _ s Q q ?_
    unfold mIs
    fail "SA"
    all_goals simpa using q
  | bl k b =>
    intro s Q q
    refine body k _ s Q q ?_
    unfold mIs
    cases b
    all_goals fail "SA"
    all_goals exact q
  | non k =>
    intro s Q q
    refine body k _ s Q q ?_
    unfold mIs
    fail "SA"
    all_goals exact q
  | @tup k ds h hl ih =>
    intro s Q q
    refine body (k + 1) _ s Q q ?_
    unfold mIs
    fail "SA"
    have hl2 : ds.length ≤ 16777216 := hl
    fail "SA"
    refine w_lcP (.s (.s .z)) (by rw [rgD_len]; simpa using hl) (fun _ => none) (fun d hd => ?_) ?_
    · obtain ⟨i, hi, rfl⟩ := mem_rgD hd
      have hi : i < ds.length := by simpa using hi
      rw [Int.zero_add]
      refine ⟨_, .s (.s .z), ?_⟩
      fail "SA"
      refine w_ixW (.inr rfl) (atI_nat (List.getElem?_eq_getElem hi)) ?_
      fail "SA"
      refine w_ixW (.inr rfl) (atI_nat (List.getElem?_eq_getElem hi)) ?_
      fail "SA"
      refine ih _ (List.getElem_mem hi) _ _ ?_
      fail "SA"
      exact ⟨rfl, by simp⟩
    · have e0 : (rgD 0 (ds.length : Int).toNat).filterMap (fun _ => (none : Option D)) = [] := by simp
      rw [e0]
      fail "SA"
      refine w_eqD (b := true) rfl ?_
      fail "SA"
      exact q
end Bv

/-! comprehensions over lists of plain things; loops -/
namespace Bv
open PySem PySem.Spec PyProof.Rows L2
theorem wipeS_st' (s : S) : ∀ vs : List Nat, (wipeS s vs).st = s.st
  | [] => rfl
  | v :: vs => wipeS_st' s vs
theorem wipeS_get' {s : S} {i : Nat} : ∀ {vs : List Nat}, i ∉ vs → (wipeS s vs).sl[i]? = s.sl[i]?
  | [], _ => rfl
  | v :: vs, h => by
    show ((wipeS s vs).sl.set v none)[i]? = _
    rw [List.getElem?_set_ne (fun z => h (by simp [z]))]
    exact wipeS_get' (fun z => h (by simp [z]))
theorem wipeS_in' {s : S} {i : Nat} : ∀ {vs : List Nat}, i ∈ vs → i < s.sl.length → (wipeS s vs).sl[i]? = some none
  | v :: vs, h, hl => by
    show ((wipeS s vs).sl.set v none)[i]? = _
    by_cases e : v = i
    · subst e
      rw [List.getElem?_set_self (by rw [wipeS_len]; exact hl)]
    · rw [List.getElem?_set_ne e]
      exact wipeS_in' ((List.mem_cons.mp h).resolve_left (fun z => e z.symm)) hl
theorem wipeS_twice (s : S) (vs : List Nat) : wipeS (wipeS s vs) vs = wipeS s vs := by
  have h1 : (wipeS (wipeS s vs) vs).st = (wipeS s vs).st := wipeS_st' _ _
  have h2 : (wipeS (wipeS s vs) vs).sl = (wipeS s vs).sl := by
    apply List.ext_getElem?
    intro i
    by_cases hi : i ∈ vs
    · by_cases hl : i < s.sl.length
      · rw [wipeS_in' hi (by rw [wipeS_len]; exact hl), wipeS_in' hi hl]
      · rw [List.getElem?_eq_none (by rw [wipeS_len, wipeS_len]; omega), List.getElem?_eq_none (by rw [wipeS_len]; omega)]
    · rw [wipeS_get' hi]
  cases h : wipeS (wipeS s vs) vs
  cases h' : wipeS s vs
  rw [h] at h1 h2
  rw [h'] at h1 h2
  simp_all
theorem restS_same {s s' : S} {vs : List Nat} (h : wipeS s' vs = wipeS s vs) : restS s s' vs = s := by
  have hst : s'.st = s.st := by
    have := congrArg S.st h
    rwa [wipeS_st', wipeS_st'] at this
  have hln : s'.sl.length = s.sl.length := by
    have := congrArg (fun x : S => x.sl.length) h
    simpa [wipeS_len] using this
  have hsl : (restS s s' vs).sl = s.sl := by
    unfold restS
    apply List.ext_getElem?
    intro i
    show (((List.range s'.sl.length).map fun i => if i ∈ vs then (s.sl[i]?).getD none else (s'.sl[i]?).getD none))[i]? = _
    rw [List.getElem?_map]
    by_cases hi : i < s.sl.length
    · rw [List.getElem?_range (by rw [hln]; exact hi)]
      show some (if i ∈ vs then (s.sl[i]?).getD none else (s'.sl[i]?).getD none) = _
      by_cases hv : i ∈ vs
      · rw [if_pos hv, List.getElem?_eq_getElem hi]; rfl
      · rw [if_neg hv]
        have z := congrArg (fun x : S => x.sl[i]?) h
        rw [wipeS_get' hv, wipeS_get' hv] at z
        rw [z, List.getElem?_eq_getElem hi]; rfl
    · rw [List.getElem?_eq_none (by rw [List.length_range, hln]; omega), List.getElem?_eq_none (by omega)]
      rfl
  have : (restS s s' vs).st = s.st := hst
  cases h1 : restS s s' vs
  rw [h1] at hsl this
  cases s
  simp_all
section
variable {α : Type} {l : List α} {e : α → D} {vs : List Nat} {a : AS} {t : M Bool} {el : M D} {sl sm : List (Option L)} {st : List MO} {Q : L → S → Prop}
/-- a comprehension that leaves all as it was -/
theorem w_lcG (p : α → Bool) (f : α → D) (hw : wipeS ⟨sl, st⟩ vs = ⟨sm, st⟩) (hl : l.length ≤ lineN)
    (h : ∀ x ∈ l, ∃ sd, a (.sh (e x)) ⟨sm, st⟩ = some ⟨sd, st⟩ ∧ wipeS ⟨sd, st⟩ vs = ⟨sm, st⟩ ∧ wm t ⟨sd, st⟩ fun b s4 => s4 = ⟨sd, st⟩ ∧ b = p x ∧ (p x = true → wm el ⟨sd, st⟩ fun y s5 => s5 = ⟨sd, st⟩ ∧ y = f x))
    (q : Q (.ol ((l.filter p).map f)) ⟨sl, st⟩) : wm (lcD (l.map e) vs a t el) ⟨sl, st⟩ Q := by
  unfold lcD
  have key : ∀ (r : List α) (acc : List D) (s : S), (∀ d ∈ r, d ∈ l) → acc.length + r.length ≤ lineN → wipeS s vs = ⟨sm, st⟩ → ∃ s', lcB vs a t el (r.map e) acc s = .ok (acc ++ (r.filter p).map f) s' ∧ wipeS s' vs = ⟨sm, st⟩ := by
    intro r
    induction r with
    | nil => intro acc s _ _ hs; exact ⟨s, by simp [lcB], hs⟩
    | cons x r ih =>
      intro acc s hm hlen hs
      obtain ⟨sd, h1, h2, h3⟩ := h x (hm x (by simp))
      obtain ⟨b, s4, e4, rfl, hb, h4⟩ := wm_ok h3
      rw [List.map_cons]
      unfold lcB
      rw [hs, h1]
      dsimp only
      rw [e4]
      rw [List.length_cons] at hlen
      subst hb
      cases hp : p x with
      | false =>
        dsimp only
        obtain ⟨s', h5, h6⟩ := ih acc ⟨sd, st⟩ (fun x hx => hm x (by simp [hx])) (by omega) h2
        exact ⟨s', by rw [h5, List.filter_cons, hp]; rfl, h6⟩
      | true =>
        dsimp only
        obtain ⟨y, s5, e5, rfl, h7⟩ := wm_ok (h4 hp)
        rw [e5]
        dsimp only
        rw [if_pos (by omega)]
        obtain ⟨s', h5, h6⟩ := ih (acc ++ [y]) ⟨sd, st⟩ (fun x hx => hm x (by simp [hx])) (by rw [List.length_append, List.length_singleton]; omega) h2
        refine ⟨s', ?_, h6⟩
        rw [h5, List.filter_cons, hp, h7]
        simp
  obtain ⟨s', h5, h6⟩ := key l [] (wipeS ⟨sl, st⟩ vs) (fun _ h => h) (by simpa using hl) (by rw [hw, ← hw, wipeS_twice, hw])
  refine w_eq (s' := ⟨sl, st⟩) (a := .ol ((l.filter p).map f)) ?_ q
  unfold lcM
  show (match lcB vs a t el (l.map e) [] (wipeS ⟨sl, st⟩ vs) with | .ok ys s2 => (Res.ok (L.ol ys) (restS ⟨sl, st⟩ s2 vs) : Res L) | _ => Res.bad) = _
  rw [h5]
  dsimp only
  rw [restS_same (h6.trans hw.symm), List.nil_append]
/-- without a test -/
theorem w_lcF (f : α → D) (hw : wipeS ⟨sl, st⟩ vs = ⟨sm, st⟩) (hl : l.length ≤ lineN)
    (h : ∀ x ∈ l, ∃ sd, a (.sh (e x)) ⟨sm, st⟩ = some ⟨sd, st⟩ ∧ wipeS ⟨sd, st⟩ vs = ⟨sm, st⟩ ∧ wm el ⟨sd, st⟩ fun y s5 => s5 = ⟨sd, st⟩ ∧ y = f x)
    (q : Q (.ol (l.map f)) ⟨sl, st⟩) : wm (lcD (l.map e) vs a yesM el) ⟨sl, st⟩ Q := by
  refine w_lcG (fun _ => true) f hw hl (fun x hx => ?_) (by rw [List.filter_eq_self.mpr (fun _ _ => rfl)]; exact q)
  obtain ⟨sd, h1, h2, h3⟩ := h x hx
  exact ⟨sd, h1, h2, w_yes ⟨rfl, rfl, fun _ => h3⟩⟩
theorem rgD_map (a : Int) (m : Nat) : rgD a m = (List.range m).map fun i => D.int (a + (i : Nat)) := rfl
/-- a comprehension with draws: each turn makes some x with P x -/
theorem w_lcW {β : Type} {ds : List D} {T : Type} (g : β → D) (τ : T → List MO) (P : Nat → β → Prop) {p0 : T} (hw : wipeS ⟨sl, []⟩ vs = ⟨sm, []⟩) (hl : ds.length ≤ lineN)
    (h : ∀ (i : Nat) (d : D) (p : T), ds[i]? = some d → ∃ sd, a (.sh d) ⟨sm, τ p⟩ = some ⟨sd, τ p⟩ ∧ wipeS ⟨sd, []⟩ vs = ⟨sm, []⟩ ∧ wm el ⟨sd, τ p⟩ fun y s5 => ∃ p' x, s5 = ⟨sd, τ p'⟩ ∧ y = g x ∧ P i x)
    (q : ∀ (xs : List β) (p : T), xs.length = ds.length → (∀ (i : Nat) (x : β), xs[i]? = some x → P i x) → Q (.ol (xs.map g)) ⟨sl, τ p⟩) : wm (lcD ds vs a yesM el) ⟨sl, τ p0⟩ Q := by
  unfold lcD
  have wst : ∀ (x y : List (Option L)) (st : List MO), wipeS ⟨x, []⟩ vs = ⟨y, []⟩ → wipeS ⟨x, st⟩ vs = ⟨y, st⟩ := by
    intro x y st hxy
    have h1 : ∀ vs : List Nat, (wipeS ⟨x, st⟩ vs).sl = (wipeS ⟨x, []⟩ vs).sl := fun vs => by
      induction vs with
      | nil => rfl
      | cons v vs ih => show (wipeS ⟨x, st⟩ vs).sl.set v none = (wipeS ⟨x, []⟩ vs).sl.set v none; rw [ih]
    have h2 := h1 vs
    rw [hxy] at h2
    have h3 := wipeS_st' ⟨x, st⟩ vs
    cases hz : wipeS ⟨x, st⟩ vs
    rw [hz] at h2 h3
    simp_all
  have key : ∀ (r : List D) (i : Nat) (xs : List β) (p : T) (s : S), ds.drop i = r → xs.length = i → (∀ (j : Nat) (x : β), xs[j]? = some x → P j x) → wipeS s vs = ⟨sm, τ p⟩ →
      ∃ (xs' : List β) (p' : T) (s' : S), lcB vs a yesM el r (xs.map g) s = .ok (xs'.map g) s' ∧ xs'.length = i + r.length ∧ (∀ (j : Nat) (x : β), xs'[j]? = some x → P j x) ∧ wipeS s' vs = ⟨sm, τ p'⟩ := by
    intro r
    induction r with
    | nil => intro i xs p s _ hx hP hs; exact ⟨xs, p, s, by simp [lcB], by simpa using hx, hP, hs⟩
    | cons d r ih =>
      intro i xs p s hd hx hP hs
      have hdi : ds[i]? = some d := by
        have := congrArg (fun z : List D => z[0]?) hd
        simpa using this
      have hi : i < ds.length := (List.getElem?_eq_some_iff.mp hdi).1
      obtain ⟨sd, h1, h2, h3⟩ := h i d p hdi
      unfold lcB
      rw [hs, h1]
      dsimp only
      show ∃ (xs' : List β) (p' : T) (s' : S), (match el ⟨sd, τ p⟩ with | .ok y s3 => if (xs.map g).length < lineN then lcB vs a yesM el r (xs.map g ++ [y]) s3 else Res.bad | _ => Res.bad) = .ok (xs'.map g) s' ∧ _
      obtain ⟨y, s5, e5, p', x, rfl, hy, hPx⟩ := wm_ok h3
      rw [e5]
      dsimp only
      rw [if_pos (by rw [List.length_map, hx]; omega), hy, show xs.map g ++ [g x] = (xs ++ [x]).map g by simp]
      obtain ⟨xs', p2, s', g1, g2, g3, g4⟩ := ih (i + 1) (xs ++ [x]) p' ⟨sd, τ p'⟩ (by rw [← List.drop_drop, hd]; rfl) (by simp [hx]) (fun j z hz => by
        by_cases hj : j < xs.length
        · rw [List.getElem?_append_left hj] at hz; exact hP j z hz
        · rw [List.getElem?_append_right (by omega)] at hz
          cases hk : j - xs.length with
          | zero =>
            rw [hk] at hz
            have : x = z := by simpa using hz
            subst this
            have : j = i := by omega
            subst this
            exact hPx
          | succ k => rw [hk] at hz; simp at hz) (wst _ _ _ h2)
      exact ⟨xs', p2, s', g1, by rw [g2, List.length_cons]; omega, g3, g4⟩
  obtain ⟨xs', p', s', h5, h6, h7, h8⟩ := key ds 0 [] p0 (wipeS ⟨sl, τ p0⟩ vs) (by rw [List.drop_zero]) rfl (fun j x hx => by simp at hx) (by rw [wipeS_twice]; exact wst _ _ _ hw)
  have hr : restS ⟨sl, τ p0⟩ s' vs = ⟨sl, τ p'⟩ := by
    have h9 := restS_same (s := ⟨sl, τ p'⟩) (s' := s') (h8.trans (wst _ _ _ hw).symm)
    rw [← h9]
    unfold restS
    rfl
  refine w_eq (s' := ⟨sl, τ p'⟩) (a := .ol (xs'.map g)) ?_ (q xs' p' (by omega) h7)
  unfold lcM
  show (match lcB vs a yesM el ds [] (wipeS ⟨sl, τ p0⟩ vs) with | .ok ys s2 => (Res.ok (L.ol ys) (restS ⟨sl, τ p0⟩ s2 vs) : Res L) | _ => Res.bad) = _
  have h5' : lcB vs a yesM el ds [] (wipeS ⟨sl, τ p0⟩ vs) = .ok (xs'.map g) s' := h5
  rw [h5']
  dsimp only
  rw [hr]
end
/-! loops -/
theorem s_forR {sl : S} {a : AS} {f : MS} {m n : Nat} {N : S → Prop} {R : L → S → Prop} {B C : S → Prop} (I : Nat → S → Prop) (hm : m = n) (h0 : I 0 sl)
    (hb : ∀ (i : Nat) (s : S), i < n → I i s → ws (asg a (.sh (.int (i : Int)))) s (fun s1 => ws f s1 (I (i + 1)) R N (I (i + 1))) (fun _ _ => False) (fun _ => False) (fun _ => False)) (hN : ∀ s, I n s → N s) : ws (forB a f (rgD 0 m)) sl N R B C := by
  subst hm
  refine s_forI I h0 (fun i d s hd hi => ?_) (fun s hi => hN s (by rw [rgD_len] at hi; exact hi))
  have hlt : i < (rgD 0 m).length := (List.getElem?_eq_some_iff.mp hd).1
  rw [rgD_get hlt, Int.zero_add] at hd
  cases hd
  rw [rgD_len] at hlt
  exact hb i s hlt hi
theorem s_forL {α : Type} {sl : S} {a : AS} {f : MS} {l : List α} {e : α → D} {N : S → Prop} {R : L → S → Prop} {B C : S → Prop} (I : Nat → S → Prop) (h0 : I 0 sl)
    (hb : ∀ (i : Nat) (hi : i < l.length) (s : S), I i s → ws (asg a (.sh (e l[i]))) s (fun s1 => ws f s1 (I (i + 1)) R N (I (i + 1))) (fun _ _ => False) (fun _ => False) (fun _ => False)) (hN : ∀ s, I l.length s → N s) : ws (forB a f (l.map e)) sl N R B C := by
  refine s_forI I h0 (fun i d s hd hi => ?_) (fun s hi => hN s (by rw [List.length_map] at hi; exact hi))
  rw [List.getElem?_map] at hd
  by_cases hlt : i < l.length
  · rw [List.getElem?_eq_getElem hlt] at hd
    cases hd
    exact hb i hlt s hi
  · rw [List.getElem?_eq_none (by omega)] at hd
    cases hd
theorem take_get {α : Type} {l : List α} {i : Nat} (h : i < l.length) : l.take (i + 1) = l.take i ++ [l[i]] := by
  rw [List.take_succ, List.getElem?_eq_getElem h]
  rfl
theorem w_bools {f : List Bool → Bool} {l : L} {ds : List D} {bs : List Bool} {s : S} {Q : L → S → Prop} (h : l.d = .lst ds) (h2 : blsOf ds = some bs) (q : Q (.sh (.bl (f bs))) s) : wm (boolsW f l) s Q := by
  refine w_eq (s' := s) (a := .sh (.bl (f bs))) ?_ q
  unfold boolsW
  rw [h]
  dsimp only
  rw [h2]
  rfl
theorem w_best {f : List Int → Int} {l : L} {ns : List Int} {s : S} {Q : L → S → Prop} (h : l.d = .lst (ns.map D.int) ∨ l.d = .tup (ns.map D.int)) (h2 : ns ≠ []) (q : Q (.sh (.int (f ns))) s) : wm (bestW2 f l) s Q := by
  refine w_eq (s' := s) (a := .sh (.int (f ns))) ?_ q
  unfold bestW2
  rcases h with h | h <;> rw [h] <;> dsimp only <;> rw [intsOf_map] <;> cases ns with
  | nil => exact absurd rfl h2
  | cons x r => rfl
theorem w_sum {l : L} {ns : List Int} {s : S} {Q : L → S → Prop} (h : l.d = .lst (ns.map D.int) ∨ l.d = .tup (ns.map D.int)) (q : Q (.sh (.int ns.sum)) s) : wm (sumW2 l) s Q := by
  refine w_eq (s' := s) (a := .sh (.int ns.sum)) ?_ q
  unfold sumW2
  rcases h with h | h <;> rw [h] <;> dsimp only <;> rw [intsOf_map] <;> rfl
theorem w_rgOf {f : M D} {g : List D → L} {s : S} {Q : L → S → Prop} (h : wm f s fun d s' => wm (rgW g d) s' Q) : wm (rgOf f g) s Q := w_bind h
theorem w_rgW {g : List D → L} {j : Int} {s : S} {Q : L → S → Prop} (h : 0 ≤ j ∧ j ≤ 16777216) (q : Q (g (rgD 0 j.toNat)) s) : wm (rgW g (.int j)) s Q := by
  refine w_eq (s' := s) (a := g (rgD 0 j.toNat)) ?_ q
  unfold rgW
  dsimp only
  rw [if_pos (by simp only [Bool.and_eq_true, decide_eq_true_eq]; exact h)]
  rfl
theorem w_rgOf2 {fa fb : M D} {g : List D → L} {s : S} {Q : L → S → Prop} (h : wm fa s fun d s1 => wm fb s1 fun e s2 => wm (rgW2 g d e) s2 Q) : wm (rgOf2 fa fb g) s Q := w_bind (wm_mono h fun _ _ h => w_bind h)
theorem w_rgW2 {g : List D → L} {i j : Int} {s : S} {Q : L → S → Prop} (h : (-1073741824 ≤ i ∧ i ≤ 1073741824) ∧ (-1073741824 ≤ j ∧ j ≤ 1073741824) ∧ j - i ≤ 16777216) (q : Q (g (rgD i (j - i).toNat)) s) : wm (rgW2 g (.int i) (.int j)) s Q := by
  refine w_eq (s' := s) (a := g (rgD i (j - i).toNat)) ?_ q
  unfold rgW2
  dsimp only
  rw [if_pos (by simp only [Bool.and_eq_true, decide_eq_true_eq]; omega)]
  rfl
theorem w_mul1 {d : D} {j : Int} {s : S} {Q : L → S → Prop} (h : 0 ≤ j ∧ j ≤ 1000) (q : Q (.sh (.tup (List.replicate j.toNat d))) s) : wm (gMul (.tup [d]) (.int j)) s Q := by
  refine w_eq (s' := s) (a := .sh (.tup (List.replicate j.toNat d))) ?_ q
  unfold gMul
  dsimp only
  rw [if_pos (by simp only [Bool.and_eq_true, decide_eq_true_eq, List.length_cons, List.length_nil]; omega)]
  have : (List.replicate j.toNat [d]).flatten = List.replicate j.toNat d := by
    generalize j.toNat = k
    induction k with
    | zero => rfl
    | succ k ih => rw [List.replicate_succ, List.replicate_succ, List.flatten_cons, ih]; rfl
  rw [this]
  rfl
theorem w_addT {ds es : List D} {s : S} {Q : L → S → Prop} (h : ds.length + es.length ≤ lineN) (q : Q (.sh (.tup (ds ++ es))) s) : wm (gAdd (.tup ds) (.tup es)) s Q := by
  refine w_eq (s' := s) (a := .sh (.tup (ds ++ es))) ?_ q
  unfold gAdd
  dsimp only
  rw [if_pos h]
  rfl
theorem w_inN {fa : M D} {i : Nat} {neg : Bool} {s : S} {Q : L → S → Prop} (h : wm fa s fun d s1 => wm (slN i) s1 fun l s2 => wm (inL neg d l) s2 Q) : wm (inN fa i neg) s Q := w_bind (wm_mono h fun _ _ h => w_bind h)
theorem w_inLs {d e : D} {neg : Bool} {s : S} {Q : L → S → Prop} (h : wm (gIn2 neg d e) s Q) : wm (inL neg d (.sh e)) s Q := h
theorem w_inLo {d : D} {ds : List D} {neg : Bool} {s : S} {Q : L → S → Prop} (h : wm (gIn2 neg d (.lst ds)) s Q) : wm (inL neg d (.ol ds)) s Q := h
theorem w_gcd {i j : Int} {s : S} {Q : L → S → Prop} (q : Q (.sh (.int ((Nat.gcd i.natAbs j.natAbs : Nat) : Int))) s) : wm (gGcd [.int i, .int j]) s Q := ⟨q⟩
theorem w_idxM {fa fb : M D} {s : S} {Q : L → S → Prop} (h : wm fa s fun d s1 => ∃ ds, d = .lst ds ∧ wm fb s1 fun e s2 => wm (gIdx (.lst ds) e) s2 Q) : wm (idxM fa fb) s Q := by
  refine w_bind (wm_mono h fun d s1 ⟨ds, e, q⟩ => ?_)
  subst e
  exact w_bind q
theorem w_ext {i : Nat} {f : M D} {ds : List D} {s : S} {Q : L → S → Prop} (h0 : s.sl[i]? = some (some (.ol ds))) (h : wm f s fun d s' => wm (extN i d) s' Q) : wm (extM i f) s Q := by
  have hc : chkL i s = .ok () s := by unfold chkL; rw [h0]
  exact w_bind (w_eq hc (w_bind h))
theorem w_extN {i : Nat} {ds es : List D} {sl sm : List (Option L)} {st : List MO} {Q : L → S → Prop} (h : sl[i]? = some (some (.ol ds))) (hl : ds.length + es.length ≤ lineN) (hs : SetAt i (some (.ol (ds ++ es))) sl sm) (q : Q (.sh .non) ⟨sm, st⟩) : wm (extN i (.lst es)) ⟨sl, st⟩ Q := by
  refine w_eq (s' := ⟨sm, st⟩) (a := .sh .non) ?_ q
  unfold extN
  dsimp only
  rw [h]
  dsimp only
  rw [if_pos hl, hs.eq]
theorem w_enW {es : List D} {s : S} {Q : List D → S → Prop} (q : Q (enD 0 es) s) : wm (enW [.lst es]) s Q := ⟨q⟩
theorem w_enT {es : List D} {s : S} {Q : List D → S → Prop} (q : Q (enD 0 es) s) : wm (enW [.tup es]) s Q := ⟨q⟩
theorem w_zpL {es fs : List D} {s : S} {Q : List D → S → Prop} (q : Q (zpD es fs) s) : wm (zpW [.lst es, .lst fs]) s Q := ⟨q⟩
theorem w_zpT {es fs : List D} {s : S} {Q : List D → S → Prop} (q : Q (zpD es fs) s) : wm (zpW [.tup es, .tup fs]) s Q := ⟨q⟩
theorem enD_map {α : Type} (e : α → D) : ∀ (k : Nat) (l : List α), enD k (l.map e) = (l.zipIdx k).map fun p => .tup [.int (p.2 : Nat), e p.1]
  | _, [] => rfl
  | k, x :: r => by
    show D.tup [.int (k : Nat), e x] :: enD (k + 1) (r.map e) = _
    rw [enD_map e (k + 1) r]
    rfl
theorem zpD_map {α β : Type} (e : α → D) (f : β → D) : ∀ (l : List α) (m : List β), zpD (l.map e) (m.map f) = (l.zip m).map fun p => .tup [e p.1, f p.2]
  | [], _ => by simp [zpD]
  | _ :: _, [] => by simp [zpD]
  | x :: r, y :: q => by
    show D.tup [e x, f y] :: zpD (r.map e) (q.map f) = _
    rw [zpD_map e f r q]
    rfl
theorem w_sort {l : L} {ns : List Int} {s : S} {Q : L → S → Prop} (h : l.d = .lst (ns.map D.int)) (q : Q (.ol ((sortI ns).map D.int)) s) : wm (sortW2 l) s Q := by
  refine w_eq (s' := s) (a := .ol ((sortI ns).map D.int)) ?_ q
  unfold sortW2
  rw [h]
  dsimp only
  rw [intsOf_map]
  rfl
/-! the law's end -/
theorem plain_of {F : FnS} {N : List Str} {m : MS} (hF : F = runF N m) (h : ∀ ns : List Int, ns.length ≤ 63 → ws m (initS N [.scr (ns.map D.int)] []) (fun _ => False) (fun l _ => l = .sh (.bl true)) (fun _ => False) (fun _ => False)) : Plain F := fun ns hns => by
  have h := (h ns hns).out
  subst hF
  unfold runF
  show ∃ s, (match m (initS N [.scr (ns.map D.int)] []) with
    | .rt x s' => Res.ok x s'
    | .nx s' => Res.ok (.sh .non) s'
    | .exc C fs s' => Res.exc C fs s'
    | _ => Res.bad) = Res.ok (.sh (.bl true)) s
  cases e : m (initS N [.scr (ns.map D.int)] []) with
  | rt l s' =>
    rw [e] at h
    have h : l = .sh (.bl true) := h
    exact ⟨s', by rw [h]⟩
  | _ => rw [e] at h; exact h.elim
end Bv

/-! plain things as values: ==, in -/
namespace Bv
open PySem PySem.Spec PyProof.Rows L2
/-- e writes the things of P as plain data of depth k at most; unlike things as unlike data -/
structure Emb {α : Type} [DecidableEq α] (e : α → D) (P : α → Prop) (k : Nat) : Prop where
  ok : ∃ py : α → PyData, ∀ x, P x → (e x).py = some (py x) ∧ (py x).canLay0 = true ∧ (py x).depth ≤ k ∧ ∀ y, P y → PyData.eqv (py x) (py y) = decide (x = y)
section
variable {α β γ : Type} [DecidableEq α] [DecidableEq β] [DecidableEq γ] {e : α → D} {P : α → Prop} {k : Nat} {eb : β → D} {Pb : β → Prop} {ec : γ → D} {Pc : γ → Prop}
theorem emb_int : Emb D.int (fun _ => True) 0 := ⟨fun i => .int i, fun x _ => ⟨by unfold D.py; rfl, by simp [PyData.canLay0], by simp [PyData.depth], fun y _ => by rw [PyData.eqv]; rfl⟩⟩
theorem emb_bl : Emb D.bl (fun _ => True) 0 := ⟨fun i => .bool i, fun x _ => ⟨by unfold D.py; rfl, by simp [PyData.canLay0], by simp [PyData.depth], fun y _ => by rw [PyData.eqv]; cases x <;> cases y <;> rfl⟩⟩
theorem emb_str : Emb D.str (fun x => PyData.strOk x = true) 0 := ⟨fun i => .str i, fun x h => ⟨by unfold D.py; rfl, by simpa [PyData.canLay0] using h, by simp [PyData.depth], fun y _ => by rw [PyData.eqv]; by_cases h : x = y <;> simp [h]⟩⟩
theorem pyL_emb {py : α → PyData} : ∀ (xs : List α), (∀ x ∈ xs, (e x).py = some (py x)) → pyL (xs.map e) = some (xs.map py)
  | [], _ => rfl
  | x :: r, h => by
    show pyL (e x :: r.map e) = _
    unfold pyL
    rw [h x (by simp), pyL_emb r (fun y hy => h y (by simp [hy]))]
    rfl
theorem layAll_emb {py : α → PyData} : ∀ (xs : List α), (∀ x ∈ xs, (py x).canLay0 = true) → PyData.canLayAll0 (xs.map py) = true
  | [], _ => by simp [PyData.canLayAll0]
  | x :: r, h => by
    simp only [List.map_cons, PyData.canLayAll0, Bool.and_eq_true]
    exact ⟨h x (by simp), layAll_emb r (fun y hy => h y (by simp [hy]))⟩
theorem depAll_emb {py : α → PyData} : ∀ (xs : List α), (∀ x ∈ xs, (py x).depth ≤ k) → PyData.depthAll (xs.map py) ≤ k
  | [], _ => by simp [PyData.depthAll]
  | x :: r, h => by
    simp only [List.map_cons, PyData.depthAll]
    have := h x (by simp)
    have := depAll_emb r (fun y hy => h y (by simp [hy]))
    omega
theorem eqvAll_emb {py : α → PyData} (h : ∀ x, P x → ∀ y, P y → PyData.eqv (py x) (py y) = decide (x = y)) : ∀ (xs ys : List α), (∀ x ∈ xs, P x) → (∀ y ∈ ys, P y) → PyData.eqvAll (xs.map py) (ys.map py) = decide (xs = ys)
  | [], [], _, _ => by simp [PyData.eqvAll]
  | [], _ :: _, _, _ => by simp [PyData.eqvAll]
  | _ :: _, [], _, _ => by simp [PyData.eqvAll]
  | x :: r, y :: q, h1, h2 => by
    simp only [List.map_cons, PyData.eqvAll]
    rw [h x (h1 x (by simp)) y (h2 y (by simp)), eqvAll_emb h r q (fun z hz => h1 z (by simp [hz])) (fun z hz => h2 z (by simp [hz]))]
    simp [Bool.decide_and]
theorem emb_tup (h : Emb e P k) : Emb (fun xs : List α => .tup (xs.map e)) (fun xs => ∀ x ∈ xs, P x) (k + 1) := by
  obtain ⟨py, h⟩ := h.ok
  refine ⟨fun xs => .tuple (xs.map py), fun xs hx => ⟨?_, ?_, ?_, fun ys hy => ?_⟩⟩
  · unfold D.py; rw [pyL_emb xs fun x hh => (h x (hx x hh)).1]; rfl
  · simp only [PyData.canLay0]; exact layAll_emb xs fun x hh => (h x (hx x hh)).2.1
  · simp only [PyData.depth]
    have := depAll_emb (k := k) (py := py) xs fun x hh => (h x (hx x hh)).2.2.1
    omega
  · rw [PyData.eqv]; exact eqvAll_emb (P := P) (fun x hx y hy => (h x hx).2.2.2 y hy) xs ys hx hy
theorem emb_lst (h : Emb e P k) : Emb (fun xs : List α => .lst (xs.map e)) (fun xs => ∀ x ∈ xs, P x) (k + 1) := by
  obtain ⟨py, h⟩ := h.ok
  refine ⟨fun xs => .list (xs.map py), fun xs hx => ⟨?_, ?_, ?_, fun ys hy => ?_⟩⟩
  · unfold D.py; rw [pyL_emb xs fun x hh => (h x (hx x hh)).1]; rfl
  · simp only [PyData.canLay0]; exact layAll_emb xs fun x hh => (h x (hx x hh)).2.1
  · simp only [PyData.depth]
    have := depAll_emb (k := k) (py := py) xs fun x hh => (h x (hx x hh)).2.2.1
    omega
  · rw [PyData.eqv]; exact eqvAll_emb (P := P) (fun x hx y hy => (h x hx).2.2.2 y hy) xs ys hx hy
theorem Emb.up (h : Emb e P k) {m : Nat} (hm : k ≤ m) : Emb e P m := by
  obtain ⟨py, h⟩ := h.ok
  exact ⟨py, fun x hx => ⟨(h x hx).1, (h x hx).2.1, Nat.le_trans (h x hx).2.2.1 hm, (h x hx).2.2.2⟩⟩
theorem emb_pair (h : Emb e P k) (hb : Emb eb Pb k) : Emb (fun p : α × β => .tup [e p.1, eb p.2]) (fun p => P p.1 ∧ Pb p.2) (k + 1) := by
  obtain ⟨py, h⟩ := h.ok
  obtain ⟨pb, hb⟩ := hb.ok
  refine ⟨fun p => .tuple [py p.1, pb p.2], fun ⟨x, z⟩ ⟨hx, hz⟩ => ⟨?_, ?_, ?_, fun ⟨x', z'⟩ ⟨hx', hz'⟩ => ?_⟩⟩
  · simp only [D.py, pyL, (h x hx).1, (hb z hz).1]; rfl
  · simp only [PyData.canLay0, PyData.canLayAll0, (h x hx).2.1, (hb z hz).2.1, Bool.and_self]
  · simp only [PyData.depth, PyData.depthAll]
    have := (h x hx).2.2.1
    have := (hb z hz).2.2.1
    omega
  · simp only [PyData.eqv, PyData.eqvAll, (h x hx).2.2.2 x' hx', (hb z hz).2.2.2 z' hz', Prod.mk.injEq, Bool.decide_and, Bool.and_true]
theorem emb_trip (h : Emb e P k) (hb : Emb eb Pb k) (hc : Emb ec Pc k) : Emb (fun p : α × β × γ => .tup [e p.1, eb p.2.1, ec p.2.2]) (fun p => P p.1 ∧ Pb p.2.1 ∧ Pc p.2.2) (k + 1) := by
  obtain ⟨py, h⟩ := h.ok
  obtain ⟨pb, hb⟩ := hb.ok
  obtain ⟨pc, hc⟩ := hc.ok
  refine ⟨fun p => .tuple [py p.1, pb p.2.1, pc p.2.2], fun ⟨x, z, w⟩ ⟨hx, hz, hw⟩ => ⟨?_, ?_, ?_, fun ⟨x', z', w'⟩ ⟨hx', hz', hw'⟩ => ?_⟩⟩
  · simp only [D.py, pyL, (h x hx).1, (hb z hz).1, (hc w hw).1]; rfl
  · simp only [PyData.canLay0, PyData.canLayAll0, (h x hx).2.1, (hb z hz).2.1, (hc w hw).2.1, Bool.and_self]
  · simp only [PyData.depth, PyData.depthAll]
    have := (h x hx).2.2.1
    have := (hb z hz).2.2.1
    have := (hc w hw).2.2.1
    omega
  · simp only [PyData.eqv, PyData.eqvAll, (h x hx).2.2.2 x' hx', (hb z hz).2.2.2 z' hz', (hc w hw).2.2.2 w' hw', Prod.mk.injEq, Bool.decide_and, Bool.and_true]
theorem Emb.eq (h : Emb e P k) (hk : k ≤ 64) {x y : α} (hx : P x) (hy : P y) : eqD (e x) (e y) = some (decide (x = y)) := by
  obtain ⟨py, h⟩ := h.ok
  obtain ⟨a1, a2, a3, a4⟩ := h x hx
  obtain ⟨b1, b2, b3, b4⟩ := h y hy
  unfold eqD
  rw [a1, b1]
  dsimp only
  rw [if_pos, a4 y hy]
  unfold SeqAt.shaped
  rw [a2, b2]
  simp only [Bool.true_and, Bool.and_eq_true, decide_eq_true_eq]
  omega
theorem Emb.inL (h : Emb e P k) (hk : k < 64) {x : α} {ys : List α} (hx : P x) (hy : ∀ y ∈ ys, P y) : inD (e x) (.lst (ys.map e)) = some (decide (x ∈ ys)) ∧ inD (e x) (.tup (ys.map e)) = some (decide (x ∈ ys)) := by
  obtain ⟨py, h⟩ := h.ok
  obtain ⟨a1, a2, a3, a4⟩ := h x hx
  have c1 := pyL_emb ys fun y hh => (h y (hy y hh)).1
  have c2 := layAll_emb (py := py) ys fun y hh => (h y (hy y hh)).2.1
  have c3 := depAll_emb (k := k) (py := py) ys fun y hh => (h y (hy y hh)).2.2.1
  have c4 : (ys.map py).any (fun z => PyData.eqv z (py x)) = decide (x ∈ ys) := by
    rw [List.any_map]
    have : (ys.any fun y => decide (y = x)) = decide (x ∈ ys) := by
      rw [Bool.eq_iff_iff, List.any_eq_true, decide_eq_true_eq]
      exact ⟨fun ⟨y, hy, e⟩ => by rw [← of_decide_eq_true e]; exact hy, fun hx => ⟨x, hx, by simp⟩⟩
    rw [← this]
    have hc : ∀ (l : List α), (∀ y ∈ l, P y) → l.any ((fun z => PyData.eqv z (py x)) ∘ py) = l.any fun y => decide (y = x) := fun l => by
      induction l with
      | nil => intro _; rfl
      | cons y r ih =>
        intro hl
        rw [List.any_cons, List.any_cons, ih fun z hz => hl z (by simp [hz])]
        show (PyData.eqv (py y) (py x) || _) = _
        rw [(h y (hl y (by simp))).2.2.2 x hx]
    exact hc ys hy
  have c5 : ((SeqAt.shaped (py x) && SeqAt.shaped (.list (ys.map py))) = true) ∧ ((SeqAt.shaped (py x) && SeqAt.shaped (.tuple (ys.map py))) = true) := by
    unfold SeqAt.shaped
    simp only [PyData.canLay0, a2, c2, Bool.true_and, Bool.and_eq_true, decide_eq_true_eq]
    simp only [PyData.depth]
    omega
  constructor
  · show (match (e x).py, pyL (ys.map e) with | some p, some qs => if SeqAt.shaped p && SeqAt.shaped (.list qs) then some (qs.any fun z => PyData.eqv z p) else none | _, _ => none) = _
    rw [a1, c1]
    dsimp only
    rw [if_pos c5.1, c4]
  · show (match (e x).py, pyL (ys.map e) with | some p, some qs => if SeqAt.shaped p && SeqAt.shaped (.tuple qs) then some (qs.any fun z => PyData.eqv z p) else none | _, _ => none) = _
    rw [a1, c1]
    dsimp only
    rw [if_pos c5.2, c4]
end
theorem w_eqE {α : Type} [DecidableEq α] {e : α → D} {P : α → Prop} {k : Nat} (h : Emb e P k) (hk : k ≤ 64) {x y : α} (hx : P x) (hy : P y) {s : S} {Q : L → S → Prop} (q : Q (.sh (.bl (decide (x = y)))) s) : wm (gEq (e x) (e y)) s Q := w_eqD (h.eq hk hx hy) q
theorem w_neE {α : Type} [DecidableEq α] {e : α → D} {P : α → Prop} {k : Nat} (h : Emb e P k) (hk : k ≤ 64) {x y : α} (hx : P x) (hy : P y) {s : S} {Q : L → S → Prop} (q : Q (.sh (.bl (!decide (x = y)))) s) : wm (gNe (e x) (e y)) s Q := w_neD (h.eq hk hx hy) q
theorem w_inD {d e : D} {b : Bool} {neg : Bool} (h : inD d e = some b) {s : S} {Q : L → S → Prop} (q : Q (.sh (.bl (if neg then !b else b))) s) : wm (gIn2 neg d e) s Q := by
  refine w_eq (s' := s) (a := .sh (.bl (if neg then !b else b))) ?_ q
  unfold gIn2
  split
  · cases h
  · unfold gIn; rw [h]; rfl
/-! slices -/
theorem w_noP {s : S} {Q : Option Int → S → Prop} (q : Q none s) : wm noP s Q := ⟨q⟩
theorem w_soP {f : M D} {s : S} {Q : Option Int → S → Prop} (h : wm f s fun d s' => ∃ i, d = .int i ∧ Q (some i) s') : wm (soP f) s Q := by
  refine w_bind (wm_mono h fun d s' ⟨i, e, q⟩ => ?_)
  subst e
  exact ⟨q⟩
theorem w_slN {i : Nat} {x : L} {fl fh : M (Option Int)} {s : S} {Q : L → S → Prop} (h0 : s.sl[i]? = some (some x)) (h : wm fl s fun l s1 => wm fh s1 fun h s2 => wm (slN i) s2 fun x s3 => wm (slW x l h) s3 Q) : wm (slNM i fl fh) s Q :=
  w_bind (w_sl h0 (w_bind (wm_mono h fun _ _ h => w_bind (wm_mono h fun _ _ h => w_bind h))))
theorem w_slM {fa : M D} {fl fh : M (Option Int)} {s : S} {Q : L → S → Prop} (h : wm fa s fun d s0 => wm fl s0 fun l s1 => wm fh s1 fun h s2 => wm (slW (.sh d) l h) s2 Q) : wm (slM fa fl fh) s Q :=
  w_bind (wm_mono h fun _ _ h => w_bind (wm_mono h fun _ _ h => w_bind h))
theorem w_slL {l : L} {ds : List D} {lo hi : Option Int} {s : S} {Q : L → S → Prop} (h : l.d = .lst ds) (q : Q (.ol (cutD ds lo hi)) s) : wm (slW l lo hi) s Q := by
  refine w_eq (s' := s) (a := .ol (cutD ds lo hi)) ?_ q
  unfold slW; rw [h]; rfl
theorem w_slT {l : L} {ds : List D} {lo hi : Option Int} {s : S} {Q : L → S → Prop} (h : l.d = .tup ds) (q : Q (.sh (.tup (cutD ds lo hi))) s) : wm (slW l lo hi) s Q := by
  refine w_eq (s' := s) (a := .sh (.tup (cutD ds lo hi))) ?_ q
  unfold slW; rw [h]; rfl
theorem cut_take {ds : List D} {k : Nat} (h : k ≤ ds.length) : cutD ds none (some (k : Int)) = ds.take k := by
  unfold cutD
  rw [HT.sIx_none, HT.sIx_nat, List.drop_zero, Nat.min_eq_left h, Nat.sub_zero]
theorem cut_drop {ds : List D} {k : Nat} (h : k ≤ ds.length) : cutD ds (some (k : Int)) none = ds.drop k := by
  unfold cutD
  rw [HT.sIx_none, HT.sIx_nat, Nat.min_eq_left h, List.take_of_length_le (by simp)]
/-! over a range -/
section
variable {m : Nat} {vs : List Nat} {a : AS} {t : M Bool} {el : M D} {sl sm : List (Option L)} {st : List MO} {Q : L → S → Prop}
theorem w_lcR (p : Nat → Bool) (f : Nat → D) (hw : wipeS ⟨sl, st⟩ vs = ⟨sm, st⟩) (hl : m ≤ lineN)
    (h : ∀ x, x < m → ∃ sd, a (.sh (.int (x : Int))) ⟨sm, st⟩ = some ⟨sd, st⟩ ∧ wipeS ⟨sd, st⟩ vs = ⟨sm, st⟩ ∧ wm t ⟨sd, st⟩ fun b s4 => s4 = ⟨sd, st⟩ ∧ b = p x ∧ (p x = true → wm el ⟨sd, st⟩ fun y s5 => s5 = ⟨sd, st⟩ ∧ y = f x))
    (q : Q (.ol (((List.range m).filter p).map f)) ⟨sl, st⟩) : wm (lcD (rgD 0 m) vs a t el) ⟨sl, st⟩ Q := by
  rw [rgD_map]
  refine w_lcG p f hw (by rw [List.length_range]; exact hl) (fun x hx => ?_) q
  rw [Int.zero_add]
  exact h x (List.mem_range.mp hx)
theorem w_lcR1 (f : Nat → D) (hw : wipeS ⟨sl, st⟩ vs = ⟨sm, st⟩) (hl : m ≤ lineN)
    (h : ∀ x, x < m → ∃ sd, a (.sh (.int (x : Int))) ⟨sm, st⟩ = some ⟨sd, st⟩ ∧ wipeS ⟨sd, st⟩ vs = ⟨sm, st⟩ ∧ wm el ⟨sd, st⟩ fun y s5 => s5 = ⟨sd, st⟩ ∧ y = f x)
    (q : Q (.ol ((List.range m).map f)) ⟨sl, st⟩) : wm (lcD (rgD 0 m) vs a yesM el) ⟨sl, st⟩ Q := by
  rw [rgD_map]
  refine w_lcF f hw (by rw [List.length_range]; exact hl) (fun x hx => ?_) q
  rw [Int.zero_add]
  exact h x (List.mem_range.mp hx)
end
/-! the first place of an equal one -/
theorem Emb.idx {α : Type} [DecidableEq α] {e : α → D} {P : α → Prop} {k : Nat} (h : Emb e P k) (hk : k < 64) {x : α} {ys : List α} (hx : P x) (hy : ∀ y ∈ ys, P y) (hm : x ∈ ys) {s : S} {Q : L → S → Prop} (q : Q (.sh (.int (ys.findIdx fun y => decide (y = x) : Nat))) s) : wm (gIdx (.lst (ys.map e)) (e x)) s Q := by
  obtain ⟨py, h⟩ := h.ok
  obtain ⟨a1, a2, a3, a4⟩ := h x hx
  have c1 := pyL_emb ys fun y hh => (h y (hy y hh)).1
  have c2 := layAll_emb (py := py) ys fun y hh => (h y (hy y hh)).2.1
  have c3 := depAll_emb (k := k) (py := py) ys fun y hh => (h y (hy y hh)).2.2.1
  have c4 : (ys.map py).findIdx? (fun z => PyData.eqv z (py x)) = some (ys.findIdx fun y => decide (y = x)) := by
    rw [List.findIdx?_map]
    have e1 : ∀ (l : List α), (∀ y ∈ l, P y) → l.findIdx? ((fun z => PyData.eqv z (py x)) ∘ py) = l.findIdx? fun y => decide (y = x) := fun l => by
      induction l with
      | nil => intro _; rfl
      | cons y r ih =>
        intro hl
        rw [List.findIdx?_cons, List.findIdx?_cons, ih fun z hz => hl z (by simp [hz])]
        show (if PyData.eqv (py y) (py x) = true then _ else _) = _
        rw [(h y (hl y (by simp))).2.2.2 x hx]
    rw [e1 ys hy]
    exact List.findIdx?_eq_some_of_exists ⟨x, hm, by simp⟩
  refine w_eq (s' := s) (a := .sh (.int (ys.findIdx fun y => decide (y = x) : Nat))) ?_ q
  show (match pyL (ys.map e), (e x).py with
    | some qs, some p => if SeqAt.shaped (.list qs) && SeqAt.shaped p then (match qs.findIdx? fun z => PyData.eqv z p with
      | some j => (pure (.sh (.int (j : Nat))) : M L)
      | none => bad) else bad
    | _, _ => bad) s = _
  rw [c1, a1]
  dsimp only
  rw [if_pos, c4]
  · rfl
  · unfold SeqAt.shaped
    simp only [PyData.canLay0, a2, c2, Bool.true_and, Bool.and_eq_true, decide_eq_true_eq]
    simp only [PyData.depth]
    omega
/-! pigeons -/
theorem nodup_le {α : Type} [DecidableEq α] : ∀ (l : List α) (S : List α), l.Nodup → (∀ x ∈ l, x ∈ S) → l.length ≤ S.length
  | [], _, _, _ => Nat.zero_le _
  | x :: r, S, hn, hs => by
    rw [List.nodup_cons] at hn
    have hx := hs x (by simp)
    have := nodup_le r (S.erase x) hn.2 fun y hy => (List.mem_erase_of_ne (fun e => hn.1 (by rw [← e]; exact hy))).mpr (hs y (by simp [hy]))
    rw [List.length_erase_of_mem hx] at this
    have hp : 0 < S.length := List.length_pos_of_mem hx
    rw [List.length_cons]
    omega
theorem w_absP {i : Int} {s : S} {Q : L → S → Prop} (h : 0 ≤ i) (q : Q (.sh (.int i)) s) : wm (absW (.sh (.int i))) s Q := by
  refine w_eq (s' := s) (a := .sh (.int i)) ?_ q
  show Res.ok (L.sh (.int (if i < 0 then -i else i))) s = _
  rw [if_neg (by omega)]
theorem bls_map {α : Type} (p : α → Bool) (xs : List α) : blsOf (xs.map fun x => D.bl (p x)) = some (xs.map p) := by
  have e : (xs.map fun x => D.bl (p x)) = (xs.map p).map D.bl := by rw [List.map_map]; rfl
  rw [e]; exact blsOf_map _
theorem w_all {α : Type} {l : L} {p : α → Bool} {xs : List α} {s : S} {Q : L → S → Prop} (h : l.d = .lst (xs.map fun x => D.bl (p x))) (q : Q (.sh (.bl (xs.all p))) s) : wm (boolsW (fun bs => List.all bs id) l) s Q := by
  refine w_bools h (bls_map p xs) ?_
  have e : ((xs.map p).all id) = xs.all p := by rw [List.all_map]; rfl
  rw [e]; exact q
theorem w_any {α : Type} {l : L} {p : α → Bool} {xs : List α} {s : S} {Q : L → S → Prop} (h : l.d = .lst (xs.map fun x => D.bl (p x))) (q : Q (.sh (.bl (xs.any p))) s) : wm (boolsW (fun bs => List.any bs id) l) s Q := by
  refine w_bools h (bls_map p xs) ?_
  have e : ((xs.map p).any id) = xs.any p := by rw [List.any_map]; rfl
  rw [e]; exact q
/-! dicts of numbers that are all True -/
def kT (i : Int) : D × D := (.int i, .bl true)
def ddI (l : List Int) : List Int := l.foldl (fun acc x => if x ∈ acc then acc else acc ++ [x]) []
theorem putQ_kT (L : List Int) (x : Int) : putQ (L.map kT) (.inl x) (.int x) (.bl true) = (if x ∈ L then L else L ++ [x]).map kT := by
  have e1 : ∀ y : Int, kyIs (.int y) (.inl x) = decide (y = x) := fun y => by
    show decide (some (Sum.inl y : Key) = some (Sum.inl x)) = _
    by_cases h : y = x
    · simp [h]
    · have : ¬ (some (Sum.inl y : Key) = some (Sum.inl x)) := fun z => h (by cases z; rfl)
      simp [h, this]
  have e2 : ((L.map kT).any fun kv => kyIs kv.1 (.inl x)) = decide (x ∈ L) := by
    rw [List.any_map]
    have : (L.any fun y => decide (y = x)) = decide (x ∈ L) := by
      rw [Bool.eq_iff_iff, List.any_eq_true, decide_eq_true_eq]
      exact ⟨fun ⟨y, hy, e⟩ => by rw [← of_decide_eq_true e]; exact hy, fun hx => ⟨x, hx, by simp⟩⟩
    rw [← this]
    congr 1
    funext y
    exact e1 y
  unfold putQ
  rw [e2]
  by_cases h : x ∈ L
  · rw [if_pos (by simpa using h), if_pos h, List.map_map]
    refine List.map_congr_left fun y _ => ?_
    show (if kyIs (D.int y) (.inl x) = true then (D.int y, D.bl true) else (D.int y, D.bl true)) = _
    split <;> rfl
  · rw [if_neg (by simpa using h), if_neg h, List.map_append]
    rfl
theorem valQ_kT (L : List Int) (x : Int) : (valQ (L.map kT) (.inl x)).isSome = decide (x ∈ L) := by
  unfold valQ
  induction L with
  | nil => rfl
  | cons y r ih =>
    rw [List.map_cons, List.find?_cons]
    by_cases h : y = x
    · have : kyIs (kT y).1 (.inl x) = true := by subst h; show decide (some (Sum.inl y : Key) = some (Sum.inl y)) = true; simp
      rw [this]
      simp [h]
    · have : kyIs (kT y).1 (.inl x) = false := by
        show decide (some (Sum.inl y : Key) = some (Sum.inl x)) = false
        have : ¬ (some (Sum.inl y : Key) = some (Sum.inl x)) := fun z => h (by cases z; rfl)
        simp [this]
      rw [this]
      dsimp only
      rw [ih]
      have h2 : ¬ x = y := fun z => h z.symm
      simp [h2]
theorem plainK_kT (L : List Int) : plainK (L.map kT) = true := by
  unfold plainK
  rw [List.all_map, List.all_eq_true]
  intro x _
  rfl
theorem keysI_kT : ∀ L : List Int, keysI (L.map kT) = some L
  | [] => rfl
  | x :: r => by
    show (match intOf (.int x), keysI (r.map kT) with | some i, some ks => some (i :: ks) | _, _ => none) = _
    rw [keysI_kT r]
    rfl
theorem w_inK {L : List Int} {x : Int} {neg : Bool} {s : S} {Q : Bv.L → S → Prop} (q : Q (.sh (.bl (if neg then !decide (x ∈ L) else decide (x ∈ L)))) s) : wm (gIn2 neg (.int x) (.dic (L.map kT))) s Q := by
  refine w_eq (s' := s) (a := .sh (.bl (if neg then !decide (x ∈ L) else decide (x ∈ L)))) ?_ q
  show gInD neg (.int x) (L.map kT) s = _
  unfold gInD
  show (if plainK (L.map kT) = true then (pure (.sh (.bl (if neg then !(valQ (L.map kT) (.inl x)).isSome else (valQ (L.map kT) (.inl x)).isSome))) : M Bv.L) else bad) s = _
  rw [if_pos (plainK_kT L), valQ_kT]
  rfl
theorem w_sortK {l : L} {L : List Int} {s : S} {Q : Bv.L → S → Prop} (h : l.d = .dic (L.map kT)) (h2 : L.length < 64) (q : Q (.ol ((sortI L).map D.int)) s) : wm (sortW2 l) s Q := by
  refine w_eq (s' := s) (a := .ol ((sortI L).map D.int)) ?_ q
  unfold sortW2
  rw [h]
  dsimp only
  rw [keysI_kT]
  dsimp only
  rw [if_pos h2]
  rfl
def dcD (ds : List D) (vs : List Nat) (a : AS) (t : M Bool) (k e : M D) : M L := dcM (pure ds) vs a t k e
theorem w_dcS {m : M (List D)} {vs : List Nat} {a : AS} {t : M Bool} {k e : M D} {s : S} {Q : L → S → Prop} (h : wm m s fun ds s1 => wm (dcD ds vs a t k e) s1 Q) : wm (dcM m vs a t k e) s Q := by
  obtain ⟨ds, s1, e1, h⟩ := wm_ok h
  have h := h.out
  refine ⟨?_⟩
  unfold dcD at h
  unfold dcM at h ⊢
  rw [e1]
  exact h
theorem ddI_len (l : List Int) : (ddI l).length ≤ l.length := by
  have : ∀ (l acc : List Int), (l.foldl (fun acc x => if x ∈ acc then acc else acc ++ [x]) acc).length ≤ acc.length + l.length := fun l => by
    induction l with
    | nil => intro acc; simp
    | cons x r ih =>
      intro acc
      rw [List.foldl_cons]
      refine Nat.le_trans (ih _) ?_
      split
      · rw [List.length_cons]; omega
      · rw [List.length_append, List.length_singleton, List.length_cons]; omega
  have := this l []
  rw [List.length_nil, Nat.zero_add] at this
  exact this
theorem ddI_mem {l : List Int} {x : Int} : x ∈ ddI l ↔ x ∈ l := by
  have : ∀ (l acc : List Int), x ∈ l.foldl (fun acc x => if x ∈ acc then acc else acc ++ [x]) acc ↔ x ∈ acc ∨ x ∈ l := fun l => by
    induction l with
    | nil => intro acc; simp
    | cons y r ih =>
      intro acc
      rw [List.foldl_cons, ih]
      split
      · rename_i h
        constructor
        · rintro (h1 | h1)
          · exact .inl h1
          · exact .inr (by simp [h1])
        · rintro (h1 | h1)
          · exact .inl h1
          · rcases List.mem_cons.mp h1 with rfl | h1
            · exact .inl h
            · exact .inr h1
      · simp only [List.mem_append, List.mem_singleton, List.mem_cons]
        constructor
        · rintro ((h1 | h1) | h1)
          · exact .inl h1
          · exact .inr (.inl (by simpa using h1))
          · exact .inr (.inr h1)
        · rintro (h1 | h1 | h1)
          · exact .inl (.inl h1)
          · exact .inl (.inr (by simp [h1]))
          · exact .inr h1
  have := this l []
  refine Iff.trans this ⟨fun h => h.resolve_left (fun z => by cases z), .inr⟩
theorem ddI_nodup (l : List Int) : (ddI l).Nodup := by
  have : ∀ (l acc : List Int), acc.Nodup → (l.foldl (fun acc x => if x ∈ acc then acc else acc ++ [x]) acc).Nodup := fun l => by
    induction l with
    | nil => intro acc h; exact h
    | cons y r ih =>
      intro acc h
      rw [List.foldl_cons]
      refine ih _ ?_
      split
      · exact h
      · rename_i hy
        rw [List.nodup_append]
        refine ⟨h, by simp, fun a ha b hb e => ?_⟩
        rw [List.mem_singleton.mp hb] at e
        exact hy (e ▸ ha)
  exact this l [] List.nodup_nil
/-- {number: True for ..} -/
theorem w_dcK {α : Type} {l : List α} {e : α → D} {vs : List Nat} {a : AS} {k el : M D} {sl sm : List (Option L)} {st : List MO} {Q : L → S → Prop} (κ : α → Int) (hw : wipeS ⟨sl, st⟩ vs = ⟨sm, st⟩) (hl : l.length ≤ lineN)
    (h : ∀ x ∈ l, ∃ sd, a (.sh (e x)) ⟨sm, st⟩ = some ⟨sd, st⟩ ∧ wipeS ⟨sd, st⟩ vs = ⟨sm, st⟩ ∧ wm k ⟨sd, st⟩ fun y s5 => s5 = ⟨sd, st⟩ ∧ y = .int (κ x) ∧ wm el ⟨sd, st⟩ fun z s6 => s6 = ⟨sd, st⟩ ∧ z = .bl true)
    (q : Q (.od ((ddI (l.map κ)).map kT)) ⟨sl, st⟩) : wm (dcD (l.map e) vs a yesM k el) ⟨sl, st⟩ Q := by
  unfold dcD
  have key : ∀ (r : List α) (acc : List Int) (s : S), (∀ d ∈ r, d ∈ l) → acc.length + r.length ≤ lineN → wipeS s vs = ⟨sm, st⟩ → ∃ s', dcB vs a yesM k el (r.map e) (acc.map kT) s = .ok (((r.map κ).foldl (fun acc x => if x ∈ acc then acc else acc ++ [x]) acc).map kT) s' ∧ wipeS s' vs = ⟨sm, st⟩ := by
    intro r
    induction r with
    | nil => intro acc s _ _ hs; exact ⟨s, by simp [dcB], hs⟩
    | cons x r ih =>
      intro acc s hm hlen hs
      obtain ⟨sd, h1, h2, h3⟩ := h x (hm x (by simp))
      obtain ⟨y, s5, e5, rfl, rfl, h4⟩ := wm_ok h3
      obtain ⟨z, s6, e6, rfl, rfl⟩ := wm_ok h4
      rw [List.length_cons] at hlen
      rw [List.map_cons]
      unfold dcB
      rw [hs, h1]
      dsimp only
      show ∃ s' : S, (match k ⟨sd, st⟩ with
        | .ok kd s3 => (match el s3 with
          | .ok y s4 => (match keyOf kd with
            | some k' => if (acc.map kT).length < lineN then dcB vs a yesM k el (r.map e) (putQ (acc.map kT) k' kd y) s4 else Res.bad
            | none => Res.bad)
          | _ => Res.bad)
        | _ => Res.bad) = _ ∧ _
      rw [e5]
      dsimp only
      rw [e6]
      dsimp only
      show ∃ s' : S, (if (acc.map kT).length < lineN then dcB vs a yesM k el (r.map e) (putQ (acc.map kT) (.inl (κ x)) (.int (κ x)) (.bl true)) ⟨sd, st⟩ else Res.bad) = _ ∧ _
      rw [if_pos (by rw [List.length_map]; omega), putQ_kT]
      obtain ⟨s', h5, h6⟩ := ih (if κ x ∈ acc then acc else acc ++ [κ x]) ⟨sd, st⟩ (fun x hx => hm x (by simp [hx])) (by split <;> (try rw [List.length_append, List.length_singleton]) <;> omega) h2
      exact ⟨s', by rw [h5, List.map_cons, List.foldl_cons], h6⟩
  obtain ⟨s', h5, h6⟩ := key l [] (wipeS ⟨sl, st⟩ vs) (fun _ h => h) (by simpa using hl) (by rw [hw, ← hw, wipeS_twice, hw])
  refine w_eq (s' := ⟨sl, st⟩) (a := .od ((ddI (l.map κ)).map kT)) ?_ q
  unfold dcM
  show (match dcB vs a yesM k el (l.map e) (([] : List Int).map kT) (wipeS ⟨sl, st⟩ vs) with | .ok ys s2 => (Res.ok (L.od ys) (restS ⟨sl, st⟩ s2 vs) : Res L) | _ => Res.bad) = _
  rw [h5]
  dsimp only
  rw [restS_same (h6.trans hw.symm)]
  rfl
theorem w_isN {d e : D} {b : Bool} {s : S} {Q : L → S → Prop} (h : isD d e = some b) (q : Q (.sh (.bl (!b))) s) : wm (gIs true d e) s Q := by
  refine w_eq (s' := s) (a := .sh (.bl (!b))) ?_ q
  unfold gIs; rw [h]; rfl
theorem w_min2 {i j : Int} {s : S} {Q : L → S → Prop} (q : Q (.sh (.int (if j < i then j else i))) s) : wm (gMin2 [.int i, .int j]) s Q := ⟨q⟩
theorem w_sortD {l : L} {ns : List Int} {s : S} {Q : L → S → Prop} (h : l.d = .lst (ns.map D.int)) (q : Q (.ol ((sortI ns).reverse.map D.int)) s) : wm (sortR l) s Q := by
  refine w_eq (s' := s) (a := .ol ((sortI ns).reverse.map D.int)) ?_ q
  unfold sortR
  rw [h]
  dsimp only
  rw [intsOf_map]
  rfl
end Bv

namespace Kt
open PySem PySem.Spec PyProof.Rows L2 Bv
def top (i : Nat) : Stmt := PySem.Challenge.pw_greenshares_k53_whole_widths_of_bands.main.body.getD i (.Pass ⟨0, 0, 0, 0⟩)
/-! defs by their places -/
abbrev s__law_pen : Stmt := top 21
abbrev s__law_draw : Stmt := top 22
abbrev s__law_pick : Stmt := top 23
abbrev s__law_drawn_road : Stmt := top 25
abbrev s_way_sum : Stmt := top 11
abbrev s_arc_by : Stmt := top 12
abbrev s_common_seconds : Stmt := top 13
abbrev s_can_band : Stmt := top 14
abbrev s_back_width : Stmt := top 15
abbrev s_both_widths : Stmt := top 17
abbrev s__law_is : Stmt := top 24
abbrev s_is_whole : Stmt := top 5
abbrev s_is_number : Stmt := top 6
abbrev s_known_ways : Stmt := top 9
abbrev s_RoadI : Stmt := inClass (top 8) 0
abbrev s__law_made_road : Stmt := top 26
abbrev s__law_is_green : Stmt := top 27
abbrev s__law_arc : Stmt := top 28
abbrev s__law_common : Stmt := top 29
abbrev s__law_width : Stmt := top 30
abbrev s_need_band : Stmt := top 10
abbrev s_widest_back : Stmt := top 16
abbrev s_widest_pair : Stmt := top 18
abbrev s_widest_equal : Stmt := top 19
abbrev s_law : Stmt := top 31
/-! names -/
def n__law_pen : List Str := ["script", "fold", "cell"]
def u__law_pen : List Str := []
def n__law_draw : List Str := ["pen", "many", "cell", "digit", "blend"]
def u__law_draw : List Str := ["digit", "pen"]
def n__law_pick : List Str := ["pen", "some"]
def u__law_pick : List Str := []
def n__law_drawn_road : List Str := ["pen", "most", "cycles", "many", "cycle", "greens", "at", "some", "there", "back"]
def u__law_drawn_road : List Str := ["back", "greens"]
def n_way_sum : List Str := ["road", "signal"]
def u_way_sum : List Str := []
def n_arc_by : List Str := ["road", "signal", "f", "b", "green", "total", "found", "more"]
def u_arc_by : List Str := []
def n_common_seconds : List Str := ["road", "signals", "f", "b", "found", "signal", "own", "second"]
def u_common_seconds : List Str := ["found"]
def n_can_band : List Str := ["road", "f", "b"]
def u_can_band : List Str := []
def n_back_width : List Str := ["road", "f", "low"]
def u_back_width : List Str := ["low"]
def n_both_widths : List Str := ["road", "f"]
def u_both_widths : List Str := []
def n__law_is : List Str := ["told", "due", "at"]
def u__law_is : List Str := []
def n_is_whole : List Str := ["value"]
def u_is_whole : List Str := []
def n_is_number : List Str := ["value"]
def u_is_number : List Str := []
def n_known_ways : List Str := ["what", "ways", "many", "one"]
def u_known_ways : List Str := []
def n_RoadI : List Str := ["self", "cycle", "greens", "there", "back", "green"]
def u_RoadI : List Str := ["self"]
def n__law_made_road : List Str := ["road"]
def u__law_made_road : List Str := []
def n__law_is_green : List Str := ["road", "offsets", "signal", "second"]
def u__law_is_green : List Str := []
def n__law_arc : List Str := ["road", "signal", "f", "b", "ahead", "behind", "found", "later", "offset", "offsets", "some", "at", "more"]
def u__law_arc : List Str := ["found"]
def n__law_common : List Str := ["road", "signals", "f", "b", "found", "signal", "own", "second"]
def u__law_common : List Str := ["found"]
def n__law_width : List Str := ["road", "f", "signals", "b"]
def u__law_width : List Str := []
def n_need_band : List Str := ["road", "what", "number"]
def u_need_band : List Str := []
def n_widest_back : List Str := ["road", "f"]
def u_widest_back : List Str := []
def n_widest_pair : List Str := ["road", "best", "at", "b"]
def u_widest_pair : List Str := ["best"]
def n_widest_equal : List Str := ["road", "width"]
def u_widest_equal : List Str := ["width"]
def n_law : List Str := ["script", "pen", "road", "made", "least", "due", "f", "pairs", "at", "best", "pair", "one", "equal", "by", "there", "back", "cycle", "greens", "ways", "told", "way"]
def u_law : List Str := ["greens"]
def tyL : List Str := ["tuple", "str", "int", "bool", "list"]
def isiL : List (List Str × Bv.Ty × Bool) := [([("tuple" : Str)], Bv.Ty.b "NoneType", false), ([("tuple" : Str)], Bv.Ty.b "bool", false), ([("tuple" : Str)], Bv.Ty.b "int", false), ([("tuple" : Str)], Bv.Ty.b "str", false), ([("tuple" : Str)], Bv.Ty.b "list", false), ([("tuple" : Str)], Bv.Ty.b "tuple", true), ([("tuple" : Str)], Bv.Ty.b "dict", false), ([("str" : Str)], Bv.Ty.b "NoneType", false), ([("str" : Str)], Bv.Ty.b "bool", false), ([("str" : Str)], Bv.Ty.b "int", false), ([("str" : Str)], Bv.Ty.b "str", true), ([("str" : Str)], Bv.Ty.b "list", false), ([("str" : Str)], Bv.Ty.b "tuple", false), ([("str" : Str)], Bv.Ty.b "dict", false), ([("int" : Str)], Bv.Ty.b "NoneType", false), ([("int" : Str)], Bv.Ty.b "bool", true), ([("int" : Str)], Bv.Ty.b "int", true), ([("int" : Str)], Bv.Ty.b "str", false), ([("int" : Str)], Bv.Ty.b "list", false), ([("int" : Str)], Bv.Ty.b "tuple", false), ([("int" : Str)], Bv.Ty.b "dict", false), ([("bool" : Str)], Bv.Ty.b "NoneType", false), ([("bool" : Str)], Bv.Ty.b "bool", true), ([("bool" : Str)], Bv.Ty.b "int", false), ([("bool" : Str)], Bv.Ty.b "str", false), ([("bool" : Str)], Bv.Ty.b "list", false), ([("bool" : Str)], Bv.Ty.b "tuple", false), ([("bool" : Str)], Bv.Ty.b "dict", false), ([("list" : Str), ("tuple" : Str)], Bv.Ty.b "NoneType", false), ([("list" : Str), ("tuple" : Str)], Bv.Ty.b "bool", false), ([("list" : Str), ("tuple" : Str)], Bv.Ty.b "int", false), ([("list" : Str), ("tuple" : Str)], Bv.Ty.b "str", false), ([("list" : Str), ("tuple" : Str)], Bv.Ty.b "list", true), ([("list" : Str), ("tuple" : Str)], Bv.Ty.b "tuple", true), ([("list" : Str), ("tuple" : Str)], Bv.Ty.b "dict", false)]
def fldL : List Str := ["there", "back", "greens", "cycle"]
def gcB : Bool := false
/-! tables and meanings -/
def T__law_pen : Tb := mkT [] [] tyL isiL fldL gcB
def F__law_pen : FnS := defF T__law_pen n__law_pen u__law_pen s__law_pen
def T__law_draw : Tb := mkT [] [] tyL isiL fldL gcB
def F__law_draw : FnS := defF T__law_draw n__law_draw u__law_draw s__law_draw
def T__law_pick : Tb := mkT [("_law_draw", 2, F__law_draw)] [] tyL isiL fldL gcB
def F__law_pick : FnS := defF T__law_pick n__law_pick u__law_pick s__law_pick
def T__law_drawn_road : Tb := mkT [("_law_pick", 2, F__law_pick), ("_law_draw", 2, F__law_draw)] [] tyL isiL fldL gcB
def F__law_drawn_road : FnS := defF T__law_drawn_road n__law_drawn_road u__law_drawn_road s__law_drawn_road
def T_way_sum : Tb := mkT [] [] tyL isiL fldL gcB
def F_way_sum : FnS := defF T_way_sum n_way_sum u_way_sum s_way_sum
def T_arc_by : Tb := mkT [("way_sum", 2, F_way_sum)] [] tyL isiL fldL gcB
def F_arc_by : FnS := defF T_arc_by n_arc_by u_arc_by s_arc_by
def T_common_seconds : Tb := mkT [("arc_by", 4, F_arc_by)] [] tyL isiL fldL gcB
def F_common_seconds : FnS := defF T_common_seconds n_common_seconds u_common_seconds s_common_seconds
def T_can_band : Tb := mkT [("common_seconds", 4, F_common_seconds)] [] tyL isiL fldL gcB
def F_can_band : FnS := defF T_can_band n_can_band u_can_band s_can_band
def T_back_width : Tb := mkT [("can_band", 3, F_can_band)] [] tyL isiL fldL gcB
def F_back_width : FnS := defF T_back_width n_back_width u_back_width s_back_width
def T_both_widths : Tb := mkT [("back_width", 2, F_back_width)] [] tyL isiL fldL gcB
def F_both_widths : FnS := defF T_both_widths n_both_widths u_both_widths s_both_widths
def F__law_is0 : FnS := fun _ => bad
def F__law_iss : Nat → FnS
  | 0 => F__law_is0
  | j + 1 => defF (mkT [("_law_is", 2, F__law_iss j)] [] tyL isiL fldL gcB) n__law_is u__law_is s__law_is
abbrev F__law_is : FnS := F__law_iss 3
def T_is_whole : Tb := mkT [] [] tyL isiL fldL gcB
def F_is_whole : FnS := defF T_is_whole n_is_whole u_is_whole s_is_whole
def T_is_number : Tb := mkT [("is_whole", 1, F_is_whole)] [] tyL isiL fldL gcB
def F_is_number : FnS := defF T_is_number n_is_number u_is_number s_is_number
def T_known_ways : Tb := mkT [("is_number", 1, F_is_number)] [] tyL isiL fldL gcB
def F_known_ways : FnS := defF T_known_ways n_known_ways u_known_ways s_known_ways
def T_RoadI : Tb := mkT [("known_ways", 3, F_known_ways), ("is_whole", 1, F_is_whole)] [] tyL isiL fldL gcB
def F_RoadI : FnI := defI T_RoadI n_RoadI u_RoadI "Road" s_RoadI
def T__law_made_road : Tb := mkT [] [("Road", 4, F_RoadI)] tyL isiL fldL gcB
def F__law_made_road : FnS := defF T__law_made_road n__law_made_road u__law_made_road s__law_made_road
def T__law_is_green : Tb := mkT [] [] tyL isiL fldL gcB
def F__law_is_green : FnS := defF T__law_is_green n__law_is_green u__law_is_green s__law_is_green
def T__law_arc : Tb := mkT [("_law_is_green", 4, F__law_is_green)] [] tyL isiL fldL gcB
def F__law_arc : FnS := defF T__law_arc n__law_arc u__law_arc s__law_arc
def T__law_common : Tb := mkT [("_law_arc", 4, F__law_arc)] [] tyL isiL fldL gcB
def F__law_common : FnS := defF T__law_common n__law_common u__law_common s__law_common
def T__law_width : Tb := mkT [("_law_common", 4, F__law_common)] [] tyL isiL fldL gcB
def F__law_width : FnS := defF T__law_width n__law_width u__law_width s__law_width
def T_need_band : Tb := mkT [("is_whole", 1, F_is_whole)] [] tyL isiL fldL gcB
def F_need_band : FnS := defF T_need_band n_need_band u_need_band s_need_band
def T_widest_back : Tb := mkT [("need_band", 3, F_need_band), ("back_width", 2, F_back_width)] [] tyL isiL fldL gcB
def F_widest_back : FnS := defF T_widest_back n_widest_back u_widest_back s_widest_back
def T_widest_pair : Tb := mkT [("both_widths", 1, F_both_widths)] [] tyL isiL fldL gcB
def F_widest_pair : FnS := defF T_widest_pair n_widest_pair u_widest_pair s_widest_pair
def T_widest_equal : Tb := mkT [("can_band", 3, F_can_band)] [] tyL isiL fldL gcB
def F_widest_equal : FnS := defF T_widest_equal n_widest_equal u_widest_equal s_widest_equal
def T_law : Tb := mkT [("_law_pen", 1, F__law_pen), ("_law_drawn_road", 3, F__law_drawn_road), ("both_widths", 1, F_both_widths), ("_law_is", 2, F__law_is), ("_law_made_road", 1, F__law_made_road), ("_law_width", 2, F__law_width), ("_law_draw", 2, F__law_draw), ("widest_back", 2, F_widest_back), ("widest_pair", 1, F_widest_pair), ("widest_equal", 1, F_widest_equal)] [("Road", 4, F_RoadI)] tyL isiL fldL gcB
def F_law : FnS := defF T_law n_law u_law s_law
/-! scopes -/
theorem sc__law_pen : FnScope n__law_pen ["script"] (defScope s__law_pen) := ⟨rfl, rfl, rfl, by decide +kernel, rfl, by decide +kernel, by decide +kernel⟩
theorem nm__law_pen : ∀ x ∈ n__law_pen, (x == ("__debug__" : Str)) = false ∧ (x == ("__classdict__" : Str)) = false := by decide +kernel
theorem sc__law_draw : FnScope n__law_draw ["pen", "many"] (defScope s__law_draw) := ⟨rfl, rfl, rfl, by decide +kernel, rfl, by decide +kernel, by decide +kernel⟩
theorem nm__law_draw : ∀ x ∈ n__law_draw, (x == ("__debug__" : Str)) = false ∧ (x == ("__classdict__" : Str)) = false := by decide +kernel
theorem sc__law_pick : FnScope n__law_pick ["pen", "some"] (defScope s__law_pick) := ⟨rfl, rfl, rfl, by decide +kernel, rfl, by decide +kernel, by decide +kernel⟩
theorem nm__law_pick : ∀ x ∈ n__law_pick, (x == ("__debug__" : Str)) = false ∧ (x == ("__classdict__" : Str)) = false := by decide +kernel
theorem sc__law_drawn_road : FnScope n__law_drawn_road ["pen", "most", "cycles"] (defScope s__law_drawn_road) := ⟨rfl, rfl, rfl, by decide +kernel, rfl, by decide +kernel, by decide +kernel⟩
theorem nm__law_drawn_road : ∀ x ∈ n__law_drawn_road, (x == ("__debug__" : Str)) = false ∧ (x == ("__classdict__" : Str)) = false := by decide +kernel
theorem sc_way_sum : FnScope n_way_sum ["road", "signal"] (defScope s_way_sum) := ⟨rfl, rfl, rfl, by decide +kernel, rfl, by decide +kernel, by decide +kernel⟩
theorem nm_way_sum : ∀ x ∈ n_way_sum, (x == ("__debug__" : Str)) = false ∧ (x == ("__classdict__" : Str)) = false := by decide +kernel
theorem sc_arc_by : FnScope n_arc_by ["road", "signal", "f", "b"] (defScope s_arc_by) := ⟨rfl, rfl, rfl, by decide +kernel, rfl, by decide +kernel, by decide +kernel⟩
theorem nm_arc_by : ∀ x ∈ n_arc_by, (x == ("__debug__" : Str)) = false ∧ (x == ("__classdict__" : Str)) = false := by decide +kernel
theorem sc_common_seconds : FnScope n_common_seconds ["road", "signals", "f", "b"] (defScope s_common_seconds) := ⟨rfl, rfl, rfl, by decide +kernel, rfl, by decide +kernel, by decide +kernel⟩
theorem nm_common_seconds : ∀ x ∈ n_common_seconds, (x == ("__debug__" : Str)) = false ∧ (x == ("__classdict__" : Str)) = false := by decide +kernel
theorem sc_can_band : FnScope n_can_band ["road", "f", "b"] (defScope s_can_band) := ⟨rfl, rfl, rfl, by decide +kernel, rfl, by decide +kernel, by decide +kernel⟩
theorem nm_can_band : ∀ x ∈ n_can_band, (x == ("__debug__" : Str)) = false ∧ (x == ("__classdict__" : Str)) = false := by decide +kernel
theorem sc_back_width : FnScope n_back_width ["road", "f"] (defScope s_back_width) := ⟨rfl, rfl, rfl, by decide +kernel, rfl, by decide +kernel, by decide +kernel⟩
theorem nm_back_width : ∀ x ∈ n_back_width, (x == ("__debug__" : Str)) = false ∧ (x == ("__classdict__" : Str)) = false := by decide +kernel
theorem sc_both_widths : FnScope n_both_widths ["road"] (defScope s_both_widths) := ⟨rfl, rfl, rfl, by decide +kernel, rfl, by decide +kernel, by decide +kernel⟩
theorem nm_both_widths : ∀ x ∈ n_both_widths, (x == ("__debug__" : Str)) = false ∧ (x == ("__classdict__" : Str)) = false := by decide +kernel
theorem sc__law_is : FnScope n__law_is ["told", "due"] (defScope s__law_is) := ⟨rfl, rfl, rfl, by decide +kernel, rfl, by decide +kernel, by decide +kernel⟩
theorem nm__law_is : ∀ x ∈ n__law_is, (x == ("__debug__" : Str)) = false ∧ (x == ("__classdict__" : Str)) = false := by decide +kernel
theorem sc_is_whole : FnScope n_is_whole ["value"] (defScope s_is_whole) := ⟨rfl, rfl, rfl, by decide +kernel, rfl, by decide +kernel, by decide +kernel⟩
theorem nm_is_whole : ∀ x ∈ n_is_whole, (x == ("__debug__" : Str)) = false ∧ (x == ("__classdict__" : Str)) = false := by decide +kernel
theorem sc_is_number : FnScope n_is_number ["value"] (defScope s_is_number) := ⟨rfl, rfl, rfl, by decide +kernel, rfl, by decide +kernel, by decide +kernel⟩
theorem nm_is_number : ∀ x ∈ n_is_number, (x == ("__debug__" : Str)) = false ∧ (x == ("__classdict__" : Str)) = false := by decide +kernel
theorem sc_known_ways : FnScope n_known_ways ["what", "ways", "many"] (defScope s_known_ways) := ⟨rfl, rfl, rfl, by decide +kernel, rfl, by decide +kernel, by decide +kernel⟩
theorem nm_known_ways : ∀ x ∈ n_known_ways, (x == ("__debug__" : Str)) = false ∧ (x == ("__classdict__" : Str)) = false := by decide +kernel
theorem sc_RoadI : FnScope n_RoadI ["self", "cycle", "greens", "there", "back"] (defScope s_RoadI) := ⟨rfl, rfl, rfl, by decide +kernel, rfl, by decide +kernel, by decide +kernel⟩
theorem nm_RoadI : ∀ x ∈ n_RoadI, (x == ("__debug__" : Str)) = false ∧ (x == ("__classdict__" : Str)) = false := by decide +kernel
theorem sc__law_made_road : FnScope n__law_made_road ["road"] (defScope s__law_made_road) := ⟨rfl, rfl, rfl, by decide +kernel, rfl, by decide +kernel, by decide +kernel⟩
theorem nm__law_made_road : ∀ x ∈ n__law_made_road, (x == ("__debug__" : Str)) = false ∧ (x == ("__classdict__" : Str)) = false := by decide +kernel
theorem sc__law_is_green : FnScope n__law_is_green ["road", "offsets", "signal", "second"] (defScope s__law_is_green) := ⟨rfl, rfl, rfl, by decide +kernel, rfl, by decide +kernel, by decide +kernel⟩
theorem nm__law_is_green : ∀ x ∈ n__law_is_green, (x == ("__debug__" : Str)) = false ∧ (x == ("__classdict__" : Str)) = false := by decide +kernel
theorem sc__law_arc : FnScope n__law_arc ["road", "signal", "f", "b"] (defScope s__law_arc) := ⟨rfl, rfl, rfl, by decide +kernel, rfl, by decide +kernel, by decide +kernel⟩
theorem nm__law_arc : ∀ x ∈ n__law_arc, (x == ("__debug__" : Str)) = false ∧ (x == ("__classdict__" : Str)) = false := by decide +kernel
theorem sc__law_common : FnScope n__law_common ["road", "signals", "f", "b"] (defScope s__law_common) := ⟨rfl, rfl, rfl, by decide +kernel, rfl, by decide +kernel, by decide +kernel⟩
theorem nm__law_common : ∀ x ∈ n__law_common, (x == ("__debug__" : Str)) = false ∧ (x == ("__classdict__" : Str)) = false := by decide +kernel
theorem sc__law_width : FnScope n__law_width ["road", "f"] (defScope s__law_width) := ⟨rfl, rfl, rfl, by decide +kernel, rfl, by decide +kernel, by decide +kernel⟩
theorem nm__law_width : ∀ x ∈ n__law_width, (x == ("__debug__" : Str)) = false ∧ (x == ("__classdict__" : Str)) = false := by decide +kernel
theorem sc_need_band : FnScope n_need_band ["road", "what", "number"] (defScope s_need_band) := ⟨rfl, rfl, rfl, by decide +kernel, rfl, by decide +kernel, by decide +kernel⟩
theorem nm_need_band : ∀ x ∈ n_need_band, (x == ("__debug__" : Str)) = false ∧ (x == ("__classdict__" : Str)) = false := by decide +kernel
theorem sc_widest_back : FnScope n_widest_back ["road", "f"] (defScope s_widest_back) := ⟨rfl, rfl, rfl, by decide +kernel, rfl, by decide +kernel, by decide +kernel⟩
theorem nm_widest_back : ∀ x ∈ n_widest_back, (x == ("__debug__" : Str)) = false ∧ (x == ("__classdict__" : Str)) = false := by decide +kernel
theorem sc_widest_pair : FnScope n_widest_pair ["road"] (defScope s_widest_pair) := ⟨rfl, rfl, rfl, by decide +kernel, rfl, by decide +kernel, by decide +kernel⟩
theorem nm_widest_pair : ∀ x ∈ n_widest_pair, (x == ("__debug__" : Str)) = false ∧ (x == ("__classdict__" : Str)) = false := by decide +kernel
theorem sc_widest_equal : FnScope n_widest_equal ["road"] (defScope s_widest_equal) := ⟨rfl, rfl, rfl, by decide +kernel, rfl, by decide +kernel, by decide +kernel⟩
theorem nm_widest_equal : ∀ x ∈ n_widest_equal, (x == ("__debug__" : Str)) = false ∧ (x == ("__classdict__" : Str)) = false := by decide +kernel
theorem sc_law : FnScope n_law ["script"] (defScope s_law) := ⟨rfl, rfl, rfl, by decide +kernel, rfl, by decide +kernel, by decide +kernel⟩
theorem nm_law : ∀ x ∈ n_law, (x == ("__debug__" : Str)) = false ∧ (x == ("__classdict__" : Str)) = false := by decide +kernel
end Kt

namespace Kt
open PySem PySem.Spec PyProof.Rows L2 Bv
def m__law_pen : MS :=
  seqS (agS (sM (dM (sM (pure (D.int 0))))) (asN 1))
  (seqS (forS (itM (escN 0)) (asN 2) (seqS (agS (sM (dM (bin2 (dM (thM (bin2 (dM (bin2 (escN 1) (pure (D.int 47)) gMul)) (escN 2) gAdd) intW)) (pure (D.int 1000000007)) gMod))) (asN 1)) nilS))
    (seqS
      (rtS
        (ddM [Str.ofString "cells", Str.ofString "at", Str.ofString "digits", Str.ofString "count", Str.ofString "fold"]
          (consM (dM (thM (slN 0) lstW)) (consM (pure (D.int 0)) (consM (pure (D.int 0)) (consM (pure (D.int 0)) (consM (escN 1) nilM)))))))
      nilS))
theorem e__law_pen : bodyS T__law_pen (defCt n__law_pen u__law_pen s__law_pen) (defBody s__law_pen) = m__law_pen := by kernel_rfl
theorem r__law_pen : F__law_pen = runF n__law_pen m__law_pen := congrArg (runF n__law_pen) e__law_pen
def m__law_draw : MS :=
  seqS (dpS 0 (Str.ofString "count") (dM (bin2 (dM (dgN 0 (Str.ofString "count"))) (pure (D.int 1)) gAdd)))
  (seqS
    (ifS (andT (cmpT (dM (dgN 0 (Str.ofString "digits"))) (pure (D.int 0)) gEq) (cmpT (dM (dgN 0 (Str.ofString "at"))) (dM (thM (dgN 0 (Str.ofString "cells")) lenW)) gLt))
      (seqS (agS (sM (dM (ixM (dM (dgN 0 (Str.ofString "cells"))) (dM (dgN 0 (Str.ofString "at")))))) (asN 2))
        (seqS (dpS 0 (Str.ofString "at") (dM (bin2 (dM (dgN 0 (Str.ofString "at"))) (pure (D.int 1)) gAdd)))
          (seqS
            (ifS (cmpT (escN 2) (dM (bin2 (pure (D.int 10)) (pure (D.int 18)) gPow)) gGe)
              (seqS (dpS 0 (Str.ofString "digits") (dM (bin2 (escN 2) (dM (bin2 (pure (D.int 10)) (pure (D.int 18)) gPow)) Bv.gSub))) nilS)
              (seqS (dpS 0 (Str.ofString "fold") (dM (bin2 (dM (thM (bin2 (dM (bin2 (dM (dgN 0 (Str.ofString "fold"))) (pure (D.int 69069)) gMul)) (escN 2) gAdd) intW)) (pure (D.int 2147483587)) gMod)))
                nilS))
            nilS)))
      nilS)
    (seqS
      (ifS (cmpT (dM (dgN 0 (Str.ofString "digits"))) (pure (D.int 0)) gGt)
        (seqS (agS (bin2 (dM (thM (dgN 0 (Str.ofString "digits")) intW)) (escN 1) gMod) (asN 3))
          (seqS (dpS 0 (Str.ofString "digits") (dM (bin2 (dM (dgN 0 (Str.ofString "digits"))) (escN 1) gFdv))) (seqS (rtS (mvN 3)) nilS)))
        nilS)
      (seqS
        (agS
          (sM
            (dM
              (bin2
                (dM
                  (thM
                    (bin2 (dM (bin2 (dM (bin2 (dM (dgN 0 (Str.ofString "fold"))) (pure (D.int 48271)) gMul)) (dM (bin2 (dM (dgN 0 (Str.ofString "count"))) (pure (D.int 7919)) gMul)) gAdd)) (pure (D.int 13))
                      gAdd)
                    intW))
                (pure (D.int 2147483647)) gMod)))
          (asN 4))
        (seqS
          (agS
            (sM
              (dM
                (bin2 (dM (thM (bin2 (dM (bin2 (dM (bin2 (escN 4) (escN 4) gMul)) (dM (bin2 (pure (D.int 31)) (escN 4) gMul)) gAdd)) (dM (dgN 0 (Str.ofString "count"))) gAdd) intW)) (pure (D.int 2147483629))
                  gMod)))
            (asN 4))
          (seqS (dpS 0 (Str.ofString "fold") (dM (bin2 (dM (thM (bin2 (dM (bin2 (escN 4) (pure (D.int 16807)) gMul)) (pure (D.int 7)) gAdd) intW)) (pure (D.int 2147483647)) gMod)))
            (seqS (rtS (bin2 (dM (thM (bin2 (escN 4) (pure (D.int 64)) gFdv) intW)) (escN 1) gMod)) nilS))))))
theorem e__law_draw : bodyS T__law_draw (defCt n__law_draw u__law_draw s__law_draw) (defBody s__law_draw) = m__law_draw := by kernel_rfl
theorem r__law_draw : F__law_draw = runF n__law_draw m__law_draw := congrArg (runF n__law_draw) e__law_draw
def m__law_pick : MS :=
  seqS (rtS (ixNM 1 (dM (fnM (consM (escN 0) (consM (dM (thM (slN 1) lenW)) nilM)) (callN 2 F__law_draw))))) nilS
theorem e__law_pick : bodyS T__law_pick (defCt n__law_pick u__law_pick s__law_pick) (defBody s__law_pick) = m__law_pick := by kernel_rfl
theorem r__law_pick : F__law_pick = runF n__law_pick m__law_pick := congrArg (runF n__law_pick) e__law_pick
def m__law_drawn_road : MS :=
  seqS
  (agS (fnM (consM (dM (bin2 (pure (D.int 1)) (dM (fnM (consM (escN 0) (consM (escN 1) nilM)) (callN 2 F__law_draw))) gAdd)) (consM (dM (fnM (consM (escN 0) (consM (escN 2) nilM)) (callN 2 F__law_pick))) nilM)) Bv.gTup)
    (asT [asN 3, asN 4]))
  (seqS (agS (fnM nilM Bv.gLst) (asN 5))
    (seqS
      (forS (rgM (consM (escN 3) nilM) rg1W) (asN 6)
        (seqS
          (agS
            (sM
              (dM
                (fnM
                  (consM (dM (bin2 (pure (D.int 1)) (dM (fnM (consM (escN 0) (consM (escN 4) nilM)) (callN 2 F__law_draw))) gAdd))
                    (consM (dM (fnM (consM (pure (D.int 1)) (consM (dM (bin2 (escN 4) (pure (D.int 2)) gFdv)) nilM)) gMax2))
                      (consM (dM (fnM (consM (pure (D.int 1)) (consM (dM (bin2 (escN 4) (pure (D.int 1)) Bv.gSub)) nilM)) gMax2)) (consM (escN 4) nilM))))
                  Bv.gLst)))
            (asN 7))
          (seqS (exS (appM 5 (dM (fnM (consM (escN 0) (consM (escN 7) nilM)) (callN 2 F__law_pick))))) nilS)))
      (seqS
        (par2 8 9
          (sM (dM (lcM (rgM (consM (dM (bin2 (escN 3) (pure (D.int 1)) Bv.gSub)) nilM) rg1W) [6] (asN 6) yesM (dM (fnM (consM (escN 0) (consM (dM (bin2 (pure (D.int 2)) (escN 4) gMul)) nilM)) (callN 2 F__law_draw))))))
          (fnM nilM Bv.gLst))
        (seqS
          (forS (rgM (consM (dM (bin2 (escN 3) (pure (D.int 1)) Bv.gSub)) nilM) rg1W) (asN 6)
            (seqS
              (exS
                (appM 9
                  (dM
                    (fnM
                      (consM (escN 0) (consM (dM (fnM (consM (dM (ixNM 8 (escN 6))) (consM (dM (fnM (consM (escN 0) (consM (dM (bin2 (pure (D.int 2)) (escN 4) gMul)) nilM)) (callN 2 F__law_draw))) nilM)) Bv.gLst)) nilM))
                      (callN 2 F__law_pick)))))
              nilS))
          (seqS (rtS (fnM (consM (escN 4) (consM (dM (thM (slN 5) tupW)) (consM (dM (thM (slN 8) tupW)) (consM (dM (thM (slN 9) tupW)) nilM)))) Bv.gTup)) nilS)))))
theorem e__law_drawn_road : bodyS T__law_drawn_road (defCt n__law_drawn_road u__law_drawn_road s__law_drawn_road) (defBody s__law_drawn_road) = m__law_drawn_road := by kernel_rfl
theorem r__law_drawn_road : F__law_drawn_road = runF n__law_drawn_road m__law_drawn_road := congrArg (runF n__law_drawn_road) e__law_drawn_road
def m_way_sum : MS :=
  seqS (rtS (bin2 (dM (thM (slM (dM (thM (slN 0) (fldW (Str.ofString "there")))) noP (soP (escN 1))) sumW2)) (dM (thM (slM (dM (thM (slN 0) (fldW (Str.ofString "back")))) noP (soP (escN 1))) sumW2)) gAdd)) nilS
theorem e_way_sum : bodyS T_way_sum (defCt n_way_sum u_way_sum s_way_sum) (defBody s_way_sum) = m_way_sum := by kernel_rfl
theorem r_way_sum : F_way_sum = runF n_way_sum m_way_sum := congrArg (runF n_way_sum) e_way_sum
def m_arc_by : MS :=
  seqS (agS (sM (dM (ixM (dM (thM (slN 0) (fldW (Str.ofString "greens")))) (escN 1)))) (asN 4))
  (seqS (ifS (cmpT (escN 4) (dM (thM (slN 0) (fldW (Str.ofString "cycle")))) gEq) (seqS (rtS (rgOf (dM (thM (slN 0) (fldW (Str.ofString "cycle")))) fun ds => L.sh (D.tup ds))) nilS) nilS)
    (seqS (ifS (orT (cmpT (escN 4) (escN 2) gLt) (cmpT (escN 4) (escN 3) gLt)) (seqS (rtS (fnM nilM Bv.gTup)) nilS) nilS)
      (seqS (agS (sM (dM (fnM (consM (escN 0) (consM (escN 1) nilM)) (callN 2 F_way_sum)))) (asN 5))
        (seqS
          (agS
            (sM
              (dM
                (dcM (rgM (consM (dM (bin2 (escN 2) (escN 4) Bv.gSub)) (consM (dM (bin2 (dM (bin2 (escN 4) (escN 3) Bv.gSub)) (pure (D.int 1)) gAdd)) nilM)) rg2W) [7] (asN 7) yesM
                  (dM (bin2 (dM (bin2 (escN 5) (escN 7) gAdd)) (dM (thM (slN 0) (fldW (Str.ofString "cycle")))) gMod)) (pure (D.bl true)))))
            (asN 6))
          (seqS (rtS (thM (thM (slN 6) sortW2) tupW)) nilS)))))
theorem e_arc_by : bodyS T_arc_by (defCt n_arc_by u_arc_by s_arc_by) (defBody s_arc_by) = m_arc_by := by kernel_rfl
theorem r_arc_by : F_arc_by = runF n_arc_by m_arc_by := congrArg (runF n_arc_by) e_arc_by
def m_common_seconds : MS :=
  seqS (agS (rgOf (dM (thM (slN 0) (fldW (Str.ofString "cycle")))) L.ol) (asN 4))
  (seqS
    (forS (itM (escN 1)) (asN 5)
      (seqS (agS (sM (dM (dcM (itM (dM (fnM (consM (escN 0) (consM (escN 5) (consM (escN 2) (consM (escN 3) nilM)))) (callN 4 F_arc_by)))) [7] (asN 7) yesM (escN 7) (pure (D.bl true))))) (asN 6))
        (seqS (agS (lcM (itM (escN 4)) [7] (asN 7) (cmpT (escN 7) (escN 6) (gIn2 false)) (escN 7)) (asN 4)) nilS)))
    (seqS (rtS (mvN 4)) nilS))
theorem e_common_seconds : bodyS T_common_seconds (defCt n_common_seconds u_common_seconds s_common_seconds) (defBody s_common_seconds) = m_common_seconds := by kernel_rfl
theorem r_common_seconds : F_common_seconds = runF n_common_seconds m_common_seconds := congrArg (runF n_common_seconds) e_common_seconds
def m_can_band : MS :=
  seqS
  (rtS
    (bin2 (dM (thM (fnM (consM (escN 0) (consM (dM (rgOf (dM (thM (thM (slN 0) (fldW (Str.ofString "greens"))) lenW)) L.ol)) (consM (escN 1) (consM (escN 2) nilM)))) (callN 4 F_common_seconds)) lenW))
      (pure (D.int 0)) gGt))
  nilS
theorem e_can_band : bodyS T_can_band (defCt n_can_band u_can_band s_can_band) (defBody s_can_band) = m_can_band := by kernel_rfl
theorem r_can_band : F_can_band = runF n_can_band m_can_band := congrArg (runF n_can_band) e_can_band
def m_back_width : MS :=
  seqS (agS (sM (pure (D.int 0))) (asN 2))
  (seqS
    (whB (andT (cmpT (escN 2) (dM (thM (slN 0) (fldW (Str.ofString "cycle")))) gLt) (truT (fnM (consM (escN 0) (consM (escN 1) (consM (dM (bin2 (escN 2) (pure (D.int 1)) gAdd)) nilM))) (callN 3 F_can_band))))
      (seqS (agS (bin2 (escN 2) (pure (D.int 1)) gAdd) (asN 2)) nilS) 1000000)
    (seqS (rtS (mvN 2)) nilS))
theorem e_back_width : bodyS T_back_width (defCt n_back_width u_back_width s_back_width) (defBody s_back_width) = m_back_width := by kernel_rfl
theorem r_back_width : F_back_width = runF n_back_width m_back_width := congrArg (runF n_back_width) e_back_width
def m_both_widths : MS :=
  seqS
  (rtS
    (thM
      (lcM (rgM (consM (pure (D.int 1)) (consM (dM (bin2 (dM (thM (thM (slN 0) (fldW (Str.ofString "greens"))) (bestW2 minI))) (pure (D.int 1)) gAdd)) nilM)) rg2W) [1] (asN 1) yesM
        (dM (fnM (consM (escN 0) (consM (escN 1) nilM)) (callN 2 F_back_width))))
      tupW))
  nilS
theorem e_both_widths : bodyS T_both_widths (defCt n_both_widths u_both_widths s_both_widths) (defBody s_both_widths) = m_both_widths := by kernel_rfl
theorem r_both_widths : F_both_widths = runF n_both_widths m_both_widths := congrArg (runF n_both_widths) e_both_widths
def m_is_whole : MS :=
  seqS (rtS (Bv.andM (dM (thM (slN 0) (isiW (isiT isiL [Str.ofString "int"])))) (Bv.notM (dM (thM (slN 0) (isiW (isiT isiL [Str.ofString "bool"]))))))) nilS
theorem e_is_whole : bodyS T_is_whole (defCt n_is_whole u_is_whole s_is_whole) (defBody s_is_whole) = m_is_whole := by kernel_rfl
theorem r_is_whole : F_is_whole = runF n_is_whole m_is_whole := congrArg (runF n_is_whole) e_is_whole
def m_is_number : MS :=
  seqS (rtS (Bv.andM (dM (fnM (consM (escN 0) nilM) (callN 1 F_is_whole))) (bin2 (escN 0) (pure (D.int 0)) gGe))) nilS
theorem e_is_number : bodyS T_is_number (defCt n_is_number u_is_number s_is_number) (defBody s_is_number) = m_is_number := by kernel_rfl
theorem r_is_number : F_is_number = runF n_is_number m_is_number := congrArg (runF n_is_number) e_is_number
def m_known_ways : MS :=
  seqS
  (ifS
    (orT (notT (truT (thM (slN 1) (isiW (isiT isiL [Str.ofString "list", Str.ofString "tuple"])))))
      (orT (cmpT (dM (thM (slN 1) lenW)) (escN 2) gNe) (notT (truT (thM (lcM (itM (escN 1)) [3] (asN 3) yesM (dM (fnM (consM (escN 3) nilM) (callN 1 F_is_number)))) (boolsW fun bs => List.all bs id))))))
    (seqS badS nilS) nilS)
  (seqS (rtS (thM (slN 1) tupW)) nilS)
theorem e_known_ways : bodyS T_known_ways (defCt n_known_ways u_known_ways s_known_ways) (defBody s_known_ways) = m_known_ways := by kernel_rfl
theorem r_known_ways : F_known_ways = runF n_known_ways m_known_ways := congrArg (runF n_known_ways) e_known_ways
def m_RoadI : MS :=
  seqS (ifS (orT (notT (truT (fnM (consM (escN 1) nilM) (callN 1 F_is_whole)))) (notT (blT (chM (pure (D.int 2)) (escN 1) (pure (D.int 240)) gLe gLe)))) (seqS badS nilS) nilS)
  (seqS
    (ifS (orT (notT (truT (thM (slN 2) (isiW (isiT isiL [Str.ofString "list", Str.ofString "tuple"]))))) (notT (blT (chM (pure (D.int 1)) (dM (thM (slN 2) lenW)) (pure (D.int 8)) gLe gLe)))) (seqS badS nilS)
      nilS)
    (seqS
      (ifS (notT (truT (thM (lcM (itM (escN 2)) [5] (asN 5) yesM (dM (Bv.andM (dM (fnM (consM (escN 5) nilM) (callN 1 F_is_whole))) (chM (pure (D.int 1)) (escN 5) (escN 1) gLe gLe)))) (boolsW fun bs => List.all bs id))))
        (seqS badS nilS) nilS)
      (seqS (stS 0 (Str.ofString "cycle") (escN 1))
        (seqS (stS 0 (Str.ofString "greens") (dM (thM (slN 2) tupW)))
          (seqS
            (stS 0 (Str.ofString "there")
              (dM (fnM (consM (pure (D.str (Str.ofString "there"))) (consM (escN 3) (consM (dM (bin2 (dM (thM (slN 2) lenW)) (pure (D.int 1)) Bv.gSub)) nilM))) (callN 3 F_known_ways))))
            (seqS
              (stS 0 (Str.ofString "back")
                (dM (fnM (consM (pure (D.str (Str.ofString "back"))) (consM (escN 4) (consM (dM (bin2 (dM (thM (slN 2) lenW)) (pure (D.int 1)) Bv.gSub)) nilM))) (callN 3 F_known_ways))))
              nilS))))))
theorem e_RoadI : bodyS T_RoadI (defCt n_RoadI u_RoadI s_RoadI) (defBody s_RoadI) = m_RoadI := by kernel_rfl
theorem r_RoadI : F_RoadI = runI n_RoadI "Road" m_RoadI := congrArg (runI n_RoadI "Road") e_RoadI
def m__law_made_road : MS :=
  seqS
  (rtS (fnM (consM (dM (ixNM 0 (pure (D.int 0)))) (consM (dM (ixNM 0 (pure (D.int 1)))) (consM (dM (ixNM 0 (pure (D.int 2)))) (consM (dM (ixNM 0 (pure (D.int 3)))) nilM)))) (makeM (Str.ofString "Road") 4 F_RoadI)))
  nilS
theorem e__law_made_road : bodyS T__law_made_road (defCt n__law_made_road u__law_made_road s__law_made_road) (defBody s__law_made_road) = m__law_made_road := by kernel_rfl
theorem r__law_made_road : F__law_made_road = runF n__law_made_road m__law_made_road := congrArg (runF n__law_made_road) e__law_made_road
def m__law_is_green : MS :=
  seqS (rtS (bin2 (dM (bin2 (dM (thM (bin2 (escN 3) (dM (ixNM 1 (escN 2))) Bv.gSub) intW)) (dM (ixNM 0 (pure (D.int 0)))) gMod)) (dM (ixM (dM (ixNM 0 (pure (D.int 1)))) (escN 2))) gLt)) nilS
theorem e__law_is_green : bodyS T__law_is_green (defCt n__law_is_green u__law_is_green s__law_is_green) (defBody s__law_is_green) = m__law_is_green := by kernel_rfl
theorem r__law_is_green : F__law_is_green = runF n__law_is_green m__law_is_green := congrArg (runF n__law_is_green) e__law_is_green
def m__law_arc : MS :=
  seqS (agS (fnM (consM (dM (thM (slM (dM (ixNM 0 (pure (D.int 2)))) noP (soP (escN 1))) sumW2)) (consM (dM (thM (slM (dM (ixNM 0 (pure (D.int 3)))) noP (soP (escN 1))) sumW2)) nilM)) Bv.gTup) (asT [asN 4, asN 5]))
  (seqS (agS (fnM nilM Bv.gLst) (asN 6))
    (seqS
      (forS (rgM (consM (dM (ixNM 0 (pure (D.int 0)))) nilM) rg1W) (asN 7)
        (seqS
          (forS (rgM (consM (dM (ixNM 0 (pure (D.int 0)))) nilM) rg1W) (asN 8)
            (seqS (agS (sM (dM (bin2 (dM (bin2 (dM (fnM (consM (pure (D.int 0)) nilM) Bv.gTup)) (escN 1) gMul)) (dM (fnM (consM (escN 8) nilM) Bv.gTup)) gAdd))) (asN 9))
              (seqS
                (agS
                  (sM
                    (dM
                      (lcM (rgM (consM (escN 2) nilM) rg1W) [11] (asN 11) (notT (truT (fnM (consM (escN 0) (consM (escN 9) (consM (escN 1) (consM (dM (bin2 (escN 4) (escN 11) gAdd)) nilM)))) (callN 4 F__law_is_green))))
                        (escN 11))))
                  (asN 10))
                (seqS
                  (agS
                    (sM
                      (dM
                        (lcM (rgM (consM (escN 3) nilM) rg1W) [11] (asN 11)
                          (notT (truT (fnM (consM (escN 0) (consM (escN 9) (consM (escN 1) (consM (dM (bin2 (dM (bin2 (escN 7) (escN 5) Bv.gSub)) (escN 11) gAdd)) nilM)))) (callN 4 F__law_is_green)))) (escN 11))))
                    (asN 12))
                  (seqS
                    (ifS
                      (andT (cmpT (escN 10) (dM (fnM nilM Bv.gLst)) gEq)
                        (andT (cmpT (escN 12) (dM (fnM nilM Bv.gLst)) gEq)
                          (blT (inN (escN 7) 6 (Prod.fst ((fun i => (true, i)) ((fun x => x + 1) ((fun x => x + 1) ((fun x => x + 1) ((fun x => x + 1) ((fun x => x + 1) ((fun x => x + 1) 0))))))))))))
                      (seqS (exS (appM 6 (escN 7))) nilS) nilS)
                    nilS)))))
          nilS))
      (seqS (rtS (mvN 6)) nilS)))
theorem e__law_arc : bodyS T__law_arc (defCt n__law_arc u__law_arc s__law_arc) (defBody s__law_arc) = m__law_arc := by kernel_rfl
theorem r__law_arc : F__law_arc = runF n__law_arc m__law_arc := congrArg (runF n__law_arc) e__law_arc
def m__law_common : MS :=
  seqS (agS (rgOf (dM (ixNM 0 (pure (D.int 0)))) L.ol) (asN 4))
  (seqS
    (forS (itM (escN 1)) (asN 5)
      (seqS (agS (sM (dM (fnM (consM (escN 0) (consM (escN 5) (consM (escN 2) (consM (escN 3) nilM)))) (callN 4 F__law_arc)))) (asN 6))
        (seqS (agS (lcM (itM (escN 4)) [7] (asN 7) (cmpT (escN 7) (escN 6) (gIn2 false)) (escN 7)) (asN 4)) nilS)))
    (seqS (rtS (mvN 4)) nilS))
theorem e__law_common : bodyS T__law_common (defCt n__law_common u__law_common s__law_common) (defBody s__law_common) = m__law_common := by kernel_rfl
theorem r__law_common : F__law_common = runF n__law_common m__law_common := congrArg (runF n__law_common) e__law_common
def m__law_width : MS :=
  seqS (agS (sM (dM (rgOf (dM (thM (ixNM 0 (pure (D.int 1))) lenW)) L.ol))) (asN 2))
  (seqS
    (rtS
      (thM
        (bin2 (dM (fnM (consM (pure (D.int 0)) nilM) Bv.gLst))
          (dM
            (lcM (rgM (consM (pure (D.int 1)) (consM (dM (bin2 (dM (ixNM 0 (pure (D.int 0)))) (pure (D.int 1)) gAdd)) nilM)) rg2W) [3] (asN 3)
              (cmpT (dM (fnM (consM (escN 0) (consM (escN 2) (consM (escN 1) (consM (escN 3) nilM)))) (callN 4 F__law_common))) (dM (fnM nilM Bv.gLst)) gNe) (escN 3)))
          gAdd)
        (bestW2 maxI)))
    nilS)
theorem e__law_width : bodyS T__law_width (defCt n__law_width u__law_width s__law_width) (defBody s__law_width) = m__law_width := by kernel_rfl
theorem r__law_width : F__law_width = runF n__law_width m__law_width := congrArg (runF n__law_width) e__law_width
def m_need_band : MS :=
  seqS (ifS (orT (notT (truT (fnM (consM (escN 2) nilM) (callN 1 F_is_whole)))) (notT (blT (chM (pure (D.int 1)) (escN 2) (dM (thM (slN 0) (fldW (Str.ofString "cycle")))) gLe gLe)))) (seqS badS nilS) nilS) nilS
theorem e_need_band : bodyS T_need_band (defCt n_need_band u_need_band s_need_band) (defBody s_need_band) = m_need_band := by kernel_rfl
theorem r_need_band : F_need_band = runF n_need_band m_need_band := congrArg (runF n_need_band) e_need_band
def m_widest_back : MS :=
  seqS (exS (fnM (consM (escN 0) (consM (pure (D.str (Str.ofString "f"))) (consM (escN 1) nilM))) (callN 3 F_need_band))) (seqS (rtS (fnM (consM (escN 0) (consM (escN 1) nilM)) (callN 2 F_back_width))) nilS)
theorem e_widest_back : bodyS T_widest_back (defCt n_widest_back u_widest_back s_widest_back) (defBody s_widest_back) = m_widest_back := by kernel_rfl
theorem r_widest_back : F_widest_back = runF n_widest_back m_widest_back := congrArg (runF n_widest_back) e_widest_back
def m_widest_pair : MS :=
  seqS (agS (sM (pure D.non)) (asN 1))
  (seqS
    (forS (rgM (consM (dM (fnM (consM (escN 0) nilM) (callN 1 F_both_widths))) nilM) enW) (asT [asN 2, asN 3])
      (seqS
        (ifS
          (andT (cmpT (escN 3) (pure (D.int 0)) gGt)
            (orT (cmpT (escN 1) (pure D.non) (gIs false)) (cmpT (dM (bin2 (dM (bin2 (escN 2) (pure (D.int 1)) gAdd)) (escN 3) gAdd)) (dM (bin2 (dM (ixNM 1 (pure (D.int 0)))) (dM (ixNM 1 (pure (D.int 1)))) gAdd)) gGt)))
          (seqS (agS (fnM (consM (dM (bin2 (escN 2) (pure (D.int 1)) gAdd)) (consM (escN 3) nilM)) Bv.gTup) (asN 1)) nilS) nilS)
        nilS))
    (seqS (rtS (mvN 1)) nilS))
theorem e_widest_pair : bodyS T_widest_pair (defCt n_widest_pair u_widest_pair s_widest_pair) (defBody s_widest_pair) = m_widest_pair := by kernel_rfl
theorem r_widest_pair : F_widest_pair = runF n_widest_pair m_widest_pair := congrArg (runF n_widest_pair) e_widest_pair
def m_widest_equal : MS :=
  seqS (agS (sM (pure (D.int 0))) (asN 1))
  (seqS
    (whB
      (andT (cmpT (escN 1) (dM (thM (slN 0) (fldW (Str.ofString "cycle")))) gLt)
        (truT (fnM (consM (escN 0) (consM (dM (bin2 (escN 1) (pure (D.int 1)) gAdd)) (consM (dM (bin2 (escN 1) (pure (D.int 1)) gAdd)) nilM))) (callN 3 F_can_band))))
      (seqS (agS (bin2 (escN 1) (pure (D.int 1)) gAdd) (asN 1)) nilS) 1000000)
    (seqS (rtS (mvN 1)) nilS))
theorem e_widest_equal : bodyS T_widest_equal (defCt n_widest_equal u_widest_equal s_widest_equal) (defBody s_widest_equal) = m_widest_equal := by kernel_rfl
theorem r_widest_equal : F_widest_equal = runF n_widest_equal m_widest_equal := congrArg (runF n_widest_equal) e_widest_equal
def m_law : MS :=
  seqS (agS (sM (dM (fnM (consM (escN 0) nilM) (callN 1 F__law_pen)))) (asN 1))
  (seqS
    (agS
      (sM
        (dM
          (fnM (consM (escN 1) (consM (pure (D.int 3)) (consM (dM (fnM (consM (pure (D.int 3)) (consM (pure (D.int 4)) (consM (pure (D.int 6)) (consM (pure (D.int 8)) nilM)))) Bv.gLst)) nilM)))
            (callN 3 F__law_drawn_road))))
      (asN 2))
    (seqS (par2 3 4 (sM (dM (fnM (consM (escN 2) nilM) (callN 1 F__law_made_road)))) (sM (dM (thM (ixNM 2 (pure (D.int 1))) (bestW2 minI)))))
      (seqS
        (agS (sM (dM (lcM (rgM (consM (pure (D.int 1)) (consM (dM (bin2 (escN 4) (pure (D.int 1)) gAdd)) nilM)) rg2W) [6] (asN 6) yesM (dM (fnM (consM (escN 2) (consM (escN 6) nilM)) (callN 2 F__law_width)))))) (asN 5))
        (seqS
          (ifS (orT (notT (truT (fnM (consM (dM (fnM (consM (escN 3) nilM) (callN 1 F_both_widths))) (consM (dM (thM (slN 5) tupW)) nilM)) (callN 2 F__law_is)))) (cmpT (escN 5) (dM (thM (slN 5) sortR)) gNe))
            (seqS (rtS (sM (pure (D.bl false)))) nilS) nilS)
          (seqS (agS (sM (dM (bin2 (pure (D.int 1)) (dM (fnM (consM (escN 1) (consM (dM (ixNM 2 (pure (D.int 0)))) nilM)) (callN 2 F__law_draw))) gAdd))) (asN 6))
            (seqS
              (ifS
                (notT
                  (truT (fnM (consM (dM (fnM (consM (escN 3) (consM (escN 6) nilM)) (callN 2 F_widest_back))) (consM (dM (fnM (consM (escN 2) (consM (escN 6) nilM)) (callN 2 F__law_width))) nilM)) (callN 2 F__law_is))))
                (seqS (rtS (sM (pure (D.bl false)))) nilS) nilS)
              (seqS
                (agS
                  (sM
                    (dM
                      (lcM (rgM (consM (escN 4) nilM) rg1W) [8] (asN 8) (cmpT (dM (ixNM 5 (escN 8))) (pure (D.int 0)) gGt)
                        (dM (fnM (consM (dM (bin2 (escN 8) (pure (D.int 1)) gAdd)) (consM (dM (ixNM 5 (escN 8))) nilM)) Bv.gTup)))))
                  (asN 7))
                (seqS
                  (agS
                    (sM
                      (dM
                        (lcM (itM (escN 7)) [10] (asN 10)
                          (cmpT (dM (bin2 (dM (ixNM 10 (pure (D.int 0)))) (dM (ixNM 10 (pure (D.int 1)))) gAdd)) (dM (thM (lcM (itM (escN 7)) [11] (asN 11) yesM (dM (thM (slN 11) sumW2))) (bestW2 maxI))) gEq)
                          (escN 10))))
                    (asN 9))
                  (seqS
                    (ifS
                      (notT
                        (truT
                          (fnM (consM (dM (fnM (consM (escN 3) nilM) (callN 1 F_widest_pair))) (consM (dM (ifM (cmpT (escN 9) (dM (fnM nilM Bv.gLst)) gNe) (ixNM 9 (pure (D.int 0))) (sM (pure D.non)))) nilM))
                            (callN 2 F__law_is))))
                      (seqS (rtS (sM (pure (D.bl false)))) nilS) nilS)
                    (seqS
                      (agS
                        (sM
                          (dM
                            (thM
                              (bin2 (dM (fnM (consM (pure (D.int 0)) nilM) Bv.gLst))
                                (dM (lcM (rgM (consM (escN 4) nilM) rg1W) [8] (asN 8) (cmpT (dM (ixNM 5 (escN 8))) (dM (bin2 (escN 8) (pure (D.int 1)) gAdd)) gGe) (dM (bin2 (escN 8) (pure (D.int 1)) gAdd)))) gAdd)
                              (bestW2 maxI))))
                        (asN 12))
                      (seqS (ifS (notT (truT (fnM (consM (dM (fnM (consM (escN 3) nilM) (callN 1 F_widest_equal))) (consM (escN 12) nilM)) (callN 2 F__law_is)))) (seqS (rtS (sM (pure (D.bl false)))) nilS) nilS)
                        (seqS
                          (ifS (cmpT (dM (thM (ixNM 2 (pure (D.int 1))) lenW)) (pure (D.int 1)) gGt)
                            (seqS
                              (par2 8 13 (sM (dM (fnM (consM (escN 1) (consM (dM (thM (ixNM 2 (pure (D.int 2))) lenW)) nilM)) (callN 2 F__law_draw))))
                                (sM (dM (bin2 (pure (D.int 1)) (dM (fnM (consM (escN 1) (consM (pure (D.int 9)) nilM)) (callN 2 F__law_draw))) gAdd))))
                              (seqS
                                (agS
                                  (sM
                                    (dM
                                      (bin2
                                        (dM
                                          (bin2 (dM (slM (dM (ixNM 2 (pure (D.int 2)))) noP (soP (escN 8)))) (dM (fnM (consM (dM (bin2 (dM (ixM (dM (ixNM 2 (pure (D.int 2)))) (escN 8))) (escN 13) gAdd)) nilM) Bv.gTup))
                                            gAdd))
                                        (dM (slM (dM (ixNM 2 (pure (D.int 2)))) (soP (dM (bin2 (escN 8) (pure (D.int 1)) gAdd))) noP)) gAdd)))
                                  (asN 14))
                                (seqS
                                  (agS
                                    (sM
                                      (dM
                                        (bin2
                                          (dM
                                            (bin2 (dM (slM (dM (ixNM 2 (pure (D.int 3)))) noP (soP (escN 8)))) (dM (fnM (consM (dM (bin2 (dM (ixM (dM (ixNM 2 (pure (D.int 3)))) (escN 8))) (escN 13) gAdd)) nilM) Bv.gTup))
                                              gAdd))
                                          (dM (slM (dM (ixNM 2 (pure (D.int 3)))) (soP (dM (bin2 (escN 8) (pure (D.int 1)) gAdd))) noP)) gAdd)))
                                    (asN 15))
                                  (seqS
                                    (ifS
                                      (cmpT
                                        (dM
                                          (fnM
                                            (consM
                                              (dM
                                                (fnM (consM (dM (ixNM 2 (pure (D.int 0)))) (consM (dM (ixNM 2 (pure (D.int 1)))) (consM (escN 14) (consM (dM (ixNM 2 (pure (D.int 3)))) nilM))))
                                                  (makeM (Str.ofString "Road") 4 F_RoadI)))
                                              nilM)
                                            (callN 1 F_both_widths)))
                                        (dM
                                          (fnM
                                            (consM
                                              (dM
                                                (fnM (consM (dM (ixNM 2 (pure (D.int 0)))) (consM (dM (ixNM 2 (pure (D.int 1)))) (consM (dM (ixNM 2 (pure (D.int 2)))) (consM (escN 15) nilM))))
                                                  (makeM (Str.ofString "Road") 4 F_RoadI)))
                                              nilM)
                                            (callN 1 F_both_widths)))
                                        gNe)
                                      (seqS (rtS (sM (pure (D.bl false)))) nilS) nilS)
                                    nilS))))
                            nilS)
                          (seqS (par2 16 17 (sM (dM (bin2 (pure (D.int 10)) (dM (fnM (consM (escN 1) (consM (pure (D.int 50)) nilM)) (callN 2 F__law_draw))) gAdd))) (fnM nilM Bv.gLst))
                            (seqS
                              (forS (rgM (consM (dM (bin2 (pure (D.int 2)) (dM (fnM (consM (escN 1) (consM (pure (D.int 4)) nilM)) (callN 2 F__law_draw))) gAdd)) nilM) rg1W) (asN 8)
                                (seqS (exS (appM 17 (dM (bin2 (pure (D.int 1)) (dM (fnM (consM (escN 1) (consM (dM (bin2 (escN 16) (pure (D.int 1)) Bv.gSub)) nilM)) (callN 2 F__law_draw))) gAdd)))) nilS))
                              (seqS
                                (agS
                                  (sM
                                    (dM
                                      (lcM (rgM (consM (dM (bin2 (dM (thM (slN 17) lenW)) (pure (D.int 1)) Bv.gSub)) nilM) rg1W) [8] (asN 8) yesM
                                        (dM (fnM (consM (escN 1) (consM (dM (bin2 (escN 16) (pure (D.int 1)) gAdd)) nilM)) (callN 2 F__law_draw))))))
                                  (asN 18))
                                (seqS
                                  (agS
                                    (sM
                                      (dM
                                        (fnM
                                          (consM
                                            (dM
                                              (fnM (consM (escN 16) (consM (escN 17) (consM (escN 18) (consM (dM (lcM (itM (escN 18)) [20] (asN 20) yesM (dM (bin2 (escN 16) (escN 20) Bv.gSub)))) nilM))))
                                                (makeM (Str.ofString "Road") 4 F_RoadI)))
                                            nilM)
                                          (callN 1 F_both_widths))))
                                    (asN 19))
                                  (seqS (rtS (fnM (consM (escN 19) (consM (dM (bin2 (dM (fnM (consM (dM (thM (slN 17) (bestW2 minI))) nilM) Bv.gTup)) (dM (thM (slN 17) (bestW2 minI))) gMul)) nilM)) (callN 2 F__law_is)))
                                    nilS)))))))))))))))))
theorem e_law : bodyS T_law (defCt n_law u_law s_law) (defBody s_law) = m_law := by kernel_rfl
theorem r_law : F_law = runF n_law m_law := congrArg (runF n_law) e_law
def m__law_is : FnS → MS := fun F =>
  seqS
    (ifS (truT (thM (slN 1) (isiW (isiT isiL [Str.ofString "tuple"]))))
      (seqS (ifS (orT (notT (truT (thM (slN 0) (isiW (isiT isiL [Str.ofString "tuple"]))))) (cmpT (dM (thM (slN 0) lenW)) (dM (thM (slN 1) lenW)) gNe)) (seqS (rtS (sM (pure (D.bl false)))) nilS) nilS)
        (seqS
          (rtS
            (bin2 (dM (lcM (rgM (consM (dM (thM (slN 1) lenW)) nilM) rg1W) [2] (asN 2) (notT (truT (fnM (consM (dM (ixNM 0 (escN 2))) (consM (dM (ixNM 1 (escN 2))) nilM)) (callN 2 F)))) (escN 2))) (dM (fnM nilM Bv.gLst))
              gEq))
          nilS))
      nilS)
    (seqS (ifS (cmpT (escN 1) (pure D.non) (gIs false)) (seqS (rtS (bin2 (escN 0) (pure D.non) (gIs false))) nilS) nilS)
      (seqS (ifS (cmpT (escN 1) (pure (D.bl true)) (gIs false)) (seqS (rtS (bin2 (escN 0) (pure (D.bl true)) (gIs false))) nilS) nilS)
        (seqS (ifS (cmpT (escN 1) (pure (D.bl false)) (gIs false)) (seqS (rtS (bin2 (escN 0) (pure (D.bl false)) (gIs false))) nilS) nilS)
          (seqS (ifS (truT (thM (slN 1) (isiW (isiT isiL [Str.ofString "str"])))) (seqS (rtS (Bv.andM (dM (thM (slN 0) (isiW (isiT isiL [Str.ofString "str"])))) (bin2 (escN 0) (escN 1) gEq))) nilS) nilS)
            (seqS (rtS (Bv.andM (dM (thM (slN 0) (isiW (isiT isiL [Str.ofString "int"])))) (Bv.andM (dM (Bv.notM (dM (thM (slN 0) (isiW (isiT isiL [Str.ofString "bool"])))))) (bin2 (escN 0) (escN 1) gEq))))
              nilS)))))
theorem e__law_is (F : FnS) : bodyS (mkT [("_law_is", 2, F)] [] tyL isiL fldL gcB) (defCt n__law_is u__law_is s__law_is) (defBody s__law_is) = m__law_is F := by kernel_rfl
end Kt

namespace Kt
open PySem PySem.Spec PyProof.Rows L2 Bv
set_option hygiene false
local macro_rules | `(tactic| fail "S1") => `(tactic| (first | with_reducible refine s_seq ?_ | with_reducible refine s_nil ?_ | with_reducible refine s_ag ?_ | with_reducible refine s_rt ?_ | with_reducible refine s_ex ?_ | with_reducible refine s_for ?_ | with_reducible refine s_par2 ?_ | with_reducible refine s_par3 ?_ | with_reducible refine w_pure ?_ | with_reducible refine w_dM ?_ | with_reducible refine w_sM ?_ | with_reducible refine w_th ?_ | with_reducible refine w_fn ?_ | with_reducible refine w_rg ?_ | with_reducible refine w_it ?_ | with_reducible refine w_nil ?_ | with_reducible refine w_cons ?_ | with_reducible refine w_bin2 ?_ | with_reducible refine w_addI ?_ | with_reducible refine w_subI ?_ | with_reducible refine w_ltI ?_ | with_reducible refine w_leI ?_ | with_reducible refine w_gtI ?_ | with_reducible refine w_geI ?_ | with_reducible refine w_eqS ?_ | with_reducible refine w_neS ?_ | with_reducible refine w_eqI ?_ | with_reducible refine w_neI ?_ | with_reducible refine w_int ?_ | with_reducible refine w_ixM ?_ | with_reducible refine w_cmpT ?_ | with_reducible refine w_notT ?_ | with_reducible refine w_blT ?_ | with_reducible refine w_yes ?_ | with_reducible refine w_chM ?_ | with_reducible refine w_lcS ?_ | with_reducible refine w_itL ?_ | with_reducible refine w_ix0T ?_ | with_reducible refine w_ix0L ?_ | with_reducible refine w_ix0O ?_ | with_reducible refine w_ix1T ?_ | with_reducible refine w_ix1L ?_ | with_reducible refine w_ix1O ?_ | with_reducible refine w_ix2T ?_ | with_reducible refine w_ix2L ?_ | with_reducible refine w_ix2O ?_ | with_reducible refine w_ix3T ?_ | with_reducible refine w_ix3L ?_ | with_reducible refine w_ix3O ?_ | with_reducible refine w_itT ?_ | with_reducible refine w_itC ?_ | with_reducible refine w_lstS ?_ | with_reducible refine w_lstL ?_ | with_reducible refine w_lstT ?_ | with_reducible refine w_lstO ?_ | with_reducible refine w_tupT ?_ | with_reducible refine w_tupL ?_ | with_reducible refine w_tupO ?_ | with_reducible refine w_dd ?_ | with_reducible refine s_asT1 ?_ | with_reducible refine s_stS ?_ | with_reducible refine w_max2 ?_ | with_reducible refine w_min2 ?_ | with_reducible refine s_asT0 ?_ | with_reducible refine w_gcd ?_ | with_reducible refine w_idxM ?_ | with_reducible refine w_enW ?_ | with_reducible refine w_enT ?_ | with_reducible refine w_zpL ?_ | with_reducible refine w_zpT ?_ | with_reducible refine w_rgOf ?_ | with_reducible refine w_rgOf2 ?_ | with_reducible refine w_inN ?_ | with_reducible refine w_inLs ?_ | with_reducible refine w_inLo ?_ | with_reducible refine w_dcS ?_ | with_reducible refine w_inK ?_ | with_reducible refine w_noP ?_ | with_reducible refine w_soP ?_ | with_reducible refine w_slM ?_ | ((with_reducible apply w_esc); (focus exact rfl)) | ((with_reducible apply w_sl); (focus exact rfl)) | ((with_reducible apply s_asN); (focus (repeat (first | exact SetAt.z | apply SetAt.s)))) | ((with_reducible apply w_ixN); (focus exact rfl)) | ((with_reducible apply w_slN); (focus exact rfl)) | ((with_reducible apply w_slL); (focus exact rfl)) | ((with_reducible apply w_slT); (focus exact rfl)) | ((with_reducible apply w_escO); (focus exact rfl); (focus (repeat (first | exact SetAt.z | apply SetAt.s)))) | ((with_reducible apply w_mv); (focus exact rfl); (focus (repeat (first | exact SetAt.z | apply SetAt.s)))) | ((with_reducible refine w_modI ?_ ?_); (focus first | omega | decide)) | ((with_reducible refine w_fdvI ?_ ?_ ?_); (focus first | omega | decide); (focus first | omega | decide)) | ((with_reducible refine w_powI ?_ ?_); (focus decide)) | ((with_reducible refine w_mulI ?_ ?_); (focus first | exact .inr (by decide) | exact .inl (by decide) | exact .inr (by constructor <;> omega) | exact .inl (by constructor <;> omega))) | ((with_reducible apply w_app); (focus exact rfl)) | ((with_reducible apply w_appN); (focus exact rfl); (focus first | decide | (simp only [List.length_cons, List.length_nil]; decide)); (focus (repeat (first | exact SetAt.z | apply SetAt.s)))) | ((with_reducible apply w_isi); (focus exact rfl); (focus assumption)) | ((with_reducible apply w_isF); (focus exact rfl)) | ((with_reducible apply w_isN); (focus exact rfl)) | ((with_reducible apply w_fldS); (focus exact rfl)) | ((with_reducible apply s_stN); (focus exact rfl); (focus exact Nat.le_of_ble_eq_true rfl); (focus (repeat (first | exact SetAt.z | apply SetAt.s)))) | ((with_reducible apply w_fldO); (focus exact rfl)) | ((with_reducible refine w_rg1 ?_ ?_); (focus first | (constructor <;> omega) | decide)) | ((with_reducible refine w_rg2 ?_ ?_); (focus first | (refine ⟨?_, ?_, ?_, ?_⟩ <;> omega) | decide)) | ((with_reducible refine w_rgW ?_ ?_); (focus constructor <;> omega)) | ((with_reducible refine w_rgW2 ?_ ?_); (focus refine ⟨⟨?_, ?_⟩, ⟨?_, ?_⟩, ?_⟩ <;> omega)) | ((with_reducible refine w_addT ?_ ?_); (focus (simp only [List.length_map, List.length_replicate, List.length_cons, List.length_nil, List.length_range]; unfold lineN; omega))) | ((with_reducible refine w_mul1 ?_ ?_); (focus constructor <;> omega)) | ((with_reducible refine w_tup ?_ ?_); (focus exact Nat.le_of_ble_eq_true rfl)) | ((with_reducible refine w_lst ?_ ?_); (focus exact Nat.le_of_ble_eq_true rfl)) | ((with_reducible refine w_pen_at ?_ ?_); (focus exact rfl)) | ((with_reducible refine s_pen_at ?_ ?_ ?_); (focus exact rfl); (focus exact rfl)) | ((with_reducible refine w_pen_digits ?_ ?_); (focus exact rfl)) | ((with_reducible refine s_pen_digits ?_ ?_); (focus exact rfl)) | ((with_reducible refine w_pen_count ?_ ?_); (focus exact rfl)) | ((with_reducible refine s_pen_count ?_ ?_); (focus exact rfl)) | ((with_reducible refine w_pen_fold ?_ ?_); (focus exact rfl)) | ((with_reducible refine s_pen_fold ?_ ?_); (focus exact rfl)) | ((with_reducible refine w_pen_cells ?_ ?_); (focus exact rfl)) | with_reducible refine s_dp ?_ | with_reducible refine if_not ?_ | with_reducible refine if_tt ?_ | with_reducible refine if_ff ?_ | ((with_reducible refine if_decT ?_ ?_); (focus first | omega | (simp only [List.length_cons, List.length_nil]; omega))) | ((with_reducible refine if_decF ?_ ?_); (focus first | omega | (simp only [List.length_cons, List.length_nil]; omega))) | with_reducible refine if_dec (fun hc => ?_) (fun hc => ?_) | with_reducible refine s_if ?_ | with_reducible refine w_andT ?_ | with_reducible refine w_orT ?_ | with_reducible refine w_andM ?_ | with_reducible refine w_orM ?_ | with_reducible refine w_notM ?_ | with_reducible refine w_ifM ?_ | with_reducible refine w_truT ?_ | with_reducible refine w_negI ?_ | with_reducible refine ex_truB ?_ | with_reducible refine ⟨_, rfl, ?_⟩ | dsimp only [L.d] | ((with_reducible refine if_t ?_ ?_); (focus exact rfl)) | ((with_reducible refine if_f ?_ ?_); (focus exact rfl)) | ((with_reducible apply w_len); (focus exact .inl rfl)) | ((with_reducible apply w_len); (focus exact .inr rfl))))
local macro_rules | `(tactic| fail "SA") => `(tactic| (repeat' fail "S1"))
local macro_rules | `(tactic| fail "SR") => `(tactic| (repeat fail "S1"))
set_option hygiene true
/-! roads in plain numbers -/
abbrev ti (xs : List Int) : D := .tup (xs.map D.int)
structure Rd (c : Int) (gs th bk : List Int) : Prop where
  c0 : 2 ≤ c
  c1 : c ≤ 240
  m0 : 1 ≤ gs.length
  m1 : gs.length ≤ 8
  lt : th.length + 1 = gs.length
  lb : bk.length + 1 = gs.length
  g0 : ∀ g ∈ gs, 1 ≤ g ∧ g ≤ c
  t0 : ∀ x ∈ th, 0 ≤ x
  b0 : ∀ x ∈ bk, 0 ≤ x
theorem Rd.turn {c : Int} {gs th bk : List Int} (h : Rd c gs th bk) : Rd c gs bk th := ⟨h.c0, h.c1, h.m0, h.m1, h.lb, h.lt, h.g0, h.b0, h.t0⟩
def rdF (c : Int) (gs th bk : List Int) : List (Str × D) := [("cycle", .int c), ("greens", ti gs), ("there", ti th), ("back", ti bk)]
abbrev rdI (c : Int) (gs th bk : List Int) : D := .inst "Road" [("cycle", .int c), ("greens", .tup (gs.map D.int)), ("there", .tup (th.map D.int)), ("back", .tup (bk.map D.int))]
abbrev rdT (c : Int) (gs th bk : List Int) : D := .tup [.int c, .tup (gs.map D.int), .tup (th.map D.int), .tup (bk.map D.int)]
def pre (w : List Int) (k : Nat) : Int := (w.take k).sum
def grn (c : Int) (gs os : List Int) (k : Nat) (x : Int) : Bool := decide ((x - os.getD k 0) % c < gs.getD k 0)
def good (c : Int) (gs os w : List Int) (sg : Int) (s : Nat) : Bool := (List.range gs.length).all fun k => grn c gs os k ((s : Int) + sg * pre w k)
def goods (c : Int) (gs os w : List Int) (sg : Int) : List Nat := (List.range c.toNat).filter (good c gs os w sg)
theorem atG {xs : List Int} {k : Nat} (h : k < xs.length) : atI (xs.map D.int) (k : Int) = some (.int (xs.getD k 0)) := atI_nat (by rw [List.getElem?_map, List.getElem?_eq_getElem h, List.getD_eq_getElem?_getD, List.getElem?_eq_getElem h]; rfl)
theorem pre_succ {w : List Int} {k : Nat} (h : k < w.length) : pre w (k + 1) = pre w k + w.getD k 0 := by
  unfold pre
  rw [take_get h, List.sum_append, List.getD_eq_getElem?_getD, List.getElem?_eq_getElem h]
  simp
theorem y_int : isiT isiL [Str.ofString "int"] (Bv.Ty.b "int") = some true := by decide +kernel
theorem y_bool : isiT isiL [Str.ofString "bool"] (Bv.Ty.b "int") = some false := by decide +kernel
theorem y_tup : isiT isiL [Str.ofString "tuple"] (Bv.Ty.b "tuple") = some true := by decide +kernel
theorem y_lt : isiT isiL [Str.ofString "list", Str.ofString "tuple"] (Bv.Ty.b "tuple") = some true := by decide +kernel
section
variable {s : S} {Q : L → S → Prop}
theorem sp_whole {i : Int} (q : Q (.sh (.bl true)) s) : wm (callN 1 F_is_whole [.int i]) s Q := by
  refine w_call r_is_whole rfl ?_
  show ws m_is_whole ⟨[some (.sh (.int i))], s.st⟩ _ _ _ _
  unfold m_is_whole
  have y1 := y_int
  have y2 := y_bool
  fail "SA"
  exact q
theorem sp_number {i : Int} (h : 0 ≤ i) (q : Q (.sh (.bl true)) s) : wm (callN 1 F_is_number [.int i]) s Q := by
  refine w_call r_is_number rfl ?_
  show ws m_is_number ⟨[some (.sh (.int i))], s.st⟩ _ _ _ _
  unfold m_is_number
  fail "SA"
  refine sp_whole ?_
  fail "SA"
  rw [decide_eq_true h]
  exact q
theorem sp_ways {x : Str} {w : List Int} {m : Int} (hl : w.length ≤ 100) (hm : m = w.length) (h0 : ∀ y ∈ w, 0 ≤ y) (q : Q (.sh (ti w)) s) : wm (callN 3 F_known_ways [.str x, .tup (w.map D.int), .int m]) s Q := by
  refine w_call r_known_ways rfl ?_
  show ws m_known_ways ⟨[some (.sh (.str x)), some (.sh (.tup (w.map D.int))), some (.sh (.int m)), none], s.st⟩ _ _ _ _
  unfold m_known_ways
  have y1 := y_lt
  have e1 : (w.map D.int).length = w.length := List.length_map ..
  fail "SA"
  refine w_lcF (fun _ : Int => D.bl true) rfl (by unfold lineN; omega) (fun y hy => ⟨_, rfl, rfl, ?_⟩) ?_
  · fail "SA"
    refine sp_number (h0 y hy) ?_
    fail "SA"
    exact ⟨rfl, rfl⟩
  fail "SA"
  refine w_all (p := fun _ => true) rfl ?_
  rw [List.all_eq_true.mpr (fun _ _ => rfl)]
  fail "SA"
  exact q
theorem sp_make {c : Int} {gs th bk : List Int} (h : Rd c gs th bk) (q : Q (.oi false "Road" (rdF c gs th bk)) s) : wm (makeM "Road" 4 F_RoadI [.int c, .tup (gs.map D.int), .tup (th.map D.int), .tup (bk.map D.int)]) s Q := by
  refine w_make r_RoadI rfl ?_
  show ws m_RoadI ⟨[some (.oi true "Road" []), some (.sh (.int c)), some (.sh (.tup (gs.map D.int))), some (.sh (.tup (th.map D.int))), some (.sh (.tup (bk.map D.int))), none], s.st⟩ _ _ _ _
  unfold m_RoadI
  have y1 := y_lt
  have e1 : (gs.map D.int).length = gs.length := List.length_map ..
  have c0 := h.c0
  have c1 := h.c1
  have m0 := h.m0
  have m1 := h.m1
  have lt := h.lt
  have lb := h.lb
  fail "SA"
  refine sp_whole ?_
  fail "SA"
  refine w_lcF (fun _ : Int => D.bl true) rfl (by unfold lineN; omega) (fun y hy => ⟨_, rfl, rfl, ?_⟩) ?_
  · obtain ⟨g1, g2⟩ := h.g0 y hy
    fail "SA"
    refine sp_whole ?_
    fail "SA"
    refine ⟨rfl, ?_⟩
    rw [decide_eq_true g2]
  fail "SA"
  refine w_all (p := fun _ => true) rfl ?_
  rw [List.all_eq_true.mpr (fun _ _ => rfl)]
  fail "SA"
  refine sp_ways (by omega) (by omega) h.t0 ?_
  fail "SA"
  refine sp_ways (by omega) (by omega) h.b0 ?_
  fail "SA"
  exact q
theorem sp_lgrn {c : Int} {gs th bk os : List Int} {k : Nat} {x : Int} (h : Rd c gs th bk) (hk : k < gs.length) (ho : os.length = gs.length) (q : Q (.sh (.bl (grn c gs os k x))) s) : wm (callN 4 F__law_is_green [rdT c gs th bk, .tup (os.map D.int), .int k, .int x]) s Q := by
  refine w_call r__law_is_green rfl ?_
  show ws m__law_is_green ⟨[some (.sh (rdT c gs th bk)), some (.sh (.tup (os.map D.int))), some (.sh (.int k)), some (.sh (.int x))], s.st⟩ _ _ _ _
  unfold m__law_is_green
  have c0 := h.c0
  fail "SA"
  refine w_ixW (.inr rfl) (atG (by omega)) ?_
  fail "SA"
  refine w_ixW (.inr rfl) (atG hk) ?_
  fail "SA"
  exact q
end
theorem getD_mem' {xs : List Int} {k : Nat} (h : k < xs.length) : xs.getD k 0 ∈ xs := by
  rw [List.getD_eq_getElem?_getD, List.getElem?_eq_getElem h]
  exact List.getElem_mem h
/-! bands in plain numbers -/
def tot (th bk : List Int) (k : Nat) : Int := pre th k + pre bk k
def arcR (c : Int) (gs th bk : List Int) (f b : Int) (k : Nat) : List Int := (List.range (gs.getD k 0 - b + 1 - (f - gs.getD k 0)).toNat).map fun j => (tot th bk k + (f - gs.getD k 0 + (j : Nat))) % c
def arcL (c : Int) (gs th bk : List Int) (f b : Int) (k : Nat) : List Int :=
  if gs.getD k 0 = c then (List.range c.toNat).map fun i => ((i : Nat) : Int)
  else if gs.getD k 0 < f ∨ gs.getD k 0 < b then [] else sortI (ddI (arcR c gs th bk f b k))
def com (c : Int) (gs th bk : List Int) (f b : Int) (ks : List Nat) : List Nat := (List.range c.toNat).filter fun s => ks.all fun k => decide ((s : Int) ∈ arcL c gs th bk f b k)
def offF (c : Int) (gs th bk : List Int) (f b later : Int) (k : Nat) : Int :=
  if gs.getD k 0 = c then 0 else match (List.range (gs.getD k 0 - f + 1).toNat).find? fun j => decide ((later - pre bk k - (pre th k - (j : Nat)) % c) % c ≤ gs.getD k 0 - b) with
    | some j => (pre th k - (j : Nat)) % c
    | none => 0
def svS (c : Int) (gs th bk : List Int) (f b : Int) (sig : List Nat) (k : Nat) : List Nat := if com c gs th bk f b (sig.filter fun x => !decide (x = k)) = [] then sig.filter fun x => !decide (x = k) else sig
def sieve (c : Int) (gs th bk : List Int) (f b : Int) : List Nat := (List.range gs.length).foldl (svS c gs th bk f b) (List.range gs.length)
abbrev nl (ks : List Nat) : List D := ks.map fun i => D.int ((i : Nat) : Int)
abbrev baI (os : List Int) (t b : Int) : D := .inst "Bands" [("offsets", .tup (os.map D.int)), ("there", .int t), ("back", .int b)]
abbrev nbI (ks : List Nat) : D := .inst "NoBands" [("signals", .tup (nl ks))]
theorem y_lN : isiT isiL [Str.ofString "list", Str.ofString "tuple"] (Bv.Ty.b "int") = some false := by decide +kernel
theorem pre_cut {w : List Int} {k : Nat} (h : k ≤ w.length) : cutD (w.map D.int) none (some (k : Int)) = (w.take k).map D.int := by rw [cut_take (by rw [List.length_map]; exact h), ← List.map_take]
section
variable {s : S} {Q : L → S → Prop} {c f b : Int} {gs th bk : List Int}
theorem sp_needBand {x : Str} {z : Int} (h1 : 1 ≤ z) (h2 : z ≤ c) (q : Q (.sh .non) s) : wm (callN 3 F_need_band [rdI c gs th bk, .str x, .int z]) s Q := by
  refine w_call r_need_band rfl ?_
  show ws m_need_band ⟨[some (.sh (rdI c gs th bk)), some (.sh (.str x)), some (.sh (.int z))], s.st⟩ _ _ _ _
  unfold m_need_band
  fail "SA"
  refine sp_whole ?_
  fail "SA"
  exact q
theorem sp_waySum {k : Nat} (h : Rd c gs th bk) (hk : k < gs.length) (q : Q (.sh (.int (tot th bk k))) s) : wm (callN 2 F_way_sum [rdI c gs th bk, .int (k : Nat)]) s Q := by
  refine w_call r_way_sum rfl ?_
  show ws m_way_sum ⟨[some (.sh (rdI c gs th bk)), some (.sh (.int (k : Nat)))], s.st⟩ _ _ _ _
  have lt := h.lt
  have lb := h.lb
  unfold m_way_sum
  fail "SA"
  rw [pre_cut (by omega)]
  refine w_sum (.inr rfl) ?_
  fail "SA"
  rw [pre_cut (by omega)]
  refine w_sum (.inr rfl) ?_
  fail "SA"
  exact q
theorem dd_few (hc : 0 < c) {l : List Int} (h : ∀ x ∈ l, 0 ≤ x ∧ x < c) : (ddI l).length ≤ c.toNat := by
  have := nodup_le (ddI l) ((List.range c.toNat).map fun i : Nat => (i : Int)) (ddI_nodup l) fun x hx => by
    obtain ⟨h1, h2⟩ := h x (ddI_mem.mp hx)
    exact List.mem_map.mpr ⟨x.toNat, List.mem_range.mpr (by omega), by omega⟩
  rwa [List.length_map, List.length_range] at this
theorem sp_arc {k : Nat} (h : Rd c gs th bk) (hk : k < gs.length) (hf : 1 ≤ f ∧ f ≤ c) (hb : 1 ≤ b ∧ b ≤ c) (hz : c < 64 ∨ 2 * gs.getD k 0 - f - b + 1 < 64) (q : Q (.sh (.tup ((arcL c gs th bk f b k).map D.int))) s) : wm (callN 4 F_arc_by [rdI c gs th bk, .int (k : Nat), .int f, .int b]) s Q := by
  refine w_call r_arc_by rfl ?_
  show ws m_arc_by ⟨[some (.sh (rdI c gs th bk)), some (.sh (.int (k : Nat))), some (.sh (.int f)), some (.sh (.int b)), none, none, none, none], s.st⟩ _ _ _ _
  have c0 := h.c0
  have c1 := h.c1
  have hg := h.g0 _ (getD_mem' hk)
  unfold m_arc_by
  fail "SA"
  refine w_ixW (.inr rfl) (atG hk) ?_
  fail "SA"
  · have e : arcL c gs th bk f b k = (List.range c.toNat).map fun i : Nat => (i : Int) := by unfold arcL; rw [if_pos hc]
    rw [e, List.map_map] at q
    have e2 : rgD 0 c.toNat = (List.range c.toNat).map (D.int ∘ fun i : Nat => (i : Int)) := by
      rw [rgD_map]
      exact List.map_congr_left fun i _ => by rw [Int.zero_add]; rfl
    rw [e2]
    exact q
  · rename_i hc0
    have e : arcL c gs th bk f b k = [] := by unfold arcL; rw [if_neg hc0, if_pos (.inl hc)]
    rw [e] at q
    exact q
  · rename_i hc0 hc9
    have e : arcL c gs th bk f b k = [] := by unfold arcL; rw [if_neg hc0, if_pos (.inr hc)]
    rw [e] at q
    exact q
  · rename_i hc0 hc9
    have e : arcL c gs th bk f b k = sortI (ddI (arcR c gs th bk f b k)) := by unfold arcL; rw [if_neg hc0, if_neg (by rintro (z | z); exact hc9 z; exact hc z)]
    rw [e] at q
    refine sp_waySum h hk ?_
    fail "SA"
    rw [show rgD (f - gs.getD k 0) (gs.getD k 0 - b + 1 - (f - gs.getD k 0)).toNat = (List.range (gs.getD k 0 - b + 1 - (f - gs.getD k 0)).toNat).map fun j => D.int (f - gs.getD k 0 + (j : Nat)) from rfl]
    refine w_dcK (fun j : Nat => (tot th bk k + (f - gs.getD k 0 + (j : Nat))) % c) rfl (by rw [List.length_range]; unfold lineN; omega) (fun j hj => ⟨_, rfl, rfl, ?_⟩) ?_
    · fail "SA"
      exact ⟨rfl, rfl, w_pure ⟨rfl, rfl⟩⟩
    fail "SA"
    refine w_sortK rfl ?_ ?_
    · rcases hz with hz | hz
      · have := dd_few (c := c) (by omega) (l := (List.range (gs.getD k 0 - b + 1 - (f - gs.getD k 0)).toNat).map fun j : Nat => (tot th bk k + (f - gs.getD k 0 + (j : Nat))) % c) fun x hx => by
          obtain ⟨j, _, rfl⟩ := List.mem_map.mp hx
          exact ⟨Int.emod_nonneg _ (by omega), Int.emod_lt_of_pos _ (by omega)⟩
        omega
      · have := ddI_len ((List.range (gs.getD k 0 - b + 1 - (f - gs.getD k 0)).toNat).map fun j : Nat => (tot th bk k + (f - gs.getD k 0 + (j : Nat))) % c)
        rw [List.length_map, List.length_range] at this
        omega
    fail "SA"
    exact q
theorem sp_com {ks : List Nat} {g : D} (hg : g = .lst (nl ks) ∨ g = .tup (nl ks)) (h : Rd c gs th bk) (hk : ∀ k ∈ ks, k < gs.length) (hf : 1 ≤ f ∧ f ≤ c) (hb : 1 ≤ b ∧ b ≤ c) (hz : ∀ k, k < gs.length → c < 64 ∨ 2 * gs.getD k 0 - f - b + 1 < 64) (q : Q (.ol (nl (com c gs th bk f b ks))) s) : wm (callN 4 F_common_seconds [rdI c gs th bk, g, .int f, .int b]) s Q := by
  refine w_call r_common_seconds rfl ?_
  show ws m_common_seconds ⟨[some (.sh (rdI c gs th bk)), some (.sh g), some (.sh (.int f)), some (.sh (.int b)), none, none, none, none], s.st⟩ _ _ _ _
  have c0 := h.c0
  have c1 := h.c1
  unfold m_common_seconds
  fail "SA"
  have e2 : rgD 0 c.toNat = nl (com c gs th bk f b (ks.take 0)) := by
    rw [rgD_map]
    show _ = nl ((List.range c.toNat).filter fun s => true)
    rw [List.filter_eq_self.mpr (fun _ _ => rfl)]
    exact List.map_congr_left fun i _ => by rw [Int.zero_add]
  rw [e2]
  have hI : ws (forB (asN 5) (seqS (agS (sM (dM (dcM (itM (dM (fnM (consM (escN 0) (consM (escN 5) (consM (escN 2) (consM (escN 3) nilM)))) (callN 4 F_arc_by)))) [7] (asN 7) yesM (escN 7) (pure (D.bl true))))) (asN 6)) (seqS (agS (lcM (itM (escN 4)) [7] (asN 7) (cmpT (escN 7) (escN 6) (gIn2 false)) (escN 7)) (asN 4)) nilS)) (nl ks))
      ⟨[some (.sh (rdI c gs th bk)), some (.sh g), some (.sh (.int f)), some (.sh (.int b)), some (.ol (nl (com c gs th bk f b (ks.take 0)))), none, none, none], s.st⟩ (fun s' => ∃ o5 o6 o7, s' = ⟨[some (.sh (rdI c gs th bk)), some (.sh g), some (.sh (.int f)), some (.sh (.int b)), some (.ol (nl (com c gs th bk f b ks))), o5, o6, o7], s.st⟩) (fun l s' => Q l ⟨s.sl, s'.st⟩) (fun _ => False) (fun _ => False) := by
    refine s_forL (fun (i : Nat) (s' : S) => ∃ (o5 o6 o7 : Option L), s' = ⟨[some (.sh (rdI c gs th bk)), some (.sh g), some (.sh (.int f)), some (.sh (.int b)), some (.ol (nl (com c gs th bk f b (ks.take i)))), o5, o6, o7], s.st⟩) ⟨_, _, _, rfl⟩ (fun i hi s' ⟨o5, o6, o7, hS⟩ => ?_) (fun s' ⟨o5, o6, o7, hS⟩ => ?_)
    · subst hS
      have hki := hk _ (List.getElem_mem hi)
      fail "SA"
      refine sp_arc h hki hf hb (hz _ hki) ?_
      fail "SA"
      refine w_dcK (fun x : Int => x) rfl ?_ (fun x hx => ⟨_, rfl, rfl, ?_⟩) ?_
      · unfold arcL lineN
        split
        · rw [List.length_map, List.length_range]; omega
        · split
          · simp
          · rw [(sortI_perm _).length_eq]
            have := ddI_len (arcR c gs th bk f b ks[i])
            have hgk := h.g0 _ (getD_mem' hki)
            unfold arcR at this ⊢
            rw [List.length_map, List.length_range] at this
            omega
      · fail "SA"
        exact ⟨rfl, rfl, w_pure ⟨rfl, rfl⟩⟩
      fail "SA"
      refine w_lcG (fun x : Nat => decide ((x : Int) ∈ arcL c gs th bk f b ks[i])) (fun x : Nat => D.int (x : Nat)) rfl ?_ (fun x hx => ⟨_, rfl, rfl, ?_⟩) ?_
      · have := List.length_filter_le (fun s : Nat => (ks.take i).all fun k => decide ((s : Int) ∈ arcL c gs th bk f b k)) (List.range c.toNat)
        rw [List.length_range] at this
        unfold com lineN
        omega
      · fail "SA"
        refine ⟨rfl, ?_, fun _ => ?_⟩
        · show decide _ = decide _
          rw [decide_eq_decide, ddI_mem]
          simp
        fail "SA"
        exact ⟨rfl, rfl⟩
      fail "SA"
      have e3 : (com c gs th bk f b (ks.take i)).filter (fun x : Nat => decide ((x : Int) ∈ arcL c gs th bk f b ks[i])) = com c gs th bk f b (ks.take (i + 1)) := by
        unfold com
        rw [List.filter_filter, take_get hi]
        refine List.filter_congr fun x _ => ?_
        rw [List.all_append]
        simp [Bool.and_comm]
      rw [e3]
      exact ⟨_, _, _, rfl⟩
    · subst hS
      rw [List.take_length]
      exact ⟨_, _, _, rfl⟩
  rcases hg with rfl | rfl
  all_goals fail "SA"
  all_goals refine ws_mono hI (fun s' ⟨o5, o6, o7, hS⟩ => ?_) (fun _ _ h => h) (fun _ h => h) (fun _ h => h)
  all_goals subst hS
  all_goals fail "SA"
  all_goals exact q
end
/-! bands: plain facts -/
theorem run_fits {c g f x : Int} (hc : 0 < c) (hg : g < c) (hf : 1 ≤ f) : (∀ at' : Nat, (at' : Int) < f → (x + at') % c < g) ↔ x % c + f ≤ g := by
  have e := Int.mul_ediv_add_emod x c
  have r0 := Int.emod_nonneg x (show c ≠ 0 by omega)
  have r1 := Int.emod_lt_of_pos x hc
  have key : ∀ a : Nat, (x + a) % c = (x % c + a) % c := fun a => by
    conv => lhs; rw [show x + (a : Int) = (x % c + a) + c * (x / c) by omega, Int.add_mul_emod_self_left]
  constructor
  · intro h
    have h0 := h 0 (by omega)
    rw [key] at h0
    rw [show x % c + ((0 : Nat) : Int) = x % c by omega, Int.emod_emod_of_dvd x (Int.dvd_refl c)] at h0
    by_cases hn : x % c + f ≤ g
    · exact hn
    have h1 := h (g - x % c).toNat (by omega)
    rw [key, show x % c + ((g - x % c).toNat : Int) = g by omega, Int.emod_eq_of_lt (by omega) hg] at h1
    omega
  · intro h a ha
    rw [key, Int.emod_eq_of_lt (by omega) (by omega)]
    omega
def lfit (c : Int) (gs th bk : List Int) (f b : Int) (k : Nat) (later o : Int) : Prop := (∀ a : Nat, (a : Int) < f → (pre th k + a - o) % c < gs.getD k 0) ∧ ∀ a : Nat, (a : Int) < b → (later - pre bk k + a - o) % c < gs.getD k 0
theorem lfit_iff {c : Int} {gs th bk : List Int} {f b : Int} {k : Nat} {later o : Int} (hc : 0 < c) (hg : gs.getD k 0 < c) (hf : 1 ≤ f) (hb : 1 ≤ b) : lfit c gs th bk f b k later o ↔ (pre th k - o) % c + f ≤ gs.getD k 0 ∧ (later - pre bk k - o) % c + b ≤ gs.getD k 0 := by
  unfold lfit
  rw [← run_fits hc hg hf, ← run_fits hc hg hb]
  have e1 : ∀ a : Nat, pre th k + a - o = pre th k - o + a := fun a => by omega
  have e2 : ∀ a : Nat, later - pre bk k + a - o = later - pre bk k - o + a := fun a => by omega
  simp only [e1, e2]
section
variable {c f b : Int} {gs th bk : List Int}
theorem off_ok {k : Nat} {later : Int} (h : Rd c gs th bk) (hk : k < gs.length) (hf : 1 ≤ f) (hb : 1 ≤ b) (ha : later ∈ arcL c gs th bk f b k) : 0 ≤ offF c gs th bk f b later k ∧ offF c gs th bk f b later k < c ∧ lfit c gs th bk f b k later (offF c gs th bk f b later k) := by
  have c0 := h.c0
  obtain ⟨g0, g1⟩ := h.g0 _ (getD_mem' hk)
  unfold offF
  unfold arcL at ha
  by_cases hgc : gs.getD k 0 = c
  · rw [if_pos hgc]
    refine ⟨by omega, by omega, fun a _ => ?_, fun a _ => ?_⟩ <;> rw [hgc] <;> exact Int.emod_lt_of_pos _ (by omega)
  rw [if_neg hgc] at ha ⊢
  by_cases hs : gs.getD k 0 < f ∨ gs.getD k 0 < b
  · rw [if_pos hs] at ha; cases ha
  rw [if_neg hs, (sortI_perm _).mem_iff, ddI_mem] at ha
  obtain ⟨m, hm, e⟩ := List.mem_map.mp ha
  rw [List.mem_range] at hm
  have r1 := Int.mul_ediv_add_emod (tot th bk k + (f - gs.getD k 0 + (m : Nat))) c
  rw [e] at r1
  cases hfd : (List.range (gs.getD k 0 - f + 1).toNat).find? fun j => decide ((later - pre bk k - (pre th k - (j : Nat)) % c) % c ≤ gs.getD k 0 - b) with
  | some j =>
    dsimp only
    have h1 := List.find?_some hfd
    have h2 := List.mem_range.mp (List.mem_of_find?_eq_some hfd)
    rw [decide_eq_true_eq] at h1
    refine ⟨Int.emod_nonneg _ (by omega), Int.emod_lt_of_pos _ (by omega), (lfit_iff (by omega) (by omega) hf hb).mpr ⟨?_, by omega⟩⟩
    have r2 := Int.mul_ediv_add_emod (pre th k - (j : Nat)) c
    rw [show pre th k - (pre th k - (j : Nat)) % c = (j : Int) + c * ((pre th k - (j : Nat)) / c) by omega, Int.add_mul_emod_self_left, Int.emod_eq_of_lt (by omega) (by omega)]
    omega
  | none =>
    exfalso
    rw [List.find?_eq_none] at hfd
    -- the place that does
    have key : ∀ j : Nat, (later - pre bk k - (pre th k - (j : Nat)) % c) % c = (f - gs.getD k 0 + (m : Nat) + j) % c := fun j => by
      have r2 := Int.mul_ediv_add_emod (pre th k - (j : Nat)) c
      rw [show later - pre bk k - (pre th k - (j : Nat)) % c = (f - gs.getD k 0 + (m : Nat) + j) + c * ((pre th k - (j : Nat)) / c - (tot th bk k + (f - gs.getD k 0 + (m : Nat))) / c) by rw [Int.mul_sub]; unfold tot at *; omega, Int.add_mul_emod_self_left]
    by_cases hm0 : 0 ≤ f - gs.getD k 0 + (m : Nat)
    · refine hfd 0 (List.mem_range.mpr (by omega)) ?_
      rw [key, Int.emod_eq_of_lt (by omega) (by omega), decide_eq_true_eq]
      omega
    · refine hfd (-(f - gs.getD k 0 + (m : Nat))).toNat (List.mem_range.mpr (by omega)) ?_
      rw [key, show f - gs.getD k 0 + (m : Nat) + ((-(f - gs.getD k 0 + (m : Nat))).toNat : Int) = 0 by omega, Int.zero_emod, decide_eq_true_eq]
      omega
theorem arc_iff {k : Nat} {later : Int} (h : Rd c gs th bk) (hk : k < gs.length) (hf : 1 ≤ f) (hb : 1 ≤ b) : later ∈ arcL c gs th bk f b k ↔ 0 ≤ later ∧ later < c ∧ ∃ o : Nat, o < c.toNat ∧ lfit c gs th bk f b k later o := by
  have c0 := h.c0
  obtain ⟨g0, g1⟩ := h.g0 _ (getD_mem' hk)
  constructor
  · intro ha
    obtain ⟨o1, o2, o3⟩ := off_ok h hk hf hb ha
    refine ⟨?_, ?_, (offF c gs th bk f b later k).toNat, by omega, by rw [Int.toNat_of_nonneg o1]; exact o3⟩
    all_goals
      unfold arcL at ha
      split at ha
      · obtain ⟨i, hi, rfl⟩ := List.mem_map.mp ha
        have := List.mem_range.mp hi
        omega
      · split at ha
        · cases ha
        · rw [(sortI_perm _).mem_iff, ddI_mem] at ha
          obtain ⟨m, hm, rfl⟩ := List.mem_map.mp ha
          first
            | exact Int.emod_nonneg _ (by omega)
            | exact Int.emod_lt_of_pos _ (by omega)
  · rintro ⟨l0, l1, o, ho, hl⟩
    unfold arcL
    split
    · exact List.mem_map.mpr ⟨later.toNat, List.mem_range.mpr (by omega), by omega⟩
    · rename_i hgc
      obtain ⟨x1, x2⟩ := (lfit_iff (by omega) (by omega) hf hb).mp hl
      have r0 := Int.emod_nonneg (pre th k - o) (show c ≠ 0 by omega)
      have r1 := Int.emod_nonneg (later - pre bk k - o) (show c ≠ 0 by omega)
      rw [if_neg (by omega), (sortI_perm _).mem_iff, ddI_mem]
      refine List.mem_map.mpr ⟨((later - pre bk k - o) % c - (pre th k - o) % c - (f - gs.getD k 0)).toNat, List.mem_range.mpr (by omega), ?_⟩
      have e1 := Int.mul_ediv_add_emod (pre th k - o) c
      have e2 := Int.mul_ediv_add_emod (later - pre bk k - o) c
      rw [show tot th bk k + (f - gs.getD k 0 + (((later - pre bk k - o) % c - (pre th k - o) % c - (f - gs.getD k 0)).toNat : Int)) = later + c * ((pre th k - o) / c - (later - pre bk k - o) / c) by rw [Int.mul_sub]; unfold tot; omega, Int.add_mul_emod_self_left, Int.emod_eq_of_lt l0 l1]
theorem arc_lt (k : Nat) : (arcL c gs th bk f b k).Pairwise (· < ·) := by
  unfold arcL
  split
  · rw [List.pairwise_map]
    exact List.pairwise_lt_range.imp fun {a b} h => by omega
  split
  · exact .nil
  · have h1 := sortI_le (ddI (arcR c gs th bk f b k))
    have h2 : (sortI (ddI (arcR c gs th bk f b k))).Nodup := (sortI_perm _).nodup_iff.mpr (ddI_nodup _)
    exact (h1.and h2).imp fun {a b} ⟨x, y⟩ => by omega
open Classical in
/-- the arc as the law finds it -/
theorem arc_is {k : Nat} (h : Rd c gs th bk) (hk : k < gs.length) (hf : 1 ≤ f) (hb : 1 ≤ b) : arcL c gs th bk f b k = ((List.range c.toNat).filter fun i => decide (∃ o : Nat, o < c.toNat ∧ lfit c gs th bk f b k (i : Nat) o)).map fun i : Nat => (i : Int) := by
  have l2 : (((List.range c.toNat).filter fun i => decide (∃ o : Nat, o < c.toNat ∧ lfit c gs th bk f b k (i : Nat) o)).map fun i : Nat => (i : Int)).Pairwise (· < ·) := by
    rw [List.pairwise_map]
    exact (List.pairwise_lt_range.filter _).imp fun {a b} h => by omega
  have hp := (List.perm_ext_iff_of_nodup ((arc_lt k).imp (fun {a b} (h : a < b) => by omega)) (l2.imp (fun {a b} (h : a < b) => by omega))).mpr fun x => by
    rw [arc_iff h hk hf hb]
    constructor
    · rintro ⟨a1, a2, a3⟩
      refine List.mem_map.mpr ⟨x.toNat, List.mem_filter.mpr ⟨List.mem_range.mpr (by omega), ?_⟩, by omega⟩
      rw [decide_eq_true_eq, Int.toNat_of_nonneg a1]
      exact a3
    · intro hx
      obtain ⟨i, hi, rfl⟩ := List.mem_map.mp hx
      obtain ⟨h1, h2⟩ := List.mem_filter.mp hi
      rw [decide_eq_true_eq] at h2
      exact ⟨by omega, by have := List.mem_range.mp h1; omega, h2⟩
  have e1 := sortI_is hp ((arc_lt k).imp fun {a b} h => by omega)
  have e2 := sortI_is (List.Perm.refl _) (l2.imp fun {a b} (h : a < b) => by omega)
  exact e1.trans e2.symm
/-- which seconds all signals of ks let be -/
theorem com_iff {ks : List Nat} {s : Nat} : s ∈ com c gs th bk f b ks ↔ s < c.toNat ∧ ∀ k ∈ ks, (s : Int) ∈ arcL c gs th bk f b k := by
  unfold com
  rw [List.mem_filter, List.mem_range, List.all_eq_true]
  simp only [decide_eq_true_eq]
theorem com_nil (hc : 0 < c) {ks : List Nat} (h : com c gs th bk f b ks = []) : ks ≠ [] := by
  rintro rfl
  have := com_iff (c := c) (f := f) (b := b) (gs := gs) (th := th) (bk := bk) (ks := []) (s := 0)
  rw [h] at this
  have := this.mpr ⟨by omega, fun _ h => by cases h⟩
  cases this
/-- the sieve leaves a row that has nothing in common -/
theorem sieve_ok (h0 : com c gs th bk f b (List.range gs.length) = []) : com c gs th bk f b (sieve c gs th bk f b) = [] ∧ ∃ p, sieve c gs th bk f b = (List.range gs.length).filter p := by
  unfold sieve
  have key : ∀ (l : List Nat) (sig : List Nat), com c gs th bk f b sig = [] → (∃ p, sig = (List.range gs.length).filter p) → com c gs th bk f b (l.foldl (svS c gs th bk f b) sig) = [] ∧ ∃ p, l.foldl (svS c gs th bk f b) sig = (List.range gs.length).filter p := fun l => by
    induction l with
    | nil => exact fun sig h1 h2 => ⟨h1, h2⟩
    | cons k r ih =>
      intro sig h1 ⟨p, h2⟩
      refine ih _ ?_ ?_
      · unfold svS; split
        · assumption
        · exact h1
      · unfold svS; split
        · exact ⟨_, by rw [h2, List.filter_filter]⟩
        · exact ⟨p, h2⟩
  exact key _ _ h0 ⟨fun _ => true, (List.filter_eq_self.mpr fun _ _ => rfl).symm⟩
end
end Kt

namespace Kt
open PySem PySem.Spec PyProof.Rows L2 Bv
set_option hygiene false
local macro_rules | `(tactic| fail "S1") => `(tactic| (first | with_reducible refine s_seq ?_ | with_reducible refine s_nil ?_ | with_reducible refine s_ag ?_ | with_reducible refine s_rt ?_ | with_reducible refine s_ex ?_ | with_reducible refine s_for ?_ | with_reducible refine s_par2 ?_ | with_reducible refine s_par3 ?_ | with_reducible refine w_pure ?_ | with_reducible refine w_dM ?_ | with_reducible refine w_sM ?_ | with_reducible refine w_th ?_ | with_reducible refine w_fn ?_ | with_reducible refine w_rg ?_ | with_reducible refine w_it ?_ | with_reducible refine w_nil ?_ | with_reducible refine w_cons ?_ | with_reducible refine w_bin2 ?_ | with_reducible refine w_addI ?_ | with_reducible refine w_subI ?_ | with_reducible refine w_ltI ?_ | with_reducible refine w_leI ?_ | with_reducible refine w_gtI ?_ | with_reducible refine w_geI ?_ | with_reducible refine w_eqS ?_ | with_reducible refine w_neS ?_ | with_reducible refine w_eqI ?_ | with_reducible refine w_neI ?_ | with_reducible refine w_int ?_ | with_reducible refine w_ixM ?_ | with_reducible refine w_cmpT ?_ | with_reducible refine w_notT ?_ | with_reducible refine w_blT ?_ | with_reducible refine w_yes ?_ | with_reducible refine w_chM ?_ | with_reducible refine w_lcS ?_ | with_reducible refine w_itL ?_ | with_reducible refine w_ix0T ?_ | with_reducible refine w_ix0L ?_ | with_reducible refine w_ix0O ?_ | with_reducible refine w_ix1T ?_ | with_reducible refine w_ix1L ?_ | with_reducible refine w_ix1O ?_ | with_reducible refine w_ix2T ?_ | with_reducible refine w_ix2L ?_ | with_reducible refine w_ix2O ?_ | with_reducible refine w_ix3T ?_ | with_reducible refine w_ix3L ?_ | with_reducible refine w_ix3O ?_ | with_reducible refine w_itT ?_ | with_reducible refine w_itC ?_ | with_reducible refine w_lstS ?_ | with_reducible refine w_lstL ?_ | with_reducible refine w_lstT ?_ | with_reducible refine w_lstO ?_ | with_reducible refine w_tupT ?_ | with_reducible refine w_tupL ?_ | with_reducible refine w_tupO ?_ | with_reducible refine w_dd ?_ | with_reducible refine s_asT1 ?_ | with_reducible refine s_stS ?_ | with_reducible refine w_max2 ?_ | with_reducible refine w_min2 ?_ | with_reducible refine s_asT0 ?_ | with_reducible refine w_gcd ?_ | with_reducible refine w_idxM ?_ | with_reducible refine w_enW ?_ | with_reducible refine w_enT ?_ | with_reducible refine w_zpL ?_ | with_reducible refine w_zpT ?_ | with_reducible refine w_rgOf ?_ | with_reducible refine w_rgOf2 ?_ | with_reducible refine w_inN ?_ | with_reducible refine w_inLs ?_ | with_reducible refine w_inLo ?_ | with_reducible refine w_dcS ?_ | with_reducible refine w_inK ?_ | with_reducible refine w_noP ?_ | with_reducible refine w_soP ?_ | with_reducible refine w_slM ?_ | ((with_reducible apply w_esc); (focus exact rfl)) | ((with_reducible apply w_sl); (focus exact rfl)) | ((with_reducible apply s_asN); (focus (repeat (first | exact SetAt.z | apply SetAt.s)))) | ((with_reducible apply w_ixN); (focus exact rfl)) | ((with_reducible apply w_slN); (focus exact rfl)) | ((with_reducible apply w_slL); (focus exact rfl)) | ((with_reducible apply w_slT); (focus exact rfl)) | ((with_reducible apply w_escO); (focus exact rfl); (focus (repeat (first | exact SetAt.z | apply SetAt.s)))) | ((with_reducible apply w_mv); (focus exact rfl); (focus (repeat (first | exact SetAt.z | apply SetAt.s)))) | ((with_reducible refine w_modI ?_ ?_); (focus first | omega | decide)) | ((with_reducible refine w_fdvI ?_ ?_ ?_); (focus first | omega | decide); (focus first | omega | decide)) | ((with_reducible refine w_powI ?_ ?_); (focus decide)) | ((with_reducible refine w_mulI ?_ ?_); (focus first | exact .inr (by decide) | exact .inl (by decide) | exact .inr (by constructor <;> omega) | exact .inl (by constructor <;> omega))) | ((with_reducible apply w_app); (focus exact rfl)) | ((with_reducible apply w_appN); (focus exact rfl); (focus first | decide | (simp only [List.length_cons, List.length_nil]; decide)); (focus (repeat (first | exact SetAt.z | apply SetAt.s)))) | ((with_reducible apply w_isi); (focus exact rfl); (focus assumption)) | ((with_reducible apply w_isF); (focus exact rfl)) | ((with_reducible apply w_isN); (focus exact rfl)) | ((with_reducible apply w_fldS); (focus exact rfl)) | ((with_reducible apply s_stN); (focus exact rfl); (focus exact Nat.le_of_ble_eq_true rfl); (focus (repeat (first | exact SetAt.z | apply SetAt.s)))) | ((with_reducible apply w_fldO); (focus exact rfl)) | ((with_reducible refine w_rg1 ?_ ?_); (focus first | (constructor <;> omega) | decide)) | ((with_reducible refine w_rg2 ?_ ?_); (focus first | (refine ⟨?_, ?_, ?_, ?_⟩ <;> omega) | decide)) | ((with_reducible refine w_rgW ?_ ?_); (focus constructor <;> omega)) | ((with_reducible refine w_rgW2 ?_ ?_); (focus refine ⟨⟨?_, ?_⟩, ⟨?_, ?_⟩, ?_⟩ <;> omega)) | ((with_reducible refine w_addT ?_ ?_); (focus (simp only [List.length_map, List.length_replicate, List.length_cons, List.length_nil, List.length_range]; unfold lineN; omega))) | ((with_reducible refine w_mul1 ?_ ?_); (focus constructor <;> omega)) | ((with_reducible refine w_tup ?_ ?_); (focus exact Nat.le_of_ble_eq_true rfl)) | ((with_reducible refine w_lst ?_ ?_); (focus exact Nat.le_of_ble_eq_true rfl)) | ((with_reducible refine w_pen_at ?_ ?_); (focus exact rfl)) | ((with_reducible refine s_pen_at ?_ ?_ ?_); (focus exact rfl); (focus exact rfl)) | ((with_reducible refine w_pen_digits ?_ ?_); (focus exact rfl)) | ((with_reducible refine s_pen_digits ?_ ?_); (focus exact rfl)) | ((with_reducible refine w_pen_count ?_ ?_); (focus exact rfl)) | ((with_reducible refine s_pen_count ?_ ?_); (focus exact rfl)) | ((with_reducible refine w_pen_fold ?_ ?_); (focus exact rfl)) | ((with_reducible refine s_pen_fold ?_ ?_); (focus exact rfl)) | ((with_reducible refine w_pen_cells ?_ ?_); (focus exact rfl)) | with_reducible refine s_dp ?_ | with_reducible refine if_not ?_ | with_reducible refine if_tt ?_ | with_reducible refine if_ff ?_ | ((with_reducible refine if_decT ?_ ?_); (focus first | omega | (simp only [List.length_cons, List.length_nil]; omega))) | ((with_reducible refine if_decF ?_ ?_); (focus first | omega | (simp only [List.length_cons, List.length_nil]; omega))) | with_reducible refine if_dec (fun hc => ?_) (fun hc => ?_) | with_reducible refine s_if ?_ | with_reducible refine w_andT ?_ | with_reducible refine w_orT ?_ | with_reducible refine w_andM ?_ | with_reducible refine w_orM ?_ | with_reducible refine w_notM ?_ | with_reducible refine w_ifM ?_ | with_reducible refine w_truT ?_ | with_reducible refine w_negI ?_ | with_reducible refine ex_truB ?_ | with_reducible refine ⟨_, rfl, ?_⟩ | dsimp only [L.d] | ((with_reducible refine if_t ?_ ?_); (focus exact rfl)) | ((with_reducible refine if_f ?_ ?_); (focus exact rfl)) | ((with_reducible apply w_len); (focus exact .inl rfl)) | ((with_reducible apply w_len); (focus exact .inr rfl))))
local macro_rules | `(tactic| fail "SA") => `(tactic| (repeat' fail "S1"))
local macro_rules | `(tactic| fail "SR") => `(tactic| (repeat fail "S1"))
set_option hygiene true
section
variable {s : S} {Q : L → S → Prop} {c f b : Int} {gs th bk : List Int}
theorem rg_nl (m : Nat) : rgD 0 m = nl (List.range m) := by
  rw [rgD_map]
  exact List.map_congr_left fun i _ => by rw [Int.zero_add]
theorem s_forN {sl : S} {a : AS} {f : MS} {n : Nat} {N : S → Prop} {R : L → S → Prop} {B C : S → Prop} (I : Nat → S → Prop) (h0 : I 0 sl)
    (h : ∀ (i : Nat) (s' : S), i < n → I i s' → ws (asg a (.sh (.int (i : Nat)))) s' (fun s1 => ws f s1 (I (i + 1)) R N (I (i + 1))) (fun _ _ => False) (fun _ => False) (fun _ => False)) (hN : ∀ s', I n s' → N s') : ws (forB a f (nl (List.range n))) sl N R B C := by
  rw [← rg_nl]
  exact s_forR I rfl h0 h hN
/-- what bands_by tells -/
def bnF (c : Int) (gs th bk : List Int) (f b : Int) : D := match com c gs th bk f b (List.range gs.length) with
  | [] => nbI (sieve c gs th bk f b)
  | t :: _ => baI ((List.range gs.length).map (offF c gs th bk f b t)) 0 t
theorem sieve_len : (sieve c gs th bk f b).length ≤ gs.length := by
  have key : ∀ (l : List Nat) (sig : List Nat), sig.length ≤ gs.length → (l.foldl (svS c gs th bk f b) sig).length ≤ gs.length := fun l => by
    induction l with
    | nil => exact fun sig h => h
    | cons k r ih =>
      intro sig h
      refine ih _ ?_
      unfold svS; split
      · exact Nat.le_trans (List.length_filter_le _ _) h
      · exact h
  exact key _ _ (by rw [List.length_range]; exact Nat.le_refl _)
end
theorem goods_lt (c : Int) (gs os w : List Int) (sg : Int) : (goods c gs os w sg).Pairwise (· < ·) := List.pairwise_lt_range.filter _
theorem mem_goods {c : Int} {gs os w : List Int} {sg : Int} {s : Nat} : s ∈ goods c gs os w sg ↔ s < c.toNat ∧ ∀ k, k < gs.length → ((s : Int) + sg * pre w k - os.getD k 0) % c < gs.getD k 0 := by
  unfold goods good grn
  rw [List.mem_filter, List.mem_range, List.all_eq_true]
  simp only [List.mem_range, decide_eq_true_eq]
section
variable {s : S} {Q : L → S → Prop} {c : Int} {gs th bk os : List Int}
/-- what is walked by enumerate of the sums -/
theorem en_pre (w : List Int) (m : Nat) : enD 0 ((List.range m).map fun k => D.int (pre w k)) = (List.range m).map fun k => D.tup [.int (k : Nat), .int (pre w k)] := by
  rw [enD_map]
  apply List.ext_getElem?
  intro i
  rw [List.getElem?_map, List.getElem?_map, List.getElem?_zipIdx]
  by_cases h : i < m
  · rw [List.getElem?_range h]
    simp
  · rw [List.getElem?_eq_none (by rw [List.length_range]; omega)]
    rfl
def Offs (c : Int) (gs os : List Int) : Prop := os.length = gs.length ∧ ∀ o ∈ os, 0 ≤ o ∧ o < c
end
theorem FD_draw : F__law_draw = runF n__law_draw mDraw := r__law_draw
theorem FD_pick : F__law_pick = runF n__law_pick (mPick F__law_draw) := r__law_pick
theorem FD_pen : F__law_pen = runF n__law_pen mPen := r__law_pen
theorem sp_draw {s : S} {p : Pen} (hs : s.st = [.dic p.fs]) {many : Int} (h0 : 0 < many) (h1 : many < 1073741824) {Q : L → S → Prop} (q : ∀ (x : Int) (p' : Pen), 0 ≤ x → x < many → Q (.sh (.int x)) ⟨s.sl, [.dic p'.fs]⟩) : wm (callN 2 F__law_draw [.mref 0, .int many]) s Q := draw_ok FD_draw rfl hs h0 h1 q
theorem sp_pick {s : S} {p : Pen} (hs : s.st = [.dic p.fs]) {ds : List D} (h0 : 0 < ds.length) (h1 : ds.length < 1073741824) {Q : L → S → Prop} (q : ∀ (d : D) (p' : Pen), d ∈ ds → Q (.sh d) ⟨s.sl, [.dic p'.fs]⟩) : wm (callN 2 F__law_pick [.mref 0, .lst ds]) s Q := pick_ok FD_pick rfl FD_draw rfl hs h0 h1 q
theorem all_get {P : Int → Prop} {xs : List Int} (h : ∀ (i : Nat) (x : Int), xs[i]? = some x → P x) : ∀ x ∈ xs, P x := fun x hx => by
  obtain ⟨i, hi⟩ := List.getElem?_of_mem hx
  exact h i x hi
theorem sp_drawn {s : S} {p : Pen} (hs : s.st = [.dic p.fs]) {most : Int} (h0 : 0 < most) (h1 : most ≤ 7) {cs : List Int} (hcs : 0 < cs.length) (hcs2 : cs.length < 100) (hc : ∀ c ∈ cs, 2 ≤ c ∧ c ≤ 240) {Q : L → S → Prop}
    (q : ∀ (c : Int) (gs th bk : List Int) (p' : Pen), c ∈ cs → Rd c gs th bk → (gs.length : Int) ≤ most → Q (.sh (rdT c gs th bk)) ⟨s.sl, [.dic p'.fs]⟩) : wm (callN 3 F__law_drawn_road [.mref 0, .int most, .lst (cs.map D.int)]) s Q := by
  refine w_call r__law_drawn_road rfl ?_
  rw [hs]
  show ws m__law_drawn_road ⟨[some (.sh (.mref 0)), some (.sh (.int most)), some (.sh (.lst (cs.map D.int))), none, none, none, none, none, none, none], [.dic p.fs]⟩ _ _ _ _
  unfold m__law_drawn_road
  fail "SA"
  refine sp_draw rfl h0 (by omega) fun x p1 hx0 hx1 => ?_
  fail "SA"
  refine sp_pick rfl (by rw [List.length_map]; exact hcs) (by rw [List.length_map]; omega) fun d p2 hd => ?_
  obtain ⟨c, hc1, rfl⟩ := List.mem_map.mp hd
  obtain ⟨hc2, hc3⟩ := hc c hc1
  fail "SA"
  refine s_forR (n := (1 + x).toNat) (fun (i : Nat) (s' : S) => ∃ (gs : List Int) (p' : Pen) (o6 o7 o8 o9 : Option L), (gs.length = i) ∧ (∀ g ∈ gs, 1 ≤ g ∧ g ≤ c) ∧ s' = ⟨[some (.sh (.mref 0)), some (.sh (.int most)), some (.sh (.lst (cs.map D.int))), some (.sh (.int (1 + x))), some (.sh (.int c)), some (.ol (gs.map D.int)), o6, o7, o8, o9], [.dic p'.fs]⟩) rfl ⟨[], p2, _, _, _, _, rfl, by simp, rfl⟩ (fun i s' hi ⟨gs, p', o6, o7, o8, o9, hl, hg, hS⟩ => ?_) (fun s' ⟨gs, p', o6, o7, o8, o9, hl, hg, hS⟩ => ?_)
  · subst hS
    fail "SA"
    refine sp_draw rfl (by omega) (by omega) fun y p3 hy0 hy1 => ?_
    fail "SA"
    refine sp_pick rfl (by simp only [List.length_cons, List.length_nil]; decide) (by simp only [List.length_cons, List.length_nil]; decide) fun d p4 hd4 => ?_
    obtain ⟨gr, hgr, hgr1, hgr2⟩ : ∃ gr : Int, d = .int gr ∧ 1 ≤ gr ∧ gr ≤ c := by
      simp only [List.mem_cons, List.not_mem_nil, or_false] at hd4
      rcases hd4 with e | e | e | e
      · exact ⟨_, e, by omega, by omega⟩
      · refine ⟨_, e, ?_, ?_⟩ <;> split <;> omega
      · refine ⟨_, e, ?_, ?_⟩ <;> split <;> omega
      · exact ⟨_, e, by omega, by omega⟩
    subst hgr
    fail "SA"
    refine w_appN rfl (by rw [List.length_map, hl]; unfold lineN; omega) (.s (.s (.s (.s (.s .z))))) ?_
    fail "SA"
    refine ⟨gs ++ [gr], p4, _, _, _, _, by rw [List.length_append, hl]; rfl, fun g hg2 => ?_, by rw [List.map_append]; rfl⟩
    rcases List.mem_append.mp hg2 with hg2 | hg2
    · exact hg g hg2
    · rw [List.mem_singleton.mp hg2]; exact ⟨hgr1, hgr2⟩
  · subst hS
    fail "SA"
    refine w_lcW D.int (fun p : Pen => [.dic p.fs]) (fun _ x => 0 ≤ x) rfl (by rw [rgD_len]; unfold lineN; omega) (fun i d p hd => ⟨_, rfl, rfl, ?_⟩) (fun th p5 hth hth0 => ?_)
    · fail "SA"
      refine sp_draw rfl (by omega) (by omega) fun y p6 hy0 hy1 => ?_
      fail "SA"
      exact ⟨p6, y, rfl, rfl, hy0⟩
    rw [rgD_len] at hth
    have hth1 := all_get hth0
    fail "SA"
    refine s_forR (n := (1 + x - 1).toNat) (fun (i : Nat) (s' : S) => ∃ (bk : List Int) (p' : Pen) (o1 o2 o6 o7 : Option L), (bk.length = i) ∧ (∀ y ∈ bk, 0 ≤ y) ∧ s' = ⟨[some (.sh (.mref 0)), o1, o2, some (.sh (.int (1 + x))), some (.sh (.int c)), some (.ol (gs.map D.int)), o6, o7, some (.sh (.lst (th.map D.int))), some (.ol (bk.map D.int))], [.dic p'.fs]⟩) rfl ⟨[], p5, _, _, _, _, rfl, by simp, rfl⟩ (fun i s' hi ⟨bk, p', o1, o2, o6, o7, hlb, hb, hS⟩ => ?_) (fun s' ⟨bk, p', o1, o2, o6, o7, hlb, hb, hS⟩ => ?_)
    · subst hS
      fail "SA"
      refine w_ixW (.inl rfl) (atG (by omega)) ?_
      fail "SA"
      refine sp_draw rfl (by omega) (by omega) fun y p6 hy0 hy1 => ?_
      fail "SA"
      refine sp_pick rfl (by simp only [List.length_cons, List.length_nil]; decide) (by simp only [List.length_cons, List.length_nil]; decide) fun d p7 hd7 => ?_
      obtain ⟨v, rfl, hv⟩ : ∃ v : Int, d = .int v ∧ 0 ≤ v := by
        simp only [List.mem_cons, List.not_mem_nil, or_false] at hd7
        rcases hd7 with e | e
        · exact ⟨_, e, hth1 _ (getD_mem' (by omega))⟩
        · exact ⟨_, e, hy0⟩
      fail "SA"
      refine w_appN rfl (by rw [List.length_map, hlb]; unfold lineN; omega) (.s (.s (.s (.s (.s (.s (.s (.s (.s .z))))))))) ?_
      fail "SA"
      refine ⟨bk ++ [v], p7, _, _, _, _, by rw [List.length_append, hlb]; rfl, fun g hg2 => ?_, by rw [List.map_append]; rfl⟩
      rcases List.mem_append.mp hg2 with hg2 | hg2
      · exact hb g hg2
      · rw [List.mem_singleton.mp hg2]; exact hv
    · subst hS
      fail "SA"
      exact q c gs th bk p' hc1 ⟨hc2, hc3, by omega, by omega, by omega, by omega, hg, hth1, hb⟩ (by omega)
/-! the law -/
theorem is_hF : ∀ j, F__law_iss (j + 1) = runF n__law_is (mIs isiL (F__law_iss j)) := fun j => congrArg (runF n__law_is) (e__law_is (F__law_iss j))
theorem is_tab : ∀ e ∈ isTab, isiT isiL [e.1] (.b e.2.1) = some e.2.2 := by decide +kernel
theorem sp_is {d : D} (h : Pln 2 d) {s : S} {Q : L → S → Prop} (q : Q (.sh (.bl true)) s) : wm (callN 2 F__law_is [d, d]) s Q := is_ok is_tab is_hF rfl 2 d h s Q q
theorem pln_ints {α : Type} {j : Nat} (f : α → Int) (l : List α) (hl : l.length ≤ lineN) : Pln (j + 1) (.tup (l.map fun x => D.int (f x))) := .tup (fun d h => by obtain ⟨x, _, rfl⟩ := List.mem_map.mp h; exact .int _ _) (by rw [List.length_map]; exact hl)
theorem pln_two {d e : D} {j : Nat} (h1 : Pln j d) (h2 : Pln j e) : Pln (j + 1) (.tup [d, e]) := .tup (fun x h => by simp only [List.mem_cons, List.not_mem_nil, or_false] at h; rcases h with rfl | rfl; exact h1; exact h2) (by simp only [List.length_cons, List.length_nil]; unfold lineN; omega)
theorem goods_sz {c : Int} {gs th bk os w : List Int} {sg : Int} (h : Rd c gs th bk) : (goods c gs os w sg).length ≤ lineN := by
  have c1 := h.c1
  have := List.length_filter_le (good c gs os w sg) (List.range c.toNat)
  rw [List.length_range] at this
  unfold goods lineN
  omega
theorem sp_made {c : Int} {gs th bk : List Int} (h : Rd c gs th bk) {s : S} {Q : L → S → Prop} (q : Q (.oi false "Road" (rdF c gs th bk)) s) : wm (callN 1 F__law_made_road [rdT c gs th bk]) s Q := by
  refine w_call r__law_made_road rfl ?_
  show ws m__law_made_road ⟨[some (.sh (rdT c gs th bk))], s.st⟩ _ _ _ _
  unfold m__law_made_road
  fail "SA"
  refine sp_make h ?_
  fail "SA"
  exact q
open Classical in
noncomputable def lP (c : Int) (gs th bk : List Int) (f b : Int) (k i : Nat) : Bool := decide (∃ o : Nat, o < c.toNat ∧ lfit c gs th bk f b k (i : Nat) o)
open Classical in
noncomputable def lQ (c : Int) (gs th bk : List Int) (f b : Int) (k i j : Nat) : List Nat := if ∃ o : Nat, o < j ∧ lfit c gs th bk f b k (i : Nat) o then [i] else []
theorem nl_cast (l : List Nat) : nl l = (l.map fun i : Nat => (i : Int)).map D.int := by rw [List.map_map]; rfl
theorem map_nl (l : List Nat) : (l.map fun i : Nat => D.int (i : Nat)) = nl l := rfl
section
variable {s : S} {Q : L → S → Prop} {c f b : Int} {gs th bk os : List Int}
theorem arc_lP {k : Nat} (h : Rd c gs th bk) (hk : k < gs.length) (hf : 1 ≤ f) (hb : 1 ≤ b) : (arcL c gs th bk f b k).map D.int = nl ((List.range c.toNat).filter (lP c gs th bk f b k)) := by
  rw [arc_is h hk hf hb, nl_cast]
  rfl
theorem w_eqNl {l : List Nat} (q : Q (.sh (.bl (decide (l = [])))) s) : wm (gEq (.lst (nl l)) (.lst [])) s Q := by
  rw [nl_cast]
  refine w_eqE (e := fun xs : List Int => .lst (xs.map D.int)) (y := []) (emb_lst emb_int) (by decide) (fun _ _ => trivial) (fun _ _ => trivial) ?_
  have e : decide (l.map (fun i : Nat => (i : Int)) = []) = decide (l = []) := by rw [decide_eq_decide]; simp
  rw [e]; exact q
theorem w_neNl {l : List Nat} (q : Q (.sh (.bl (!decide (l = [])))) s) : wm (gNe (.lst (nl l)) (.lst [])) s Q := by
  rw [nl_cast]
  refine w_neE (e := fun xs : List Int => .lst (xs.map D.int)) (y := []) (emb_lst emb_int) (by decide) (fun _ _ => trivial) (fun _ _ => trivial) ?_
  have e : decide (l.map (fun i : Nat => (i : Int)) = []) = decide (l = []) := by rw [decide_eq_decide]; simp
  rw [e]; exact q
theorem w_inL {x : Int} {l : List Nat} {g : D} {neg : Bool} (hg : g = .lst (nl l) ∨ g = .tup (nl l)) (q : Q (.sh (.bl (if neg then !decide (x ∈ l.map fun i : Nat => (i : Int)) else decide (x ∈ l.map fun i : Nat => (i : Int))))) s) : wm (gIn2 neg (.int x) g) s Q := by
  rcases hg with rfl | rfl <;> rw [nl_cast]
  · exact w_inD (emb_int.inL (by decide) trivial fun _ _ => trivial).1 q
  · exact w_inD (emb_int.inL (by decide) trivial fun _ _ => trivial).2 q
theorem sp_lgr2 {k : Nat} {x o : Int} {ds : List D} (h : Rd c gs th bk) (hk : k < gs.length) (ho : ds[k]? = some (.int o)) (q : Q (.sh (.bl (decide ((x - o) % c < gs.getD k 0)))) s) : wm (callN 4 F__law_is_green [rdT c gs th bk, .tup ds, .int (k : Nat), .int x]) s Q := by
  refine w_call r__law_is_green rfl ?_
  show ws m__law_is_green ⟨[some (.sh (rdT c gs th bk)), some (.sh (.tup ds)), some (.sh (.int (k : Nat))), some (.sh (.int x))], s.st⟩ _ _ _ _
  unfold m__law_is_green
  have c0 := h.c0
  fail "SA"
  refine w_ixW (.inr rfl) (atI_nat ho) ?_
  fail "SA"
  refine w_ixW (.inr rfl) (atG hk) ?_
  fail "SA"
  exact q
theorem fil_nil {m : Nat} {P : Nat → Prop} [DecidablePred P] : ((List.range m).filter fun a => !decide (P a)) = [] ↔ ∀ a, a < m → P a := by
  rw [List.filter_eq_nil_iff]
  simp
theorem sp_larc {k : Nat} (h : Rd c gs th bk) (hk : k < gs.length) (hf : 1 ≤ f ∧ f ≤ c) (hb : 1 ≤ b ∧ b ≤ c) (q : Q (.ol ((arcL c gs th bk f b k).map D.int)) s) : wm (callN 4 F__law_arc [rdT c gs th bk, .int (k : Nat), .int f, .int b]) s Q := by
  refine w_call r__law_arc rfl ?_
  show ws m__law_arc ⟨[some (.sh (rdT c gs th bk)), some (.sh (.int (k : Nat))), some (.sh (.int f)), some (.sh (.int b)), none, none, none, none, none, none, none, none, none], s.st⟩ _ _ _ _
  rw [arc_lP h hk hf.1 hb.1] at q
  have c0 := h.c0
  have c1 := h.c1
  have m1 := h.m1
  have lt := h.lt
  have lb := h.lb
  unfold m__law_arc
  fail "SA"
  rw [pre_cut (by omega)]
  refine w_sum (.inr rfl) ?_
  fail "SA"
  rw [pre_cut (by omega)]
  refine w_sum (.inr rfl) ?_
  fail "SA"
  refine s_forR (n := c.toNat) (fun (i : Nat) (s' : S) => ∃ (o7 o8 o9 o10 o12 : Option L), s' = ⟨[some (.sh (rdT c gs th bk)), some (.sh (.int (k : Nat))), some (.sh (.int f)), some (.sh (.int b)), some (.sh (.int (pre th k))), some (.sh (.int (pre bk k))), some (.ol (nl ((List.range i).filter (lP c gs th bk f b k)))), o7, o8, o9, o10, none, o12], s.st⟩) rfl ⟨_, _, _, _, _, rfl⟩ (fun i s' hi ⟨o7, o8, o9, o10, o12, hS⟩ => ?_) (fun s' ⟨o7, o8, o9, o10, o12, hS⟩ => ?_)
  · subst hS
    fail "SA"
    have z0 : lQ c gs th bk f b k i 0 = [] := by unfold lQ; rw [if_neg (by rintro ⟨o, z, _⟩; omega)]
    refine s_forR (n := c.toNat) (fun (j : Nat) (s' : S) => ∃ (o8 o9 o10 o12 : Option L), s' = ⟨[some (.sh (rdT c gs th bk)), some (.sh (.int (k : Nat))), some (.sh (.int f)), some (.sh (.int b)), some (.sh (.int (pre th k))), some (.sh (.int (pre bk k))), some (.ol (nl ((List.range i).filter (lP c gs th bk f b k) ++ lQ c gs th bk f b k i j))), some (.sh (.int (i : Nat))), o8, o9, o10, none, o12], s.st⟩) rfl ⟨_, _, _, _, by rw [z0, List.append_nil]⟩ (fun j s' hj ⟨o8, o9, o10, o12, hS⟩ => ?_) (fun s' ⟨o8, o9, o10, o12, hS⟩ => ?_)
    · subst hS
      have hrep : (List.replicate k (D.int 0) ++ [D.int (j : Nat)])[k]? = some (.int (j : Nat)) := by
        rw [List.getElem?_append_right (by rw [List.length_replicate]; exact Nat.le_refl _), List.length_replicate, Nat.sub_self]
        rfl
      fail "SA"
      rw [Int.toNat_natCast]
      fail "SA"
      refine w_lcR (fun a => !decide ((pre th k + (a : Nat) - (j : Nat)) % c < gs.getD k 0)) (fun a => D.int (a : Nat)) rfl (by unfold lineN; omega) (fun a ha => ⟨_, rfl, rfl, ?_⟩) ?_
      · fail "SA"
        refine sp_lgr2 h hk hrep ?_
        fail "SA"
        refine ⟨rfl, rfl, fun _ => ?_⟩
        fail "SA"
        exact ⟨rfl, rfl⟩
      fail "SA"
      refine w_lcR (fun a => !decide (((i : Nat) - pre bk k + (a : Nat) - (j : Nat)) % c < gs.getD k 0)) (fun a => D.int (a : Nat)) rfl (by unfold lineN; omega) (fun a ha => ⟨_, rfl, rfl, ?_⟩) ?_
      · fail "SA"
        refine sp_lgr2 h hk hrep ?_
        fail "SA"
        refine ⟨rfl, rfl, fun _ => ?_⟩
        fail "SA"
        exact ⟨rfl, rfl⟩
      fail "SA"
      refine w_eqNl ?_
      have f1 : ((List.range f.toNat).filter fun a => !decide ((pre th k + (a : Nat) - (j : Nat)) % c < gs.getD k 0)) = [] ↔ ∀ a : Nat, (a : Int) < f → (pre th k + a - (j : Nat)) % c < gs.getD k 0 := by
        rw [fil_nil]
        exact forall_congr' fun a => imp_congr (by omega) Iff.rfl
      have f2 : ((List.range b.toNat).filter fun a => !decide (((i : Nat) - pre bk k + (a : Nat) - (j : Nat)) % c < gs.getD k 0)) = [] ↔ ∀ a : Nat, (a : Int) < b → ((i : Nat) - pre bk k + a - (j : Nat)) % c < gs.getD k 0 := by
        rw [fil_nil]
        exact forall_congr' fun a => imp_congr (by omega) Iff.rfl
      have hno : ¬ lfit c gs th bk f b k (i : Nat) (j : Nat) → lQ c gs th bk f b k i (j + 1) = lQ c gs th bk f b k i j := fun hn => by
        unfold lQ
        have : (∃ o : Nat, o < j + 1 ∧ lfit c gs th bk f b k (i : Nat) o) ↔ ∃ o : Nat, o < j ∧ lfit c gs th bk f b k (i : Nat) o := by
          refine ⟨fun ⟨o, h1, h2⟩ => ⟨o, ?_, h2⟩, fun ⟨o, h1, h2⟩ => ⟨o, by omega, h2⟩⟩
          by_cases hoj : o = j
          · subst hoj; exact absurd h2 hn
          · omega
        by_cases hx : ∃ o : Nat, o < j ∧ lfit c gs th bk f b k (i : Nat) o
        · rw [if_pos hx, if_pos (this.mpr hx)]
        · rw [if_neg hx, if_neg (fun z => hx (this.mp z))]
      by_cases a1 : ∀ a : Nat, (a : Int) < f → (pre th k + a - (j : Nat)) % c < gs.getD k 0
      · rw [decide_eq_true (f1.mpr a1)]
        fail "SA"
        refine w_eqNl ?_
        by_cases a2 : ∀ a : Nat, (a : Int) < b → ((i : Nat) - pre bk k + a - (j : Nat)) % c < gs.getD k 0
        · rw [decide_eq_true (f2.mpr a2)]
          have hyes : lQ c gs th bk f b k i (j + 1) = [i] := by unfold lQ; rw [if_pos ⟨j, by omega, a1, a2⟩]
          fail "SA"
          refine w_inL (.inl rfl) ?_
          have hmem : ((i : Int) ∈ ((List.range i).filter (lP c gs th bk f b k) ++ lQ c gs th bk f b k i j).map fun i : Nat => (i : Int)) ↔ lQ c gs th bk f b k i j ≠ [] := by
            rw [List.mem_map]
            constructor
            · rintro ⟨y, hy, e⟩
              obtain rfl : y = i := by omega
              rcases List.mem_append.mp hy with hy | hy
              · have := List.mem_range.mp (List.mem_filter.mp hy).1; omega
              · intro z; rw [z] at hy; cases hy
            · intro hne
              refine ⟨i, List.mem_append_right _ ?_, rfl⟩
              unfold lQ at hne ⊢
              split
              · simp
              · rename_i hx; rw [if_neg hx] at hne; exact absurd rfl hne
          by_cases hq : lQ c gs th bk f b k i j = []
          · rw [decide_eq_false (fun z => hmem.mp z hq)]
            fail "SA"
            refine w_appN rfl ?_ (.s (.s (.s (.s (.s (.s .z)))))) ?_
            · rw [hq, List.append_nil, List.length_map]
              have := List.length_filter_le (lP c gs th bk f b k) (List.range i)
              rw [List.length_range] at this
              unfold lineN; omega
            fail "SA"
            have e9 : nl ((List.range i).filter (lP c gs th bk f b k) ++ lQ c gs th bk f b k i (j + 1)) = nl ((List.range i).filter (lP c gs th bk f b k) ++ lQ c gs th bk f b k i j) ++ [D.int (i : Nat)] := by
              rw [hyes, hq, List.append_nil, nl, nl, List.map_append]
              rfl
            rw [e9]
            exact ⟨_, _, _, _, rfl⟩
          · rw [decide_eq_true (hmem.mpr hq)]
            fail "SA"
            have : lQ c gs th bk f b k i j = [i] := by
              unfold lQ at hq ⊢
              split
              · rfl
              · rename_i hx; rw [if_neg hx] at hq; exact absurd rfl hq
            rw [hyes, this]
            exact ⟨_, _, _, _, rfl⟩
        · rw [decide_eq_false (fun z => a2 (f2.mp z))]
          fail "SA"
          rw [hno fun z => a2 z.2]
          exact ⟨_, _, _, _, rfl⟩
      · rw [decide_eq_false (fun z => a1 (f1.mp z))]
        fail "SA"
        rw [hno fun z => a1 z.1]
        exact ⟨_, _, _, _, rfl⟩
    · subst hS
      fail "SA"
      have : ((List.range i).filter (lP c gs th bk f b k) ++ lQ c gs th bk f b k i c.toNat) = (List.range (i + 1)).filter (lP c gs th bk f b k) := by
        rw [List.range_succ, List.filter_append, List.filter_cons]
        congr 1
        classical
        unfold lQ lP
        by_cases hx : ∃ o : Nat, o < c.toNat ∧ lfit c gs th bk f b k (i : Nat) o
        · rw [if_pos hx, decide_eq_true hx]; rfl
        · rw [if_neg hx, decide_eq_false hx]; rfl
      rw [this]
      exact ⟨_, _, _, _, _, rfl⟩
  · subst hS
    fail "SA"
    exact q
end
section
variable {s : S} {Q : L → S → Prop} {c f b : Int} {gs th bk os : List Int}
theorem arc_len {k : Nat} (h : Rd c gs th bk) (hk : k < gs.length) : (arcL c gs th bk f b k).length ≤ lineN := by
  have c0 := h.c0
  have c1 := h.c1
  have hgk := h.g0 _ (getD_mem' hk)
  have := nodup_le (arcL c gs th bk f b k) ((List.range c.toNat).map fun i : Nat => (i : Int)) ((arc_lt k).imp fun {a b} (z : a < b) => by omega) fun x hx => by
    unfold arcL at hx
    split at hx
    · exact hx
    · split at hx
      · cases hx
      · rw [(sortI_perm _).mem_iff, ddI_mem] at hx
        obtain ⟨j, _, rfl⟩ := List.mem_map.mp hx
        have e1 := Int.emod_nonneg (tot th bk k + (f - gs.getD k 0 + (j : Nat))) (show c ≠ 0 by omega)
        have e2 := Int.emod_lt_of_pos (tot th bk k + (f - gs.getD k 0 + (j : Nat))) (show 0 < c by omega)
        exact List.mem_map.mpr ⟨((tot th bk k + (f - gs.getD k 0 + (j : Nat))) % c).toNat, List.mem_range.mpr (by omega), by omega⟩
  rw [List.length_map, List.length_range] at this
  unfold lineN
  omega
theorem sp_lcom {ks : List Nat} {g : D} (hg : g = .lst (nl ks) ∨ g = .tup (nl ks)) (h : Rd c gs th bk) (hk : ∀ k ∈ ks, k < gs.length) (hf : 1 ≤ f ∧ f ≤ c) (hb : 1 ≤ b ∧ b ≤ c) (q : Q (.ol (nl (com c gs th bk f b ks))) s) : wm (callN 4 F__law_common [rdT c gs th bk, g, .int f, .int b]) s Q := by
  refine w_call r__law_common rfl ?_
  show ws m__law_common ⟨[some (.sh (rdT c gs th bk)), some (.sh g), some (.sh (.int f)), some (.sh (.int b)), none, none, none, none], s.st⟩ _ _ _ _
  have c0 := h.c0
  have c1 := h.c1
  unfold m__law_common
  fail "SA"
  have e2 : rgD 0 c.toNat = nl (com c gs th bk f b (ks.take 0)) := by
    rw [rg_nl]
    show _ = nl ((List.range c.toNat).filter fun s => true)
    rw [List.filter_eq_self.mpr (fun _ _ => rfl)]
  rw [e2]
  have hI : ws (forB (asN 5) (seqS (agS (sM (dM (fnM (consM (escN 0) (consM (escN 5) (consM (escN 2) (consM (escN 3) nilM)))) (callN 4 F__law_arc)))) (asN 6)) (seqS (agS (lcM (itM (escN 4)) [7] (asN 7) (cmpT (escN 7) (escN 6) (gIn2 false)) (escN 7)) (asN 4)) nilS)) (nl ks))
      ⟨[some (.sh (rdT c gs th bk)), some (.sh g), some (.sh (.int f)), some (.sh (.int b)), some (.ol (nl (com c gs th bk f b (ks.take 0)))), none, none, none], s.st⟩ (fun s' => ∃ o5 o6 o7, s' = ⟨[some (.sh (rdT c gs th bk)), some (.sh g), some (.sh (.int f)), some (.sh (.int b)), some (.ol (nl (com c gs th bk f b ks))), o5, o6, o7], s.st⟩) (fun l s' => Q l ⟨s.sl, s'.st⟩) (fun _ => False) (fun _ => False) := by
    refine s_forL (fun (i : Nat) (s' : S) => ∃ (o5 o6 o7 : Option L), s' = ⟨[some (.sh (rdT c gs th bk)), some (.sh g), some (.sh (.int f)), some (.sh (.int b)), some (.ol (nl (com c gs th bk f b (ks.take i)))), o5, o6, o7], s.st⟩) ⟨_, _, _, rfl⟩ (fun i hi s' ⟨o5, o6, o7, hS⟩ => ?_) (fun s' ⟨o5, o6, o7, hS⟩ => ?_)
    · subst hS
      have hki := hk _ (List.getElem_mem hi)
      fail "SA"
      refine sp_larc h hki hf hb ?_
      fail "SA"
      refine w_lcG (fun x : Nat => decide ((x : Int) ∈ arcL c gs th bk f b ks[i])) (fun x : Nat => D.int (x : Nat)) rfl ?_ (fun x hx => ⟨_, rfl, rfl, ?_⟩) ?_
      · have := List.length_filter_le (fun s : Nat => (ks.take i).all fun k => decide ((s : Int) ∈ arcL c gs th bk f b k)) (List.range c.toNat)
        rw [List.length_range] at this
        unfold com lineN
        omega
      · fail "SA"
        refine w_inD (emb_int.inL (by decide) trivial fun _ _ => trivial).1 ?_
        fail "SA"
        refine ⟨rfl, rfl, fun _ => ?_⟩
        fail "SA"
        exact ⟨rfl, rfl⟩
      fail "SA"
      have e3 : (com c gs th bk f b (ks.take i)).filter (fun x : Nat => decide ((x : Int) ∈ arcL c gs th bk f b ks[i])) = com c gs th bk f b (ks.take (i + 1)) := by
        unfold com
        rw [List.filter_filter, take_get hi]
        refine List.filter_congr fun x _ => ?_
        rw [List.all_append]
        simp [Bool.and_comm]
      rw [e3]
      exact ⟨_, _, _, rfl⟩
    · subst hS
      rw [List.take_length]
      exact ⟨_, _, _, rfl⟩
  rcases hg with rfl | rfl
  all_goals fail "SA"
  all_goals refine ws_mono hI (fun s' ⟨o5, o6, o7, hS⟩ => ?_) (fun _ _ h => h) (fun _ h => h) (fun _ h => h)
  all_goals subst hS
  all_goals fail "SA"
  all_goals exact q
/-- bands hold by their seconds -/
def Holds (c : Int) (gs th bk os : List Int) (f b t u : Int) : Prop := Offs c gs os ∧ (0 ≤ t ∧ t < c) ∧ (0 ≤ u ∧ u < c) ∧ (∀ a : Nat, (a : Int) < f → (t + a) % c ∈ (goods c gs os th 1).map fun i : Nat => (i : Int)) ∧ ∀ a : Nat, (a : Int) < b → (u + a) % c ∈ (goods c gs os bk (-1)).map fun i : Nat => (i : Int)
theorem fil_no (m : Nat) : ((List.range m).filter fun _ => false) = [] := by rw [List.filter_eq_nil_iff]; simp
theorem any_no {α : Type} (l : List α) : (l.any fun _ => false) = false := by simp
end
end Kt

namespace Kt
open PySem PySem.Spec PyProof.Rows L2 Bv
set_option hygiene false
local macro_rules | `(tactic| fail "S1") => `(tactic| (first | with_reducible refine s_seq ?_ | with_reducible refine s_nil ?_ | with_reducible refine s_ag ?_ | with_reducible refine s_rt ?_ | with_reducible refine s_ex ?_ | with_reducible refine s_for ?_ | with_reducible refine s_par2 ?_ | with_reducible refine s_par3 ?_ | with_reducible refine w_pure ?_ | with_reducible refine w_dM ?_ | with_reducible refine w_sM ?_ | with_reducible refine w_th ?_ | with_reducible refine w_fn ?_ | with_reducible refine w_rg ?_ | with_reducible refine w_it ?_ | with_reducible refine w_nil ?_ | with_reducible refine w_cons ?_ | with_reducible refine w_bin2 ?_ | with_reducible refine w_addI ?_ | with_reducible refine w_subI ?_ | with_reducible refine w_ltI ?_ | with_reducible refine w_leI ?_ | with_reducible refine w_gtI ?_ | with_reducible refine w_geI ?_ | with_reducible refine w_eqS ?_ | with_reducible refine w_neS ?_ | with_reducible refine w_eqI ?_ | with_reducible refine w_neI ?_ | with_reducible refine w_int ?_ | with_reducible refine w_ixM ?_ | with_reducible refine w_cmpT ?_ | with_reducible refine w_notT ?_ | with_reducible refine w_blT ?_ | with_reducible refine w_yes ?_ | with_reducible refine w_chM ?_ | with_reducible refine w_lcS ?_ | with_reducible refine w_itL ?_ | with_reducible refine w_ix0T ?_ | with_reducible refine w_ix0L ?_ | with_reducible refine w_ix0O ?_ | with_reducible refine w_ix1T ?_ | with_reducible refine w_ix1L ?_ | with_reducible refine w_ix1O ?_ | with_reducible refine w_ix2T ?_ | with_reducible refine w_ix2L ?_ | with_reducible refine w_ix2O ?_ | with_reducible refine w_ix3T ?_ | with_reducible refine w_ix3L ?_ | with_reducible refine w_ix3O ?_ | with_reducible refine w_itT ?_ | with_reducible refine w_itC ?_ | with_reducible refine w_lstS ?_ | with_reducible refine w_lstL ?_ | with_reducible refine w_lstT ?_ | with_reducible refine w_lstO ?_ | with_reducible refine w_tupT ?_ | with_reducible refine w_tupL ?_ | with_reducible refine w_tupO ?_ | with_reducible refine w_dd ?_ | with_reducible refine s_asT1 ?_ | with_reducible refine s_stS ?_ | with_reducible refine w_max2 ?_ | with_reducible refine w_min2 ?_ | with_reducible refine s_asT0 ?_ | with_reducible refine w_gcd ?_ | with_reducible refine w_idxM ?_ | with_reducible refine w_enW ?_ | with_reducible refine w_enT ?_ | with_reducible refine w_zpL ?_ | with_reducible refine w_zpT ?_ | with_reducible refine w_rgOf ?_ | with_reducible refine w_rgOf2 ?_ | with_reducible refine w_inN ?_ | with_reducible refine w_inLs ?_ | with_reducible refine w_inLo ?_ | with_reducible refine w_dcS ?_ | with_reducible refine w_inK ?_ | with_reducible refine w_noP ?_ | with_reducible refine w_soP ?_ | with_reducible refine w_slM ?_ | ((with_reducible apply w_esc); (focus exact rfl)) | ((with_reducible apply w_sl); (focus exact rfl)) | ((with_reducible apply s_asN); (focus (repeat (first | exact SetAt.z | apply SetAt.s)))) | ((with_reducible apply w_ixN); (focus exact rfl)) | ((with_reducible apply w_slN); (focus exact rfl)) | ((with_reducible apply w_slL); (focus exact rfl)) | ((with_reducible apply w_slT); (focus exact rfl)) | ((with_reducible apply w_escO); (focus exact rfl); (focus (repeat (first | exact SetAt.z | apply SetAt.s)))) | ((with_reducible apply w_mv); (focus exact rfl); (focus (repeat (first | exact SetAt.z | apply SetAt.s)))) | ((with_reducible refine w_modI ?_ ?_); (focus first | omega | decide)) | ((with_reducible refine w_fdvI ?_ ?_ ?_); (focus first | omega | decide); (focus first | omega | decide)) | ((with_reducible refine w_powI ?_ ?_); (focus decide)) | ((with_reducible refine w_mulI ?_ ?_); (focus first | exact .inr (by decide) | exact .inl (by decide) | exact .inr (by constructor <;> omega) | exact .inl (by constructor <;> omega))) | ((with_reducible apply w_app); (focus exact rfl)) | ((with_reducible apply w_appN); (focus exact rfl); (focus first | decide | (simp only [List.length_cons, List.length_nil]; decide)); (focus (repeat (first | exact SetAt.z | apply SetAt.s)))) | ((with_reducible apply w_isi); (focus exact rfl); (focus assumption)) | ((with_reducible apply w_isF); (focus exact rfl)) | ((with_reducible apply w_isN); (focus exact rfl)) | ((with_reducible apply w_fldS); (focus exact rfl)) | ((with_reducible apply s_stN); (focus exact rfl); (focus exact Nat.le_of_ble_eq_true rfl); (focus (repeat (first | exact SetAt.z | apply SetAt.s)))) | ((with_reducible apply w_fldO); (focus exact rfl)) | ((with_reducible refine w_rg1 ?_ ?_); (focus first | (constructor <;> omega) | decide)) | ((with_reducible refine w_rg2 ?_ ?_); (focus first | (refine ⟨?_, ?_, ?_, ?_⟩ <;> omega) | decide)) | ((with_reducible refine w_rgW ?_ ?_); (focus constructor <;> omega)) | ((with_reducible refine w_rgW2 ?_ ?_); (focus refine ⟨⟨?_, ?_⟩, ⟨?_, ?_⟩, ?_⟩ <;> omega)) | ((with_reducible refine w_addT ?_ ?_); (focus (simp only [List.length_map, List.length_replicate, List.length_cons, List.length_nil, List.length_range]; unfold lineN; omega))) | ((with_reducible refine w_mul1 ?_ ?_); (focus constructor <;> omega)) | ((with_reducible refine w_tup ?_ ?_); (focus exact Nat.le_of_ble_eq_true rfl)) | ((with_reducible refine w_lst ?_ ?_); (focus exact Nat.le_of_ble_eq_true rfl)) | ((with_reducible refine w_pen_at ?_ ?_); (focus exact rfl)) | ((with_reducible refine s_pen_at ?_ ?_ ?_); (focus exact rfl); (focus exact rfl)) | ((with_reducible refine w_pen_digits ?_ ?_); (focus exact rfl)) | ((with_reducible refine s_pen_digits ?_ ?_); (focus exact rfl)) | ((with_reducible refine w_pen_count ?_ ?_); (focus exact rfl)) | ((with_reducible refine s_pen_count ?_ ?_); (focus exact rfl)) | ((with_reducible refine w_pen_fold ?_ ?_); (focus exact rfl)) | ((with_reducible refine s_pen_fold ?_ ?_); (focus exact rfl)) | ((with_reducible refine w_pen_cells ?_ ?_); (focus exact rfl)) | with_reducible refine s_dp ?_ | with_reducible refine if_not ?_ | with_reducible refine if_tt ?_ | with_reducible refine if_ff ?_ | ((with_reducible refine if_decT ?_ ?_); (focus first | omega | (simp only [List.length_cons, List.length_nil]; omega))) | ((with_reducible refine if_decF ?_ ?_); (focus first | omega | (simp only [List.length_cons, List.length_nil]; omega))) | with_reducible refine if_dec (fun hc => ?_) (fun hc => ?_) | with_reducible refine s_if ?_ | with_reducible refine w_andT ?_ | with_reducible refine w_orT ?_ | with_reducible refine w_andM ?_ | with_reducible refine w_orM ?_ | with_reducible refine w_notM ?_ | with_reducible refine w_ifM ?_ | with_reducible refine w_truT ?_ | with_reducible refine w_negI ?_ | with_reducible refine ex_truB ?_ | with_reducible refine ⟨_, rfl, ?_⟩ | dsimp only [L.d] | ((with_reducible refine if_t ?_ ?_); (focus exact rfl)) | ((with_reducible refine if_f ?_ ?_); (focus exact rfl)) | ((with_reducible apply w_len); (focus exact .inl rfl)) | ((with_reducible apply w_len); (focus exact .inr rfl))))
local macro_rules | `(tactic| fail "SA") => `(tactic| (repeat' fail "S1"))
local macro_rules | `(tactic| fail "SR") => `(tactic| (repeat fail "S1"))
set_option hygiene true
/-! widths in plain numbers -/
theorem fil_mono {p : Nat → Bool} : ∀ n : Nat, (∀ i j, i ≤ j → p j = true → p i = true) → (List.range n).filter p = List.range ((List.range n).filter p).length
  | 0, _ => rfl
  | n + 1, h => by
    have ih := fil_mono n h
    rw [List.range_succ, List.filter_append, List.filter_cons]
    by_cases hp : p n = true
    · have hall : (List.range n).filter p = List.range n := List.filter_eq_self.mpr fun a ha => h a n (by have := List.mem_range.mp ha; omega) hp
      rw [if_pos hp, hall, List.filter_nil, List.length_append, List.length_range, List.length_singleton, List.range_succ]
    · rw [if_neg hp, List.filter_nil, List.append_nil]
      exact ih
theorem fil_iff {p : Nat → Bool} {n i : Nat} (h : ∀ i j, i ≤ j → p j = true → p i = true) (hi : i < n) : i < ((List.range n).filter p).length ↔ p i = true := by
  have e := fil_mono (p := p) n h
  have : i ∈ (List.range n).filter p ↔ i ∈ List.range ((List.range n).filter p).length := by rw [← e]
  rw [List.mem_filter, List.mem_range, List.mem_range] at this
  rw [← this]
  exact ⟨fun x => x.2, fun x => ⟨hi, x⟩⟩
def can (c : Int) (gs th bk : List Int) (f b : Int) : Bool := !decide (com c gs th bk f b (List.range gs.length) = [])
section
variable {c f b : Int} {gs th bk : List Int}
theorem can_iff : can c gs th bk f b = true ↔ ∃ s : Nat, s < c.toNat ∧ ∀ k, k < gs.length → (s : Int) ∈ arcL c gs th bk f b k := by
  unfold can
  rw [Bool.not_eq_true', decide_eq_false_iff_not]
  constructor
  · intro h
    obtain ⟨s, hs⟩ := List.exists_mem_of_ne_nil _ h
    obtain ⟨h1, h2⟩ := com_iff.mp hs
    exact ⟨s, h1, fun k hk => h2 k (List.mem_range.mpr hk)⟩
  · rintro ⟨s, h1, h2⟩ z
    have := com_iff.mpr ⟨h1, fun k hk => h2 k (List.mem_range.mp hk)⟩
    rw [z] at this
    cases this
theorem can_mono (h : Rd c gs th bk) {f' b' : Int} (hf : 1 ≤ f) (hb : 1 ≤ b) (hff : f ≤ f') (hbb : b ≤ b') (hc : can c gs th bk f' b' = true) : can c gs th bk f b = true := by
  obtain ⟨s, h1, h2⟩ := can_iff.mp hc
  refine can_iff.mpr ⟨s, h1, fun k hk => ?_⟩
  obtain ⟨a1, a2, o, a3, a4, a5⟩ := (arc_iff h hk (by omega) (by omega)).mp (h2 k hk)
  exact (arc_iff h hk hf hb).mpr ⟨a1, a2, o, a3, fun a ha => a4 a (by omega), fun a ha => a5 a (by omega)⟩
def wd (c : Int) (gs th bk : List Int) (f : Int) : Nat := ((List.range c.toNat).filter fun i => can c gs th bk f (1 + (i : Nat))).length
theorem wd_le : wd c gs th bk f ≤ c.toNat := by
  have := List.length_filter_le (fun i => can c gs th bk f (1 + (i : Nat))) (List.range c.toNat)
  rwa [List.length_range] at this
theorem wd_iff (h : Rd c gs th bk) (hf : 1 ≤ f) {i : Nat} (hi : i < c.toNat) : i < wd c gs th bk f ↔ can c gs th bk f (1 + (i : Nat)) = true :=
  fil_iff (fun i j hij hj => can_mono h hf (by omega) (by omega) (by omega) hj) hi
theorem wd_fil (h : Rd c gs th bk) (hf : 1 ≤ f) : ((List.range c.toNat).filter fun i => can c gs th bk f (1 + (i : Nat))) = List.range (wd c gs th bk f) := fil_mono _ (fun i j hij hj => can_mono h hf (by omega) (by omega) (by omega) hj)
theorem wd_anti (h : Rd c gs th bk) {f' : Int} (hf : 1 ≤ f) (hff : f ≤ f') : wd c gs th bk f' ≤ wd c gs th bk f := by
  by_cases h0 : wd c gs th bk f' = 0
  · omega
  have hl := wd_le (c := c) (gs := gs) (th := th) (bk := bk) (f := f')
  have h1 := (wd_iff h (show 1 ≤ f' by omega) (i := wd c gs th bk f' - 1) (by omega)).mp (by omega)
  have h2 := (wd_iff h hf (i := wd c gs th bk f' - 1) (by omega)).mpr (can_mono h hf (by omega) hff (Int.le_refl _) h1)
  omega
theorem max_rg (m : Nat) : maxI (0 :: (List.range m).map fun i : Nat => 1 + (i : Int)) = m := by
  refine (maxI_is ?_ fun y hy => ?_).symm
  · cases m with
    | zero => exact List.mem_cons_self
    | succ k => exact List.mem_cons_of_mem _ (List.mem_map.mpr ⟨k, List.mem_range.mpr (by omega), by omega⟩)
  · rcases List.mem_cons.mp hy with rfl | hy
    · omega
    · obtain ⟨i, hi, rfl⟩ := List.mem_map.mp hy
      have := List.mem_range.mp hi
      omega
def we (c : Int) (gs th bk : List Int) : Nat := ((List.range c.toNat).filter fun i => can c gs th bk (1 + (i : Nat)) (1 + (i : Nat))).length
theorem we_mono (h : Rd c gs th bk) : ∀ i j : Nat, i ≤ j → can c gs th bk (1 + (j : Nat)) (1 + (j : Nat)) = true → can c gs th bk (1 + (i : Nat)) (1 + (i : Nat)) = true := fun i j hij hj => can_mono h (by omega) (by omega) (by omega) (by omega) hj
theorem can_small (h : Rd c gs th bk) (hf : minI gs < f) : can c gs th bk f b = true → f ≤ c → False := fun hc hfc => by
  obtain ⟨s, h1, h2⟩ := can_iff.mp hc
  have m0 := h.m0
  obtain ⟨k, hk, e⟩ := List.getElem_of_mem (minI_mem (ns := gs) (by intro z; rw [z] at m0; simp at m0))
  have e2 : gs.getD k 0 = minI gs := by rw [List.getD_eq_getElem?_getD, List.getElem?_eq_getElem hk]; exact e
  have := h2 k hk
  unfold arcL at this
  rw [e2, if_neg (by omega), if_pos (.inl hf)] at this
  cases this
/-- the law's way to the widest equal ones -/
theorem we_fil (h : Rd c gs th bk) : ((List.range (minI gs).toNat).filter fun i => decide (((i : Nat) : Int) + 1 ≤ (wd c gs th bk (1 + (i : Nat)) : Nat))) = List.range (we c gs th bk) := by
  have m0 := h.m0
  have hm := h.g0 _ (minI_mem (ns := gs) (by intro z; rw [z] at m0; simp at m0))
  have e1 : ((List.range (minI gs).toNat).filter fun i => decide (((i : Nat) : Int) + 1 ≤ (wd c gs th bk (1 + (i : Nat)) : Nat))) = (List.range (minI gs).toNat).filter fun i => can c gs th bk (1 + (i : Nat)) (1 + (i : Nat)) := by
    refine List.filter_congr fun i hi => ?_
    have hi := List.mem_range.mp hi
    have := wd_iff h (f := 1 + (i : Nat)) (by omega) (i := i) (by omega)
    rw [Bool.eq_iff_iff, decide_eq_true_eq, ← this]
    omega
  have e2 : ∀ d : Nat, (minI gs).toNat + d ≤ c.toNat → (List.range ((minI gs).toNat + d)).filter (fun i => can c gs th bk (1 + (i : Nat)) (1 + (i : Nat))) = (List.range (minI gs).toNat).filter fun i => can c gs th bk (1 + (i : Nat)) (1 + (i : Nat)) := fun d => by
    induction d with
    | zero => intro _; rfl
    | succ d ih =>
      intro hd
      rw [show (minI gs).toNat + (d + 1) = ((minI gs).toNat + d) + 1 by omega, List.range_succ, List.filter_append, ih (by omega), List.filter_cons, if_neg, List.filter_nil, List.append_nil]
      intro hc
      exact can_small h (by omega) hc (by omega)
  have e3 := e2 (c.toNat - (minI gs).toNat) (by omega)
  rw [show (minI gs).toNat + (c.toNat - (minI gs).toNat) = c.toNat by omega] at e3
  rw [e1, ← e3]
  exact fil_mono _ (we_mono h)
end
/-! the first of the greatest pairs -/
def ps2 (p : Int × Int) : Int := p.1 + p.2
def bpS (o : Option (Int × Int)) (p : Int × Int) : Option (Int × Int) := match o with
  | none => some p
  | some q => if ps2 q < ps2 p then some p else some q
def bp (l : List (Int × Int)) : Option (Int × Int) := l.foldl bpS none
theorem bp_ok (l : List (Int × Int)) : bp l = (l.filter fun p => decide (ps2 p = maxI (l.map ps2))).head? ∧ (∀ q, bp l = some q → ps2 q = maxI (l.map ps2)) ∧ (bp l = none → l = []) := by
  have key : ∀ n (l : List (Int × Int)), l.length = n → (bp l = (l.filter fun p => decide (ps2 p = maxI (l.map ps2))).head? ∧ (∀ q, bp l = some q → ps2 q = maxI (l.map ps2)) ∧ (bp l = none → l = [])) := fun n => by
    induction n with
    | zero =>
      intro l hl
      obtain rfl := List.eq_nil_of_length_eq_zero hl
      refine ⟨rfl, fun q h => ?_, fun _ => rfl⟩
      have h : (none : Option (Int × Int)) = some q := h
      cases h
    | succ n ih =>
      intro l hl
      obtain ⟨r, p, rfl⟩ : ∃ r p, l = r ++ [p] := ⟨l.dropLast, l.getLast (by intro z; rw [z] at hl; simp at hl), (List.dropLast_concat_getLast _).symm⟩
      have hr : r.length = n := by rw [List.length_append, List.length_singleton] at hl; omega
      obtain ⟨i1, i2, i3⟩ := ih r hr
      have eb : bp (r ++ [p]) = bpS (bp r) p := by unfold bp; rw [List.foldl_append]; rfl
      cases hb : bp r with
      | none =>
        obtain rfl := i3 hb
        rw [eb, hb]
        have em : maxI (([] ++ [p] : List (Int × Int)).map ps2) = ps2 p := (maxI_is (by simp) (by simp)).symm
        rw [em]
        refine ⟨?_, fun q h => ?_, fun h => by cases h⟩
        · simp [bpS]
        · cases h; rfl
      | some q =>
        have hq := i2 q hb
        have hrne : r ≠ [] := by rintro rfl; cases hb
        have hle : ∀ x ∈ r, ps2 x ≤ maxI (r.map ps2) := fun x hx => maxI_le (List.mem_map.mpr ⟨x, hx, rfl⟩)
        rw [eb, hb]
        by_cases hlt : ps2 q < ps2 p
        · have em : maxI ((r ++ [p]).map ps2) = ps2 p := (maxI_is (by simp) (fun y hy => by
            rw [List.map_append, List.mem_append] at hy
            rcases hy with hy | hy
            · obtain ⟨x, hx, rfl⟩ := List.mem_map.mp hy
              have := hle x hx
              omega
            · simp at hy; omega)).symm
          have hf : r.filter (fun x => decide (ps2 x = ps2 p)) = [] := by
            rw [List.filter_eq_nil_iff]
            intro x hx
            have := hle x hx
            simp
            omega
          rw [em, List.filter_append, hf]
          refine ⟨?_, fun q' h => ?_, fun h => ?_⟩
          · simp [bpS, hlt]
          · simp [bpS, hlt] at h; rw [h]
          · simp [bpS, hlt] at h
        · have em : maxI ((r ++ [p]).map ps2) = maxI (r.map ps2) := (maxI_is (by rw [List.map_append, List.mem_append]; exact .inl (maxI_mem (by simpa using hrne))) (fun y hy => by
            rw [List.map_append, List.mem_append] at hy
            rcases hy with hy | hy
            · exact maxI_le hy
            · simp at hy; omega)).symm
          rw [em, List.filter_append]
          refine ⟨?_, fun q' h => ?_, fun h => ?_⟩
          · rw [hb] at i1
            rw [List.head?_append, ← i1]
            simp [bpS, hlt]
          · simp [bpS, hlt] at h; rw [← h]; exact hq
          · simp [bpS, hlt] at h
  exact key _ l rfl
end Kt

namespace Kt
open PySem PySem.Spec PyProof.Rows L2 Bv
set_option hygiene false
local macro_rules | `(tactic| fail "S1") => `(tactic| (first | with_reducible refine s_seq ?_ | with_reducible refine s_nil ?_ | with_reducible refine s_ag ?_ | with_reducible refine s_rt ?_ | with_reducible refine s_ex ?_ | with_reducible refine s_for ?_ | with_reducible refine s_par2 ?_ | with_reducible refine s_par3 ?_ | with_reducible refine w_pure ?_ | with_reducible refine w_dM ?_ | with_reducible refine w_sM ?_ | with_reducible refine w_th ?_ | with_reducible refine w_fn ?_ | with_reducible refine w_rg ?_ | with_reducible refine w_it ?_ | with_reducible refine w_nil ?_ | with_reducible refine w_cons ?_ | with_reducible refine w_bin2 ?_ | with_reducible refine w_addI ?_ | with_reducible refine w_subI ?_ | with_reducible refine w_ltI ?_ | with_reducible refine w_leI ?_ | with_reducible refine w_gtI ?_ | with_reducible refine w_geI ?_ | with_reducible refine w_eqS ?_ | with_reducible refine w_neS ?_ | with_reducible refine w_eqI ?_ | with_reducible refine w_neI ?_ | with_reducible refine w_int ?_ | with_reducible refine w_ixM ?_ | with_reducible refine w_cmpT ?_ | with_reducible refine w_notT ?_ | with_reducible refine w_blT ?_ | with_reducible refine w_yes ?_ | with_reducible refine w_chM ?_ | with_reducible refine w_lcS ?_ | with_reducible refine w_itL ?_ | with_reducible refine w_ix0T ?_ | with_reducible refine w_ix0L ?_ | with_reducible refine w_ix0O ?_ | with_reducible refine w_ix1T ?_ | with_reducible refine w_ix1L ?_ | with_reducible refine w_ix1O ?_ | with_reducible refine w_ix2T ?_ | with_reducible refine w_ix2L ?_ | with_reducible refine w_ix2O ?_ | with_reducible refine w_ix3T ?_ | with_reducible refine w_ix3L ?_ | with_reducible refine w_ix3O ?_ | with_reducible refine w_itT ?_ | with_reducible refine w_itC ?_ | with_reducible refine w_lstS ?_ | with_reducible refine w_lstL ?_ | with_reducible refine w_lstT ?_ | with_reducible refine w_lstO ?_ | with_reducible refine w_tupT ?_ | with_reducible refine w_tupL ?_ | with_reducible refine w_tupO ?_ | with_reducible refine w_dd ?_ | with_reducible refine s_asT1 ?_ | with_reducible refine s_stS ?_ | with_reducible refine w_max2 ?_ | with_reducible refine w_min2 ?_ | with_reducible refine s_asT0 ?_ | with_reducible refine w_gcd ?_ | with_reducible refine w_idxM ?_ | with_reducible refine w_enW ?_ | with_reducible refine w_enT ?_ | with_reducible refine w_zpL ?_ | with_reducible refine w_zpT ?_ | with_reducible refine w_rgOf ?_ | with_reducible refine w_rgOf2 ?_ | with_reducible refine w_inN ?_ | with_reducible refine w_inLs ?_ | with_reducible refine w_inLo ?_ | with_reducible refine w_dcS ?_ | with_reducible refine w_inK ?_ | with_reducible refine w_noP ?_ | with_reducible refine w_soP ?_ | with_reducible refine w_slM ?_ | ((with_reducible apply w_esc); (focus exact rfl)) | ((with_reducible apply w_sl); (focus exact rfl)) | ((with_reducible apply s_asN); (focus (repeat (first | exact SetAt.z | apply SetAt.s)))) | ((with_reducible apply w_ixN); (focus exact rfl)) | ((with_reducible apply w_slN); (focus exact rfl)) | ((with_reducible apply w_slL); (focus exact rfl)) | ((with_reducible apply w_slT); (focus exact rfl)) | ((with_reducible apply w_escO); (focus exact rfl); (focus (repeat (first | exact SetAt.z | apply SetAt.s)))) | ((with_reducible apply w_mv); (focus exact rfl); (focus (repeat (first | exact SetAt.z | apply SetAt.s)))) | ((with_reducible refine w_modI ?_ ?_); (focus first | omega | decide)) | ((with_reducible refine w_fdvI ?_ ?_ ?_); (focus first | omega | decide); (focus first | omega | decide)) | ((with_reducible refine w_powI ?_ ?_); (focus decide)) | ((with_reducible refine w_mulI ?_ ?_); (focus first | exact .inr (by decide) | exact .inl (by decide) | exact .inr (by constructor <;> omega) | exact .inl (by constructor <;> omega))) | ((with_reducible apply w_app); (focus exact rfl)) | ((with_reducible apply w_appN); (focus exact rfl); (focus first | decide | (simp only [List.length_cons, List.length_nil]; decide)); (focus (repeat (first | exact SetAt.z | apply SetAt.s)))) | ((with_reducible apply w_isi); (focus exact rfl); (focus assumption)) | ((with_reducible apply w_isF); (focus exact rfl)) | ((with_reducible apply w_isN); (focus exact rfl)) | ((with_reducible apply w_fldS); (focus exact rfl)) | ((with_reducible apply s_stN); (focus exact rfl); (focus exact Nat.le_of_ble_eq_true rfl); (focus (repeat (first | exact SetAt.z | apply SetAt.s)))) | ((with_reducible apply w_fldO); (focus exact rfl)) | ((with_reducible refine w_rg1 ?_ ?_); (focus first | (constructor <;> omega) | decide)) | ((with_reducible refine w_rg2 ?_ ?_); (focus first | (refine ⟨?_, ?_, ?_, ?_⟩ <;> omega) | decide)) | ((with_reducible refine w_rgW ?_ ?_); (focus constructor <;> omega)) | ((with_reducible refine w_rgW2 ?_ ?_); (focus refine ⟨⟨?_, ?_⟩, ⟨?_, ?_⟩, ?_⟩ <;> omega)) | ((with_reducible refine w_addT ?_ ?_); (focus (simp only [List.length_map, List.length_replicate, List.length_cons, List.length_nil, List.length_range]; unfold lineN; omega))) | ((with_reducible refine w_mul1 ?_ ?_); (focus constructor <;> omega)) | ((with_reducible refine w_tup ?_ ?_); (focus exact Nat.le_of_ble_eq_true rfl)) | ((with_reducible refine w_lst ?_ ?_); (focus exact Nat.le_of_ble_eq_true rfl)) | ((with_reducible refine w_pen_at ?_ ?_); (focus exact rfl)) | ((with_reducible refine s_pen_at ?_ ?_ ?_); (focus exact rfl); (focus exact rfl)) | ((with_reducible refine w_pen_digits ?_ ?_); (focus exact rfl)) | ((with_reducible refine s_pen_digits ?_ ?_); (focus exact rfl)) | ((with_reducible refine w_pen_count ?_ ?_); (focus exact rfl)) | ((with_reducible refine s_pen_count ?_ ?_); (focus exact rfl)) | ((with_reducible refine w_pen_fold ?_ ?_); (focus exact rfl)) | ((with_reducible refine s_pen_fold ?_ ?_); (focus exact rfl)) | ((with_reducible refine w_pen_cells ?_ ?_); (focus exact rfl)) | with_reducible refine s_dp ?_ | with_reducible refine if_not ?_ | with_reducible refine if_tt ?_ | with_reducible refine if_ff ?_ | ((with_reducible refine if_decT ?_ ?_); (focus first | omega | (simp only [List.length_cons, List.length_nil]; omega))) | ((with_reducible refine if_decF ?_ ?_); (focus first | omega | (simp only [List.length_cons, List.length_nil]; omega))) | with_reducible refine if_dec (fun hc => ?_) (fun hc => ?_) | with_reducible refine s_if ?_ | with_reducible refine w_andT ?_ | with_reducible refine w_orT ?_ | with_reducible refine w_andM ?_ | with_reducible refine w_orM ?_ | with_reducible refine w_notM ?_ | with_reducible refine w_ifM ?_ | with_reducible refine w_truT ?_ | with_reducible refine w_negI ?_ | with_reducible refine ex_truB ?_ | with_reducible refine ⟨_, rfl, ?_⟩ | dsimp only [L.d] | ((with_reducible refine if_t ?_ ?_); (focus exact rfl)) | ((with_reducible refine if_f ?_ ?_); (focus exact rfl)) | ((with_reducible apply w_len); (focus exact .inl rfl)) | ((with_reducible apply w_len); (focus exact .inr rfl))))
local macro_rules | `(tactic| fail "SA") => `(tactic| (repeat' fail "S1"))
local macro_rules | `(tactic| fail "SR") => `(tactic| (repeat fail "S1"))
set_option hygiene true
section
variable {s : S} {Q : L → S → Prop} {c f b : Int} {gs th bk : List Int}
theorem sp_can (h : Rd c gs th bk) (hf : 1 ≤ f ∧ f ≤ c) (hb : 1 ≤ b ∧ b ≤ c) (hz : c < 64) (q : Q (.sh (.bl (can c gs th bk f b))) s) : wm (callN 3 F_can_band [rdI c gs th bk, .int f, .int b]) s Q := by
  refine w_call r_can_band rfl ?_
  show ws m_can_band ⟨[some (.sh (rdI c gs th bk)), some (.sh (.int f)), some (.sh (.int b))], s.st⟩ _ _ _ _
  have c0 := h.c0
  have m1 := h.m1
  have e2 : (gs.map D.int).length = gs.length := List.length_map ..
  unfold m_can_band
  fail "SA"
  rw [show ((((gs.map D.int).length : Nat) : Int)).toNat = gs.length by rw [e2]; rfl, rg_nl]
  refine sp_com (ks := List.range gs.length) (.inl rfl) h (fun k hk => List.mem_range.mp hk) hf hb (fun _ _ => .inl hz) ?_
  fail "SA"
  have e4 : decide ((0 : Int) < ((nl (com c gs th bk f b (List.range gs.length))).length : Nat)) = can c gs th bk f b := by
    unfold can
    rw [List.length_map]
    cases com c gs th bk f b (List.range gs.length) with
    | nil => rfl
    | cons a r => simp
  rw [e4]
  exact q
theorem sp_bwid (h : Rd c gs th bk) (hf : 1 ≤ f ∧ f ≤ c) (hz : c < 64) (q : Q (.sh (.int (wd c gs th bk f : Nat))) s) : wm (callN 2 F_back_width [rdI c gs th bk, .int f]) s Q := by
  refine w_call r_back_width rfl ?_
  show ws m_back_width ⟨[some (.sh (rdI c gs th bk)), some (.sh (.int f)), none], s.st⟩ _ _ _ _
  have c0 := h.c0
  have hw := wd_le (c := c) (gs := gs) (th := th) (bk := bk) (f := f)
  unfold m_back_width
  fail "SA"
  refine s_whI (fun k s' => ∃ low : Nat, low + k = c.toNat ∧ low ≤ wd c gs th bk f ∧ s' = ⟨[some (.sh (rdI c gs th bk)), some (.sh (.int f)), some (.sh (.int (low : Nat)))], s.st⟩) c.toNat (by omega) ⟨0, by omega, by omega, rfl⟩ (fun k s' ⟨low, hk, hlw, e⟩ => ?_)
  subst e
  fail "SA"
  · refine sp_can h hf ⟨by omega, by omega⟩ hz ?_
    have hii := wd_iff h hf.1 (i := low) (by omega)
    rw [show (low : Int) + 1 = 1 + (low : Nat) by omega]
    cases hc2 : can c gs th bk f (1 + (low : Nat)) with
    | true =>
      have := hii.mpr hc2
      fail "SA"
      refine ⟨k - 1, by omega, low + 1, by omega, by omega, ?_⟩
      rw [show ((low + 1 : Nat) : Int) = (low : Int) + 1 by omega]
    | false =>
      have : ¬ low < wd c gs th bk f := fun z => by rw [hii.mp z] at hc2; cases hc2
      fail "SA"
      rw [show low = wd c gs th bk f by omega]
      exact q
  · rw [show low = wd c gs th bk f by omega]
    fail "SA"
    exact q
theorem sp_both (h : Rd c gs th bk) (hz : c < 64) (q : Q (.sh (.tup ((List.range (minI gs).toNat).map fun i => D.int (wd c gs th bk (1 + (i : Nat)) : Nat)))) s) : wm (callN 1 F_both_widths [rdI c gs th bk]) s Q := by
  refine w_call r_both_widths rfl ?_
  show ws m_both_widths ⟨[some (.sh (rdI c gs th bk)), none], s.st⟩ _ _ _ _
  have c0 := h.c0
  have m0 := h.m0
  have hgn : gs ≠ [] := by intro z; rw [z] at m0; simp at m0
  have hm := h.g0 _ (minI_mem hgn)
  unfold m_both_widths
  fail "SA"
  refine w_best (.inr rfl) hgn ?_
  fail "SA"
  rw [rgD_map, show (minI gs + 1 - 1).toNat = (minI gs).toNat by omega]
  refine w_lcF (fun i : Nat => D.int (wd c gs th bk (1 + (i : Nat)) : Nat)) rfl (by rw [List.length_range]; unfold lineN; omega) (fun x hx => ⟨_, rfl, rfl, ?_⟩) ?_
  · have hx := List.mem_range.mp hx
    fail "SA"
    refine sp_bwid h ⟨by omega, by omega⟩ hz ?_
    fail "SA"
    exact ⟨rfl, rfl⟩
  fail "SA"
  exact q
theorem w_addL {ds es : List D} (h : ds.length + es.length ≤ lineN) (q : Q (.ol (ds ++ es)) s) : wm (gAdd (.lst ds) (.lst es)) s Q := by
  refine w_eq (s' := s) (a := .ol (ds ++ es)) ?_ q
  unfold gAdd
  dsimp only
  rw [if_pos h]
  rfl
theorem sp_lwid (h : Rd c gs th bk) (hf : 1 ≤ f ∧ f ≤ c) (hz : c < 64) (q : Q (.sh (.int (wd c gs th bk f : Nat))) s) : wm (callN 2 F__law_width [rdT c gs th bk, .int f]) s Q := by
  refine w_call r__law_width rfl ?_
  show ws m__law_width ⟨[some (.sh (rdT c gs th bk)), some (.sh (.int f)), none, none], s.st⟩ _ _ _ _
  have c0 := h.c0
  have m1 := h.m1
  have e2 : (gs.map D.int).length = gs.length := List.length_map ..
  have hw := wd_le (c := c) (gs := gs) (th := th) (bk := bk) (f := f)
  unfold m__law_width
  fail "SA"
  rw [show ((((gs.map D.int).length : Nat) : Int)).toNat = gs.length by rw [e2]; rfl, rg_nl gs.length]
  fail "SA"
  rw [rgD_map, show (c + 1 - 1).toNat = c.toNat by omega]
  refine w_lcG (fun i : Nat => can c gs th bk f (1 + (i : Nat))) (fun i : Nat => D.int (1 + (i : Nat))) rfl (by rw [List.length_range]; unfold lineN; omega) (fun x hx => ⟨_, rfl, rfl, ?_⟩) ?_
  · have hx := List.mem_range.mp hx
    fail "SA"
    refine sp_lcom (.inl rfl) h (fun k hk => List.mem_range.mp hk) hf ⟨by omega, by omega⟩ ?_
    fail "SA"
    refine w_neNl ?_
    fail "SA"
    refine ⟨rfl, rfl, fun _ => ?_⟩
    fail "SA"
    exact ⟨rfl, rfl⟩
  rw [wd_fil h hf.1]
  fail "SA"
  refine w_addL (by rw [List.length_map, List.length_range]; simp only [List.length_cons, List.length_nil]; unfold lineN; omega) ?_
  fail "SA"
  refine w_best (ns := 0 :: (List.range (wd c gs th bk f)).map fun i : Nat => 1 + (i : Int)) (.inl (by rw [List.map_cons, List.map_map]; rfl)) (by simp) ?_
  rw [max_rg]
  fail "SA"
  exact q
theorem sp_wback (h : Rd c gs th bk) (hf : 1 ≤ f ∧ f ≤ c) (hz : c < 64) (q : Q (.sh (.int (wd c gs th bk f : Nat))) s) : wm (callN 2 F_widest_back [rdI c gs th bk, .int f]) s Q := by
  refine w_call r_widest_back rfl ?_
  show ws m_widest_back ⟨[some (.sh (rdI c gs th bk)), some (.sh (.int f))], s.st⟩ _ _ _ _
  unfold m_widest_back
  fail "SA"
  refine sp_needBand hf.1 hf.2 ?_
  fail "SA"
  refine sp_bwid h hf hz ?_
  fail "SA"
  exact q
theorem we_le : we c gs th bk ≤ c.toNat := by
  have := List.length_filter_le (fun i => can c gs th bk (1 + (i : Nat)) (1 + (i : Nat))) (List.range c.toNat)
  rwa [List.length_range] at this
theorem sp_weq (h : Rd c gs th bk) (hz : c < 64) (q : Q (.sh (.int (we c gs th bk : Nat))) s) : wm (callN 1 F_widest_equal [rdI c gs th bk]) s Q := by
  refine w_call r_widest_equal rfl ?_
  show ws m_widest_equal ⟨[some (.sh (rdI c gs th bk)), none], s.st⟩ _ _ _ _
  have c0 := h.c0
  have hw := we_le (c := c) (gs := gs) (th := th) (bk := bk)
  unfold m_widest_equal
  fail "SA"
  refine s_whI (fun k s' => ∃ low : Nat, low + k = c.toNat ∧ low ≤ we c gs th bk ∧ s' = ⟨[some (.sh (rdI c gs th bk)), some (.sh (.int (low : Nat)))], s.st⟩) c.toNat (by omega) ⟨0, by omega, by omega, rfl⟩ (fun k s' ⟨low, hk, hlw, e⟩ => ?_)
  subst e
  fail "SA"
  · refine sp_can h ⟨by omega, by omega⟩ ⟨by omega, by omega⟩ hz ?_
    have hii := fil_iff (n := c.toNat) (i := low) (we_mono h) (by omega)
    have hii : low < we c gs th bk ↔ can c gs th bk (1 + (low : Nat)) (1 + (low : Nat)) = true := hii
    rw [show (low : Int) + 1 = 1 + (low : Nat) by omega]
    cases hc2 : can c gs th bk (1 + (low : Nat)) (1 + (low : Nat)) with
    | true =>
      have := hii.mpr hc2
      fail "SA"
      refine ⟨k - 1, by omega, low + 1, by omega, by omega, ?_⟩
      rw [show ((low + 1 : Nat) : Int) = (low : Int) + 1 by omega]
    | false =>
      have : ¬ low < we c gs th bk := fun z => by rw [hii.mp z] at hc2; cases hc2
      fail "SA"
      rw [show low = we c gs th bk by omega]
      exact q
  · rw [show low = we c gs th bk by omega]
    fail "SA"
    exact q
/-- the pairs of widths -/
def pr2 (c : Int) (gs th bk : List Int) (i : Nat) : Int × Int := ((i : Int) + 1, ((wd c gs th bk (1 + (i : Nat)) : Nat) : Int))
def prs (c : Int) (gs th bk : List Int) (m : Nat) : List (Int × Int) := ((List.range m).filter fun i => decide ((0 : Int) < (wd c gs th bk (1 + (i : Nat)) : Nat))).map (pr2 c gs th bk)
def eO : Option (Int × Int) → D
  | none => .non
  | some p => .tup [.int p.1, .int p.2]
theorem prs_snoc {m : Nat} : prs c gs th bk (m + 1) = prs c gs th bk m ++ if (0 : Int) < (wd c gs th bk (1 + (m : Nat)) : Nat) then [pr2 c gs th bk m] else [] := by
  unfold prs
  rw [List.range_succ, List.filter_append, List.map_append, List.filter_cons]
  by_cases h : (0 : Int) < (wd c gs th bk (1 + (m : Nat)) : Nat)
  · rw [if_pos (decide_eq_true h), if_pos h]; rfl
  · rw [if_neg (by simpa using h), if_neg h]; rfl
theorem bp_snoc (l : List (Int × Int)) (p : Int × Int) : bp (l ++ [p]) = bpS (bp l) p := by unfold bp; rw [List.foldl_append]; rfl
theorem en_rg (f : Nat → D) (m : Nat) : enD 0 ((List.range m).map f) = (List.range m).map fun k => D.tup [.int (k : Nat), f k] := by
  rw [enD_map]
  apply List.ext_getElem?
  intro i
  rw [List.getElem?_map, List.getElem?_map, List.getElem?_zipIdx]
  by_cases h : i < m
  · rw [List.getElem?_range h]
    simp
  · rw [List.getElem?_eq_none (by rw [List.length_range]; omega)]
    rfl
theorem sp_wpair (h : Rd c gs th bk) (hz : c < 64) (q : Q (.sh (eO (bp (prs c gs th bk (minI gs).toNat)))) s) : wm (callN 1 F_widest_pair [rdI c gs th bk]) s Q := by
  refine w_call r_widest_pair rfl ?_
  show ws m_widest_pair ⟨[some (.sh (rdI c gs th bk)), none, none, none], s.st⟩ _ _ _ _
  unfold m_widest_pair
  fail "SA"
  refine sp_both h hz ?_
  fail "SA"
  rw [en_rg]
  refine s_forL (fun (i : Nat) (s' : S) => ∃ (o2 o3 : Option L), s' = ⟨[some (.sh (rdI c gs th bk)), some (.sh (eO (bp (prs c gs th bk i)))), o2, o3], s.st⟩) ⟨_, _, rfl⟩ (fun i hi s' ⟨o2, o3, hS⟩ => ?_) (fun s' ⟨o2, o3, hS⟩ => ?_)
  · subst hS
    rw [List.getElem_range, prs_snoc]
    by_cases hw : (0 : Int) < (wd c gs th bk (1 + (i : Nat)) : Nat)
    · rw [if_pos hw, bp_snoc]
      cases hb : bp (prs c gs th bk i) with
      | none =>
        rw [show eO none = D.non from rfl]
        fail "SA"
        exact ⟨_, _, rfl⟩
      | some p =>
        rw [show eO (some p) = D.tup [.int p.1, .int p.2] from rfl]
        by_cases hlt : ps2 p < ps2 (pr2 c gs th bk i)
        · have hlt2 : p.1 + p.2 < (i : Int) + 1 + (wd c gs th bk (1 + (i : Nat)) : Nat) := hlt
          rw [show bpS (some p) (pr2 c gs th bk i) = some (pr2 c gs th bk i) from if_pos hlt]
          fail "SA"
          exact ⟨_, _, rfl⟩
        · have hlt2 : ¬ p.1 + p.2 < (i : Int) + 1 + (wd c gs th bk (1 + (i : Nat)) : Nat) := hlt
          rw [show bpS (some p) (pr2 c gs th bk i) = some p from if_neg hlt]
          fail "SA"
          exact ⟨_, _, rfl⟩
    · rw [if_neg hw, List.append_nil]
      fail "SA"
      exact ⟨_, _, rfl⟩
  · subst hS
    rw [List.length_range]
    fail "SA"
    exact q
end
end Kt

namespace Kt
open PySem PySem.Spec PyProof.Rows L2 Bv
set_option hygiene false
local macro_rules | `(tactic| fail "S1") => `(tactic| (first | with_reducible refine s_seq ?_ | with_reducible refine s_nil ?_ | with_reducible refine s_ag ?_ | with_reducible refine s_rt ?_ | with_reducible refine s_ex ?_ | with_reducible refine s_for ?_ | with_reducible refine s_par2 ?_ | with_reducible refine s_par3 ?_ | with_reducible refine w_pure ?_ | with_reducible refine w_dM ?_ | with_reducible refine w_sM ?_ | with_reducible refine w_th ?_ | with_reducible refine w_fn ?_ | with_reducible refine w_rg ?_ | with_reducible refine w_it ?_ | with_reducible refine w_nil ?_ | with_reducible refine w_cons ?_ | with_reducible refine w_bin2 ?_ | with_reducible refine w_addI ?_ | with_reducible refine w_subI ?_ | with_reducible refine w_ltI ?_ | with_reducible refine w_leI ?_ | with_reducible refine w_gtI ?_ | with_reducible refine w_geI ?_ | with_reducible refine w_eqS ?_ | with_reducible refine w_neS ?_ | with_reducible refine w_eqI ?_ | with_reducible refine w_neI ?_ | with_reducible refine w_int ?_ | with_reducible refine w_ixM ?_ | with_reducible refine w_cmpT ?_ | with_reducible refine w_notT ?_ | with_reducible refine w_blT ?_ | with_reducible refine w_yes ?_ | with_reducible refine w_chM ?_ | with_reducible refine w_lcS ?_ | with_reducible refine w_itL ?_ | with_reducible refine w_ix0T ?_ | with_reducible refine w_ix0L ?_ | with_reducible refine w_ix0O ?_ | with_reducible refine w_ix1T ?_ | with_reducible refine w_ix1L ?_ | with_reducible refine w_ix1O ?_ | with_reducible refine w_ix2T ?_ | with_reducible refine w_ix2L ?_ | with_reducible refine w_ix2O ?_ | with_reducible refine w_ix3T ?_ | with_reducible refine w_ix3L ?_ | with_reducible refine w_ix3O ?_ | with_reducible refine w_itT ?_ | with_reducible refine w_itC ?_ | with_reducible refine w_lstS ?_ | with_reducible refine w_lstL ?_ | with_reducible refine w_lstT ?_ | with_reducible refine w_lstO ?_ | with_reducible refine w_tupT ?_ | with_reducible refine w_tupL ?_ | with_reducible refine w_tupO ?_ | with_reducible refine w_dd ?_ | with_reducible refine s_asT1 ?_ | with_reducible refine s_stS ?_ | with_reducible refine w_max2 ?_ | with_reducible refine w_min2 ?_ | with_reducible refine s_asT0 ?_ | with_reducible refine w_gcd ?_ | with_reducible refine w_idxM ?_ | with_reducible refine w_enW ?_ | with_reducible refine w_enT ?_ | with_reducible refine w_zpL ?_ | with_reducible refine w_zpT ?_ | with_reducible refine w_rgOf ?_ | with_reducible refine w_rgOf2 ?_ | with_reducible refine w_inN ?_ | with_reducible refine w_inLs ?_ | with_reducible refine w_inLo ?_ | with_reducible refine w_dcS ?_ | with_reducible refine w_inK ?_ | with_reducible refine w_noP ?_ | with_reducible refine w_soP ?_ | with_reducible refine w_slM ?_ | ((with_reducible apply w_esc); (focus exact rfl)) | ((with_reducible apply w_sl); (focus exact rfl)) | ((with_reducible apply s_asN); (focus (repeat (first | exact SetAt.z | apply SetAt.s)))) | ((with_reducible apply w_ixN); (focus exact rfl)) | ((with_reducible apply w_slN); (focus exact rfl)) | ((with_reducible apply w_slL); (focus exact rfl)) | ((with_reducible apply w_slT); (focus exact rfl)) | ((with_reducible apply w_escO); (focus exact rfl); (focus (repeat (first | exact SetAt.z | apply SetAt.s)))) | ((with_reducible apply w_mv); (focus exact rfl); (focus (repeat (first | exact SetAt.z | apply SetAt.s)))) | ((with_reducible refine w_modI ?_ ?_); (focus first | omega | decide)) | ((with_reducible refine w_fdvI ?_ ?_ ?_); (focus first | omega | decide); (focus first | omega | decide)) | ((with_reducible refine w_powI ?_ ?_); (focus decide)) | ((with_reducible refine w_mulI ?_ ?_); (focus first | exact .inr (by decide) | exact .inl (by decide) | exact .inr (by constructor <;> omega) | exact .inl (by constructor <;> omega))) | ((with_reducible apply w_app); (focus exact rfl)) | ((with_reducible apply w_appN); (focus exact rfl); (focus first | decide | (simp only [List.length_cons, List.length_nil]; decide)); (focus (repeat (first | exact SetAt.z | apply SetAt.s)))) | ((with_reducible apply w_isi); (focus exact rfl); (focus assumption)) | ((with_reducible apply w_isF); (focus exact rfl)) | ((with_reducible apply w_isN); (focus exact rfl)) | ((with_reducible apply w_fldS); (focus exact rfl)) | ((with_reducible apply s_stN); (focus exact rfl); (focus exact Nat.le_of_ble_eq_true rfl); (focus (repeat (first | exact SetAt.z | apply SetAt.s)))) | ((with_reducible apply w_fldO); (focus exact rfl)) | ((with_reducible refine w_rg1 ?_ ?_); (focus first | (constructor <;> omega) | decide)) | ((with_reducible refine w_rg2 ?_ ?_); (focus first | (refine ⟨?_, ?_, ?_, ?_⟩ <;> omega) | decide)) | ((with_reducible refine w_rgW ?_ ?_); (focus constructor <;> omega)) | ((with_reducible refine w_rgW2 ?_ ?_); (focus refine ⟨⟨?_, ?_⟩, ⟨?_, ?_⟩, ?_⟩ <;> omega)) | ((with_reducible refine w_addT ?_ ?_); (focus (simp only [List.length_map, List.length_replicate, List.length_cons, List.length_nil, List.length_range]; unfold lineN; omega))) | ((with_reducible refine w_mul1 ?_ ?_); (focus constructor <;> omega)) | ((with_reducible refine w_tup ?_ ?_); (focus exact Nat.le_of_ble_eq_true rfl)) | ((with_reducible refine w_lst ?_ ?_); (focus exact Nat.le_of_ble_eq_true rfl)) | ((with_reducible refine w_pen_at ?_ ?_); (focus exact rfl)) | ((with_reducible refine s_pen_at ?_ ?_ ?_); (focus exact rfl); (focus exact rfl)) | ((with_reducible refine w_pen_digits ?_ ?_); (focus exact rfl)) | ((with_reducible refine s_pen_digits ?_ ?_); (focus exact rfl)) | ((with_reducible refine w_pen_count ?_ ?_); (focus exact rfl)) | ((with_reducible refine s_pen_count ?_ ?_); (focus exact rfl)) | ((with_reducible refine w_pen_fold ?_ ?_); (focus exact rfl)) | ((with_reducible refine s_pen_fold ?_ ?_); (focus exact rfl)) | ((with_reducible refine w_pen_cells ?_ ?_); (focus exact rfl)) | with_reducible refine s_dp ?_ | with_reducible refine if_not ?_ | with_reducible refine if_tt ?_ | with_reducible refine if_ff ?_ | ((with_reducible refine if_decT ?_ ?_); (focus first | omega | (simp only [List.length_cons, List.length_nil]; omega))) | ((with_reducible refine if_decF ?_ ?_); (focus first | omega | (simp only [List.length_cons, List.length_nil]; omega))) | with_reducible refine if_dec (fun hc => ?_) (fun hc => ?_) | with_reducible refine s_if ?_ | with_reducible refine w_andT ?_ | with_reducible refine w_orT ?_ | with_reducible refine w_andM ?_ | with_reducible refine w_orM ?_ | with_reducible refine w_notM ?_ | with_reducible refine w_ifM ?_ | with_reducible refine w_truT ?_ | with_reducible refine w_negI ?_ | with_reducible refine ex_truB ?_ | with_reducible refine ⟨_, rfl, ?_⟩ | dsimp only [L.d] | ((with_reducible refine if_t ?_ ?_); (focus exact rfl)) | ((with_reducible refine if_f ?_ ?_); (focus exact rfl)) | ((with_reducible apply w_len); (focus exact .inl rfl)) | ((with_reducible apply w_len); (focus exact .inr rfl))))
local macro_rules | `(tactic| fail "SA") => `(tactic| (repeat' fail "S1"))
local macro_rules | `(tactic| fail "SR") => `(tactic| (repeat fail "S1"))
set_option hygiene true
theorem y_l2 : isiT isiL [Str.ofString "list", Str.ofString "tuple"] (Bv.Ty.b "list") = some true := by decide +kernel
section
variable {s : S} {Q : L → S → Prop}
theorem sp_waysL {x : Str} {w : List Int} {m : Int} (hl : w.length ≤ 100) (hm : m = w.length) (h0 : ∀ y ∈ w, 0 ≤ y) (q : Q (.sh (ti w)) s) : wm (callN 3 F_known_ways [.str x, .lst (w.map D.int), .int m]) s Q := by
  refine w_call r_known_ways rfl ?_
  show ws m_known_ways ⟨[some (.sh (.str x)), some (.sh (.lst (w.map D.int))), some (.sh (.int m)), none], s.st⟩ _ _ _ _
  unfold m_known_ways
  have y1 := y_l2
  have e1 : (w.map D.int).length = w.length := List.length_map ..
  fail "SA"
  refine w_lcF (fun _ : Int => D.bl true) rfl (by unfold lineN; omega) (fun y hy => ⟨_, rfl, rfl, ?_⟩) ?_
  · fail "SA"
    refine sp_number (h0 y hy) ?_
    fail "SA"
    exact ⟨rfl, rfl⟩
  fail "SA"
  refine w_all (p := fun _ => true) rfl ?_
  rw [List.all_eq_true.mpr (fun _ _ => rfl)]
  fail "SA"
  exact q
theorem sp_makeL {c : Int} {gs th bk : List Int} (h : Rd c gs th bk) (q : Q (.oi false "Road" (rdF c gs th bk)) s) : wm (makeM "Road" 4 F_RoadI [.int c, .lst (gs.map D.int), .lst (th.map D.int), .lst (bk.map D.int)]) s Q := by
  refine w_make r_RoadI rfl ?_
  show ws m_RoadI ⟨[some (.oi true "Road" []), some (.sh (.int c)), some (.sh (.lst (gs.map D.int))), some (.sh (.lst (th.map D.int))), some (.sh (.lst (bk.map D.int))), none], s.st⟩ _ _ _ _
  unfold m_RoadI
  have y1 := y_l2
  have e1 : (gs.map D.int).length = gs.length := List.length_map ..
  have c0 := h.c0
  have c1 := h.c1
  have m0 := h.m0
  have m1 := h.m1
  have lt := h.lt
  have lb := h.lb
  fail "SA"
  refine sp_whole ?_
  fail "SA"
  refine w_lcF (fun _ : Int => D.bl true) rfl (by unfold lineN; omega) (fun y hy => ⟨_, rfl, rfl, ?_⟩) ?_
  · obtain ⟨g1, g2⟩ := h.g0 y hy
    fail "SA"
    refine sp_whole ?_
    fail "SA"
    refine ⟨rfl, ?_⟩
    rw [decide_eq_true g2]
  fail "SA"
  refine w_all (p := fun _ => true) rfl ?_
  rw [List.all_eq_true.mpr (fun _ _ => rfl)]
  fail "SA"
  refine sp_waysL (by omega) (by omega) h.t0 ?_
  fail "SA"
  refine sp_waysL (by omega) (by omega) h.b0 ?_
  fail "SA"
  exact q
end
section
variable {c f b : Int} {gs th bk th' bk' : List Int}
theorem wd_congr (ht : ∀ k, k < gs.length → tot th bk k = tot th' bk' k) : wd c gs th bk f = wd c gs th' bk' f := by
  have ea : ∀ b k, k < gs.length → arcL c gs th bk f b k = arcL c gs th' bk' f b k := fun b k hk => by
    unfold arcL arcR
    rw [ht k hk]
  have ec : ∀ b, can c gs th bk f b = can c gs th' bk' f b := fun b => by
    unfold can com
    have : ((List.range c.toNat).filter fun s : Nat => (List.range gs.length).all fun k => decide (((s : Nat) : Int) ∈ arcL c gs th bk f b k)) = (List.range c.toNat).filter fun s : Nat => (List.range gs.length).all fun k => decide (((s : Nat) : Int) ∈ arcL c gs th' bk' f b k) := by
      refine List.filter_congr fun s _ => ?_
      rw [Bool.eq_iff_iff, List.all_eq_true, List.all_eq_true]
      exact forall_congr' fun k => imp_congr_right fun hk => by rw [ea b k (List.mem_range.mp hk)]
    rw [this]
  unfold wd
  congr 1
  exact List.filter_congr fun i _ => ec _
theorem pre_cutin {w : List Int} {a : Nat} {y : Int} (ha : a < w.length) (k : Nat) : pre (w.take a ++ [w.getD a 0 + y] ++ w.drop (a + 1)) k = pre w k + if a < k then y else 0 := by
  unfold pre
  have e : w = w.take a ++ [w.getD a 0] ++ w.drop (a + 1) := by
    rw [List.getD_eq_getElem?_getD, List.getElem?_eq_getElem ha, Option.getD_some, List.append_assoc, List.singleton_append, List.getElem_cons_drop, List.take_append_drop]
  have hl : (w.take a).length = a := by rw [List.length_take]; omega
  conv => rhs; rw [e]
  generalize w.take a = A at hl
  generalize w.drop (a + 1) = B
  generalize w.getD a 0 = z
  subst hl
  by_cases hk : A.length < k
  · rw [if_pos hk]
    obtain ⟨j, rfl⟩ : ∃ j, k = A.length + 1 + j := ⟨k - (A.length + 1), by omega⟩
    have t1 : ∀ v : Int, (A ++ [v] ++ B).take (A.length + 1 + j) = A ++ [v] ++ B.take j := fun v => by
      have hz : (A ++ [v]).length = A.length + 1 := by rw [List.length_append, List.length_singleton]
      rw [List.take_append, List.take_of_length_le (l := A ++ [v]) (by omega), hz, show A.length + 1 + j - (A.length + 1) = j by omega]
    rw [t1, t1]
    simp only [List.length_append, List.length_singleton, List.sum_append, List.sum_cons, List.sum_nil]
    omega
  · rw [if_neg hk, List.append_assoc, List.append_assoc, List.take_append_of_le_length (by omega), List.take_append_of_le_length (by omega), Int.add_zero]
theorem whole_wd {m : Int} (h : Rd c gs th (th.map fun y => c - y)) (hm : minI gs = m) (hg : ∀ g ∈ gs, g < c) (hf : 1 ≤ f) (hf2 : f ≤ m) : (wd c gs th (th.map fun y => c - y) f : Int) = m := by
  have c0 := h.c0
  have m0 := h.m0
  have lt := h.lt
  have hgn : gs ≠ [] := by intro z; rw [z] at m0; simp at m0
  have hmm := h.g0 _ (minI_mem hgn)
  have hmc := hg _ (minI_mem hgn)
  have ht : ∀ k, k < gs.length → tot th (th.map fun y => c - y) k = c * (k : Nat) := fun k hk => by
    have key : ∀ k, k ≤ th.length → pre th k + pre (th.map fun y => c - y) k = c * (k : Nat) := fun k => by
      induction k with
      | zero => intro _; simp [pre]
      | succ k ih =>
        intro hk
        have ih := ih (by omega)
        rw [pre_succ (by omega), pre_succ (by rw [List.length_map]; omega)]
        have e : (th.map fun y => c - y).getD k 0 = c - th.getD k 0 := by
          rw [List.getD_eq_getElem?_getD, List.getD_eq_getElem?_getD, List.getElem?_map, List.getElem?_eq_getElem (show k < th.length by omega)]
          rfl
        rw [e, show ((k + 1 : Nat) : Int) = (k : Int) + 1 by omega, Int.mul_add]
        omega
    exact key k (by omega)
  have hi : ∀ i : Nat, i < c.toNat → (i < wd c gs th (th.map fun y => c - y) f ↔ (i : Int) < m) := fun i hi => by
    rw [wd_iff h hf hi]
    constructor
    · intro hc
      refine Decidable.byContradiction fun hn => ?_
      obtain ⟨s, h1, h2⟩ := can_iff.mp hc
      obtain ⟨k, hk, e⟩ := List.getElem_of_mem (minI_mem hgn)
      have e2 : gs.getD k 0 = minI gs := by rw [List.getD_eq_getElem?_getD, List.getElem?_eq_getElem hk]; exact e
      have := h2 k hk
      unfold arcL at this
      rw [e2, if_neg (by omega), if_pos (.inr (by omega))] at this
      cases this
    · intro hm2
      refine can_iff.mpr ⟨0, by omega, fun k hk => ?_⟩
      have hgk := hg _ (getD_mem' hk)
      have hmk : m ≤ gs.getD k 0 := by rw [← hm]; exact minI_le (getD_mem' hk)
      unfold arcL
      rw [if_neg (by omega), if_neg (by omega), (sortI_perm _).mem_iff, ddI_mem]
      unfold arcR
      refine List.mem_map.mpr ⟨(gs.getD k 0 - f).toNat, List.mem_range.mpr (by omega), ?_⟩
      rw [ht k hk, show c * (k : Nat) + (f - gs.getD k 0 + ((gs.getD k 0 - f).toNat : Int)) = 0 + c * (k : Nat) by omega, Int.add_mul_emod_self_left]
      simp
  have hle := wd_le (c := c) (gs := gs) (th := th) (bk := th.map fun y => c - y) (f := f)
  have a1 := hi (m - 1).toNat (by omega)
  have a2 := hi m.toNat (by omega)
  omega
end
end Kt

namespace Kt
open PySem PySem.Spec PyProof.Rows L2 Bv
set_option hygiene false
local macro_rules | `(tactic| fail "S1") => `(tactic| (first | with_reducible refine s_seq ?_ | with_reducible refine s_nil ?_ | with_reducible refine s_ag ?_ | with_reducible refine s_rt ?_ | with_reducible refine s_ex ?_ | with_reducible refine s_for ?_ | with_reducible refine s_par2 ?_ | with_reducible refine s_par3 ?_ | with_reducible refine w_pure ?_ | with_reducible refine w_dM ?_ | with_reducible refine w_sM ?_ | with_reducible refine w_th ?_ | with_reducible refine w_fn ?_ | with_reducible refine w_rg ?_ | with_reducible refine w_it ?_ | with_reducible refine w_nil ?_ | with_reducible refine w_cons ?_ | with_reducible refine w_bin2 ?_ | with_reducible refine w_addI ?_ | with_reducible refine w_subI ?_ | with_reducible refine w_ltI ?_ | with_reducible refine w_leI ?_ | with_reducible refine w_gtI ?_ | with_reducible refine w_geI ?_ | with_reducible refine w_eqS ?_ | with_reducible refine w_neS ?_ | with_reducible refine w_eqI ?_ | with_reducible refine w_neI ?_ | with_reducible refine w_int ?_ | with_reducible refine w_ixM ?_ | with_reducible refine w_cmpT ?_ | with_reducible refine w_notT ?_ | with_reducible refine w_blT ?_ | with_reducible refine w_yes ?_ | with_reducible refine w_chM ?_ | with_reducible refine w_lcS ?_ | with_reducible refine w_itL ?_ | with_reducible refine w_ix0T ?_ | with_reducible refine w_ix0L ?_ | with_reducible refine w_ix0O ?_ | with_reducible refine w_ix1T ?_ | with_reducible refine w_ix1L ?_ | with_reducible refine w_ix1O ?_ | with_reducible refine w_ix2T ?_ | with_reducible refine w_ix2L ?_ | with_reducible refine w_ix2O ?_ | with_reducible refine w_ix3T ?_ | with_reducible refine w_ix3L ?_ | with_reducible refine w_ix3O ?_ | with_reducible refine w_itT ?_ | with_reducible refine w_itC ?_ | with_reducible refine w_lstS ?_ | with_reducible refine w_lstL ?_ | with_reducible refine w_lstT ?_ | with_reducible refine w_lstO ?_ | with_reducible refine w_tupT ?_ | with_reducible refine w_tupL ?_ | with_reducible refine w_tupO ?_ | with_reducible refine w_dd ?_ | with_reducible refine s_asT1 ?_ | with_reducible refine s_stS ?_ | with_reducible refine w_max2 ?_ | with_reducible refine w_min2 ?_ | with_reducible refine s_asT0 ?_ | with_reducible refine w_gcd ?_ | with_reducible refine w_idxM ?_ | with_reducible refine w_enW ?_ | with_reducible refine w_enT ?_ | with_reducible refine w_zpL ?_ | with_reducible refine w_zpT ?_ | with_reducible refine w_rgOf ?_ | with_reducible refine w_rgOf2 ?_ | with_reducible refine w_inN ?_ | with_reducible refine w_inLs ?_ | with_reducible refine w_inLo ?_ | with_reducible refine w_dcS ?_ | with_reducible refine w_inK ?_ | with_reducible refine w_noP ?_ | with_reducible refine w_soP ?_ | with_reducible refine w_slM ?_ | ((with_reducible apply w_esc); (focus exact rfl)) | ((with_reducible apply w_sl); (focus exact rfl)) | ((with_reducible apply s_asN); (focus (repeat (first | exact SetAt.z | apply SetAt.s)))) | ((with_reducible apply w_ixN); (focus exact rfl)) | ((with_reducible apply w_slN); (focus exact rfl)) | ((with_reducible apply w_slL); (focus exact rfl)) | ((with_reducible apply w_slT); (focus exact rfl)) | ((with_reducible apply w_escO); (focus exact rfl); (focus (repeat (first | exact SetAt.z | apply SetAt.s)))) | ((with_reducible apply w_mv); (focus exact rfl); (focus (repeat (first | exact SetAt.z | apply SetAt.s)))) | ((with_reducible refine w_modI ?_ ?_); (focus first | omega | decide)) | ((with_reducible refine w_fdvI ?_ ?_ ?_); (focus first | omega | decide); (focus first | omega | decide)) | ((with_reducible refine w_powI ?_ ?_); (focus decide)) | ((with_reducible refine w_mulI ?_ ?_); (focus first | exact .inr (by decide) | exact .inl (by decide) | exact .inr (by constructor <;> omega) | exact .inl (by constructor <;> omega))) | ((with_reducible apply w_app); (focus exact rfl)) | ((with_reducible apply w_appN); (focus exact rfl); (focus first | decide | (simp only [List.length_cons, List.length_nil]; decide)); (focus (repeat (first | exact SetAt.z | apply SetAt.s)))) | ((with_reducible apply w_isi); (focus exact rfl); (focus assumption)) | ((with_reducible apply w_isF); (focus exact rfl)) | ((with_reducible apply w_isN); (focus exact rfl)) | ((with_reducible apply w_fldS); (focus exact rfl)) | ((with_reducible apply s_stN); (focus exact rfl); (focus exact Nat.le_of_ble_eq_true rfl); (focus (repeat (first | exact SetAt.z | apply SetAt.s)))) | ((with_reducible apply w_fldO); (focus exact rfl)) | ((with_reducible refine w_rg1 ?_ ?_); (focus first | (constructor <;> omega) | decide)) | ((with_reducible refine w_rg2 ?_ ?_); (focus first | (refine ⟨?_, ?_, ?_, ?_⟩ <;> omega) | decide)) | ((with_reducible refine w_rgW ?_ ?_); (focus constructor <;> omega)) | ((with_reducible refine w_rgW2 ?_ ?_); (focus refine ⟨⟨?_, ?_⟩, ⟨?_, ?_⟩, ?_⟩ <;> omega)) | ((with_reducible refine w_addT ?_ ?_); (focus (simp only [List.length_map, List.length_replicate, List.length_cons, List.length_nil, List.length_range]; unfold lineN; omega))) | ((with_reducible refine w_mul1 ?_ ?_); (focus constructor <;> omega)) | ((with_reducible refine w_tup ?_ ?_); (focus exact Nat.le_of_ble_eq_true rfl)) | ((with_reducible refine w_lst ?_ ?_); (focus exact Nat.le_of_ble_eq_true rfl)) | ((with_reducible refine w_pen_at ?_ ?_); (focus exact rfl)) | ((with_reducible refine s_pen_at ?_ ?_ ?_); (focus exact rfl); (focus exact rfl)) | ((with_reducible refine w_pen_digits ?_ ?_); (focus exact rfl)) | ((with_reducible refine s_pen_digits ?_ ?_); (focus exact rfl)) | ((with_reducible refine w_pen_count ?_ ?_); (focus exact rfl)) | ((with_reducible refine s_pen_count ?_ ?_); (focus exact rfl)) | ((with_reducible refine w_pen_fold ?_ ?_); (focus exact rfl)) | ((with_reducible refine s_pen_fold ?_ ?_); (focus exact rfl)) | ((with_reducible refine w_pen_cells ?_ ?_); (focus exact rfl)) | with_reducible refine s_dp ?_ | with_reducible refine if_not ?_ | with_reducible refine if_tt ?_ | with_reducible refine if_ff ?_ | ((with_reducible refine if_decT ?_ ?_); (focus first | omega | (simp only [List.length_cons, List.length_nil]; omega))) | ((with_reducible refine if_decF ?_ ?_); (focus first | omega | (simp only [List.length_cons, List.length_nil]; omega))) | with_reducible refine if_dec (fun hc => ?_) (fun hc => ?_) | with_reducible refine s_if ?_ | with_reducible refine w_andT ?_ | with_reducible refine w_orT ?_ | with_reducible refine w_andM ?_ | with_reducible refine w_orM ?_ | with_reducible refine w_notM ?_ | with_reducible refine w_ifM ?_ | with_reducible refine w_truT ?_ | with_reducible refine w_negI ?_ | with_reducible refine ex_truB ?_ | with_reducible refine ⟨_, rfl, ?_⟩ | dsimp only [L.d] | ((with_reducible refine if_t ?_ ?_); (focus exact rfl)) | ((with_reducible refine if_f ?_ ?_); (focus exact rfl)) | ((with_reducible apply w_len); (focus exact .inl rfl)) | ((with_reducible apply w_len); (focus exact .inr rfl))))
local macro_rules | `(tactic| fail "SA") => `(tactic| (repeat' fail "S1"))
local macro_rules | `(tactic| fail "SR") => `(tactic| (repeat fail "S1"))
set_option hygiene true
def eP2 (p : Int × Int) : D := .tup [.int p.1, .int p.2]
theorem emb_p2 : Emb eP2 (fun _ => True) 1 := by
  have := emb_pair emb_int emb_int
  exact ⟨by
    obtain ⟨py, h⟩ := this.ok
    exact ⟨py, fun x _ => ⟨(h x ⟨trivial, trivial⟩).1, (h x ⟨trivial, trivial⟩).2.1, (h x ⟨trivial, trivial⟩).2.2.1, fun y _ => (h x ⟨trivial, trivial⟩).2.2.2 y ⟨trivial, trivial⟩⟩⟩⟩
theorem cutN_t {w : List Int} {k : Nat} (h : k ≤ w.length) : cutD (w.map D.int) (some (k : Int)) none = (w.drop k).map D.int := by rw [cut_drop (by rw [List.length_map]; exact h), ← List.map_drop]
theorem rep_map (n : Nat) (x : Int) : List.replicate n (D.int x) = (List.replicate n x).map D.int := by rw [List.map_replicate]
theorem law_ws (ns : List Int) : ws m_law (initS n_law [.scr (ns.map D.int)] []) (fun _ => False) (fun l _ => l = .sh (.bl true)) (fun _ => False) (fun _ => False) := by
  show ws m_law ⟨[some (.sh (.scr (ns.map D.int))), none, none, none, none, none, none, none, none, none, none, none, none, none, none, none, none, none, none, none, none], []⟩ _ _ _ _
  unfold m_law
  fail "SA"
  refine pen_ok FD_pen rfl rfl fun p => ?_
  fail "SA"
  refine sp_drawn (cs := [3, 4, 6, 8]) rfl (by decide) (by decide) (by decide) (by decide) (by decide) fun c gs th bk p1 hcm h hm => ?_
  fail "SA"
  refine sp_made h ?_
  have e2 : (gs.map D.int).length = gs.length := List.length_map ..
  have c0 := h.c0
  have m1 := h.m1
  have m0 := h.m0
  have hc8 : c ≤ 8 := by
    simp only [List.mem_cons, List.not_mem_nil, or_false] at hcm
    omega
  have hz : c < 64 := by omega
  have hgn : gs ≠ [] := by intro z; rw [z] at m0; simp at m0
  have hmin : 1 ≤ minI gs ∧ minI gs ≤ c := h.g0 _ (minI_mem hgn)
  fail "SA"
  refine w_best (.inr rfl) hgn ?_
  have eM : (minI gs + 1 - 1).toNat = (minI gs).toNat := by omega
  fail "SA"
  rw [rgD_map, eM]
  refine w_lcF (fun i : Nat => D.int (wd c gs th bk (1 + (i : Nat)) : Nat)) rfl (by rw [List.length_range]; unfold lineN; omega) (fun x hx => ⟨_, rfl, rfl, ?_⟩) ?_
  · have hx := List.mem_range.mp hx
    fail "SA"
    refine sp_lwid h ⟨by omega, by omega⟩ hz ?_
    fail "SA"
    exact ⟨rfl, rfl⟩
  fail "SA"
  refine sp_both h hz ?_
  fail "SA"
  refine sp_is (pln_ints (fun i : Nat => ((wd c gs th bk (1 + (i : Nat)) : Nat) : Int)) _ (by rw [List.length_range]; unfold lineN; omega)) ?_
  have edue : (List.range (minI gs).toNat).map (fun i : Nat => D.int (wd c gs th bk (1 + (i : Nat)) : Nat)) = ((List.range (minI gs).toNat).map fun i : Nat => ((wd c gs th bk (1 + (i : Nat)) : Nat) : Int)).map D.int := by rw [List.map_map]; rfl
  have hdown : ((List.range (minI gs).toNat).map fun i : Nat => ((wd c gs th bk (1 + (i : Nat)) : Nat) : Int)) = (sortI ((List.range (minI gs).toNat).map fun i : Nat => ((wd c gs th bk (1 + (i : Nat)) : Nat) : Int))).reverse := by
    refine sort_down (.refl _) ?_
    rw [List.pairwise_map]
    exact List.pairwise_lt_range.imp fun {a b} hab => by
      have := wd_anti (c := c) (gs := gs) (th := th) (bk := bk) h (f := 1 + (a : Nat)) (f' := 1 + (b : Nat)) (by omega) (by omega)
      omega
  fail "SA"
  refine w_sortD (ns := (List.range (minI gs).toNat).map fun i : Nat => ((wd c gs th bk (1 + (i : Nat)) : Nat) : Int)) (by rw [← edue]; rfl) ?_
  rw [← hdown]
  fail "SA"
  rw [edue]
  refine w_neE (emb_lst emb_int) (by decide) (fun _ _ => trivial) (fun _ _ => trivial) ?_
  rw [decide_eq_true rfl, ← edue]
  have hat : ∀ i : Nat, i < (minI gs).toNat → atI ((List.range (minI gs).toNat).map fun i : Nat => D.int (wd c gs th bk (1 + (i : Nat)) : Nat)) (i : Int) = some (.int (wd c gs th bk (1 + (i : Nat)) : Nat)) := fun i hi => atI_nat (by rw [List.getElem?_map, List.getElem?_range hi]; rfl)
  fail "SA"
  refine sp_draw rfl (by omega) (by omega) fun x p2 hx0 hx1 => ?_
  fail "SA"
  refine sp_wback h ⟨by omega, by omega⟩ hz ?_
  fail "SA"
  refine sp_lwid h ⟨by omega, by omega⟩ hz ?_
  fail "SA"
  refine sp_is (.int _ _) ?_
  fail "SA"
  refine w_lcR (fun i => decide ((0 : Int) < (wd c gs th bk (1 + (i : Nat)) : Nat))) (fun i => eP2 (pr2 c gs th bk i)) rfl (by unfold lineN; omega) (fun i hi => ⟨_, rfl, rfl, ?_⟩) ?_
  · fail "SA"
    refine w_ixW (.inl rfl) (hat i hi) ?_
    fail "SA"
    refine ⟨rfl, rfl, fun _ => ?_⟩
    fail "SA"
    refine w_ixW (.inl rfl) (hat i hi) ?_
    fail "SA"
    exact ⟨rfl, rfl⟩
  have eprs : ((List.range (minI gs).toNat).filter fun i => decide ((0 : Int) < (wd c gs th bk (1 + (i : Nat)) : Nat))).map (fun i => eP2 (pr2 c gs th bk i)) = (prs c gs th bk (minI gs).toNat).map eP2 := by unfold prs; rw [List.map_map]; rfl
  rw [eprs]
  have hpl : (prs c gs th bk (minI gs).toNat).length ≤ 8 := by
    unfold prs
    rw [List.length_map]
    have := List.length_filter_le (fun i => decide ((0 : Int) < (wd c gs th bk (1 + (i : Nat)) : Nat))) (List.range (minI gs).toNat)
    rw [List.length_range] at this
    omega
  have hbp := bp_ok (prs c gs th bk (minI gs).toNat)
  generalize hP : prs c gs th bk (minI gs).toNat = P at hpl hbp
  fail "SA"
  refine w_lcG (fun p : Int × Int => decide (ps2 p = maxI (P.map ps2))) eP2 rfl (by unfold lineN; omega) (fun p hp => ⟨_, rfl, rfl, ?_⟩) ?_
  · unfold eP2
    fail "SA"
    refine w_lcF (fun p : Int × Int => D.int [p.1, p.2].sum) rfl (by unfold lineN; omega) (fun r _ => ⟨_, rfl, rfl, ?_⟩) ?_
    · fail "SA"
      refine w_sum (ns := [r.1, r.2]) (.inr rfl) ?_
      fail "SA"
      exact ⟨rfl, rfl⟩
    fail "SA"
    refine w_best (ns := P.map fun p : Int × Int => [p.1, p.2].sum) (.inl (by rw [List.map_map]; rfl)) (by intro z; rw [List.map_eq_nil_iff] at z; rw [z] at hp; cases hp) ?_
    have es : (P.map fun p : Int × Int => [p.1, p.2].sum) = P.map ps2 := List.map_congr_left fun p _ => by unfold ps2; simp
    rw [es]
    fail "SA"
    refine ⟨rfl, rfl, fun _ => ?_⟩
    fail "SA"
    exact ⟨rfl, rfl⟩
  fail "SA"
  refine sp_wpair h hz ?_
  rw [hP]
  fail "SA"
  rcases hfl : P.filter fun p : Int × Int => decide (ps2 p = maxI (P.map ps2)) with _ | ⟨q, r⟩
  have hb : bp P = none := by rw [hbp.1, hfl]; rfl
  rw [hb]
  refine w_neE (e := fun xs : List (Int × Int) => .lst (xs.map eP2)) (x := []) (y := []) (emb_lst emb_p2) (by decide) (fun _ _ => trivial) (fun _ _ => trivial) ?_
  rw [decide_eq_true rfl]
  fail "SA"
  refine sp_is (d := .non) (.non _) ?_
  clear hfl hb hbp
  rotate_left
  have hb : bp P = some q := by rw [hbp.1, hfl]; rfl
  rw [hb]
  refine w_neE (e := fun xs : List (Int × Int) => .lst (xs.map eP2)) (x := q :: r) (y := []) (emb_lst emb_p2) (by decide) (fun _ _ => trivial) (fun _ _ => trivial) ?_
  rw [decide_eq_false (by simp)]
  fail "SA"
  refine w_ixW (d := eP2 q) (.inl rfl) (atI_nat (j := 0) rfl) ?_
  fail "SA"
  refine sp_is (d := .tup [.int q.1, .int q.2]) (pln_two (.int _ _) (.int _ _)) ?_
  clear hfl hb hbp
  all_goals
    fail "SA"
    refine w_lcR (fun i => decide (((i : Nat) : Int) + 1 ≤ (wd c gs th bk (1 + (i : Nat)) : Nat))) (fun i => D.int ((i : Nat) + 1)) rfl (by unfold lineN; omega) (fun i hi => ⟨_, rfl, rfl, ?_⟩) ?_
    · fail "SA"
      refine w_ixW (.inl rfl) (hat i hi) ?_
      fail "SA"
      refine ⟨rfl, rfl, fun _ => ?_⟩
      fail "SA"
      exact ⟨rfl, rfl⟩
    rw [we_fil h]
    have hwe := we_le (c := c) (gs := gs) (th := th) (bk := bk)
    have e12 : (List.range (we c gs th bk)).map (fun i => D.int ((i : Nat) + 1)) = (List.range (we c gs th bk)).map fun i => D.int (1 + (i : Nat)) := List.map_congr_left fun i _ => by rw [Int.add_comm]
    rw [e12]
    fail "SA"
    refine w_addL (by rw [List.length_map, List.length_range]; simp only [List.length_cons, List.length_nil]; unfold lineN; omega) ?_
    fail "SA"
    refine w_best (ns := 0 :: (List.range (we c gs th bk)).map fun i : Nat => 1 + (i : Int)) (.inl (by rw [List.map_cons, List.map_map]; rfl)) (by simp) ?_
    rw [max_rg]
    fail "SA"
    refine sp_weq h hz ?_
    fail "SA"
    refine sp_is (.int _ _) ?_
    have lt := h.lt
    have lb := h.lb
    have l1 : (th.map D.int).length = th.length := List.length_map ..
    have l2 : (bk.map D.int).length = bk.length := List.length_map ..
    fail "SA"
  all_goals first
    | have hlen : 1 < gs.length := by omega
      refine sp_draw rfl (by omega) (by omega) fun z p3 hz0 hz1 => ?_
      obtain ⟨a, rfl⟩ : ∃ a : Nat, z = a := ⟨z.toNat, by omega⟩
      have hat1 : a < th.length := by omega
      have hat2 : a < bk.length := by omega
      fail "SA"
      refine sp_draw rfl (by omega) (by omega) fun y p4 hy0 hy1 => ?_
      fail "SA"
      generalize hby : 1 + y = by9
      have hby0 : 0 ≤ by9 := by omega
      have gl : ∀ (w : List Int) (y : Int), w.length ≤ 8 → ((w.take a).map D.int).length + [D.int y].length ≤ lineN := fun w y hw => by
        rw [List.length_map, List.length_take, List.length_singleton]
        unfold lineN
        omega
      have gl2 : ∀ (w : List Int) (y : Int), w.length ≤ 8 → ((w.take a).map D.int ++ [D.int y]).length + ((w.drop (a + 1)).map D.int).length ≤ lineN := fun w y hw => by
        rw [List.length_append, List.length_map, List.length_take, List.length_singleton, List.length_map, List.length_drop]
        unfold lineN
        omega
      have gl3 : ∀ (w : List Int) (y : Int), (w.take a).map D.int ++ [D.int y] ++ (w.drop (a + 1)).map D.int = (w.take a ++ [y] ++ w.drop (a + 1)).map D.int := fun w y => by
        rw [List.map_append, List.map_append]; rfl
      have gl4 : ∀ (w : List Int), a < w.length → (w.take a ++ [w.getD a 0 + by9] ++ w.drop (a + 1)).length = w.length := fun w hw => by
        rw [List.length_append, List.length_append, List.length_take, List.length_singleton, List.length_drop]
        omega
      have gl5 : ∀ (w : List Int), a < w.length → (∀ y ∈ w, 0 ≤ y) → ∀ y ∈ w.take a ++ [w.getD a 0 + by9] ++ w.drop (a + 1), 0 ≤ y := fun w hw h0 y hy => by
        rcases List.mem_append.mp hy with hy | hy
        · rcases List.mem_append.mp hy with hy | hy
          · exact h0 y (List.mem_of_mem_take hy)
          · rw [List.mem_singleton.mp hy]
            have := h0 _ (getD_mem' hw)
            omega
        · exact h0 y (List.mem_of_mem_drop hy)
      rw [pre_cut (by omega)]
      refine w_ixW (.inr rfl) (atG hat1) ?_
      fail "SA"
      refine w_addT (gl _ _ (by omega)) ?_
      fail "SA"
      rw [show ((a : Nat) : Int) + 1 = ((a + 1 : Nat) : Int) by omega, cutN_t (by omega)]
      refine w_addT (gl2 _ _ (by omega)) ?_
      rw [gl3]
      fail "SA"
      rw [pre_cut (by omega)]
      refine w_ixW (.inr rfl) (atG hat2) ?_
      fail "SA"
      refine w_addT (gl _ _ (by omega)) ?_
      fail "SA"
      rw [show ((a : Nat) : Int) + 1 = ((a + 1 : Nat) : Int) by omega, cutN_t (by omega)]
      refine w_addT (gl2 _ _ (by omega)) ?_
      rw [gl3]
      have hR1 : Rd c gs (th.take a ++ [th.getD a 0 + by9] ++ th.drop (a + 1)) bk := ⟨h.c0, h.c1, h.m0, h.m1, by rw [gl4 _ hat1]; exact h.lt, h.lb, h.g0, gl5 _ hat1 h.t0, h.b0⟩
      have hR2 : Rd c gs th (bk.take a ++ [bk.getD a 0 + by9] ++ bk.drop (a + 1)) := ⟨h.c0, h.c1, h.m0, h.m1, h.lt, by rw [gl4 _ hat2]; exact h.lb, h.g0, h.t0, gl5 _ hat2 h.b0⟩
      fail "SA"
      refine sp_make hR1 ?_
      fail "SA"
      refine sp_both hR1 hz ?_
      fail "SA"
      refine sp_make hR2 ?_
      fail "SA"
      refine sp_both hR2 hz ?_
      have hww : ∀ f, wd c gs (th.take a ++ [th.getD a 0 + by9] ++ th.drop (a + 1)) bk f = wd c gs th (bk.take a ++ [bk.getD a 0 + by9] ++ bk.drop (a + 1)) f := fun f => wd_congr fun k hk => by
        unfold tot
        rw [pre_cutin hat1, pre_cutin hat2]
        omega
      simp only [hww]
      fail "SA"
      have emap : ∀ v : Nat → Nat, (List.range (minI gs).toNat).map (fun i : Nat => D.int (v i : Nat)) = ((List.range (minI gs).toNat).map fun i : Nat => ((v i : Nat) : Int)).map D.int := fun v => by rw [List.map_map]; rfl
      rw [emap fun i => wd c gs th (bk.take a ++ [bk.getD a 0 + by9] ++ bk.drop (a + 1)) (1 + (i : Nat))]
      refine w_neE (emb_tup emb_int) (by decide) (fun _ _ => trivial) (fun _ _ => trivial) ?_
      rw [decide_eq_true rfl]
      fail "SA"
    | skip
  all_goals
    refine sp_draw rfl (by omega) (by omega) fun x5 p5 h50 h51 => ?_
    fail "SA"
    generalize hcd : 10 + x5 = cc
    have hcc0 : 10 ≤ cc := by omega
    have hcc1 : cc < 60 := by omega
    fail "SA"
    refine sp_draw rfl (by omega) (by omega) fun x6 p6 h60 h61 => ?_
    fail "SA"
    refine s_forR (n := (2 + x6).toNat) (fun (i : Nat) (s' : S) => ∃ (gt : List Int) (p : Pen) (o2 o3 o4 o5 o6 o7 o8 o9 o10 o11 o12 o13 o14 o15 o18 o19 o20 : Option L), (gt.length = i) ∧ (∀ g ∈ gt, 1 ≤ g ∧ g < cc) ∧ s' = ⟨[some (.sh (.scr (ns.map D.int))), some (.sh (.mref 0)), o2, o3, o4, o5, o6, o7, o8, o9, o10, o11, o12, o13, o14, o15, some (.sh (.int cc)), some (.ol (gt.map D.int)), o18, o19, o20], [.dic p.fs]⟩) rfl ⟨[], p6, _, _, _, _, _, _, _, _, _, _, _, _, _, _, _, _, _, rfl, by simp, rfl⟩ (fun i s' hi ⟨gt, p, o2, o3, o4, o5, o6, o7, o8, o9, o10, o11, o12, o13, o14, o15, o18, o19, o20, hl, hg, hS⟩ => ?_) (fun s' ⟨gt, p, o2, o3, o4, o5, o6, o7, o8, o9, o10, o11, o12, o13, o14, o15, o18, o19, o20, hl, hg, hS⟩ => ?_)
    · subst hS
      fail "SA"
      refine sp_draw rfl (by omega) (by omega) fun y p7 hy0 hy1 => ?_
      fail "SA"
      refine w_appN rfl (by rw [List.length_map, hl]; unfold lineN; omega) (by repeat (first | exact SetAt.z | apply SetAt.s)) ?_
      fail "SA"
      refine ⟨gt ++ [1 + y], p7, _, _, _, _, _, _, _, _, _, _, _, _, _, _, _, _, _, by rw [List.length_append, hl]; rfl, fun g hg2 => ?_, by rw [List.map_append]; rfl⟩
      rcases List.mem_append.mp hg2 with hg2 | hg2
      · exact hg g hg2
      · rw [List.mem_singleton.mp hg2]; exact ⟨by omega, by omega⟩
    · subst hS
      have e9 : (gt.map D.int).length = gt.length := List.length_map ..
      fail "SA"
      refine w_lcW D.int (fun p : Pen => [.dic p.fs]) (fun _ x => 0 ≤ x ∧ x < cc + 1) rfl (by rw [rgD_len]; unfold lineN; omega) (fun i d p hd => ⟨_, rfl, rfl, ?_⟩) (fun wy p8 hwl hw0 => ?_)
      · fail "SA"
        refine sp_draw rfl (by omega) (by omega) fun y p9 hy0 hy1 => ?_
        fail "SA"
        exact ⟨p9, y, rfl, rfl, hy0, hy1⟩
      rw [rgD_len] at hwl
      have hw0 := all_get hw0
      have hR : Rd cc gt wy (wy.map fun y => cc - y) := ⟨by omega, by omega, by omega, by omega, by omega, by rw [List.length_map]; omega, fun g hg2 => by have := hg g hg2; omega, fun y hy => (hw0 y hy).1, fun y hy => by
        obtain ⟨z, hz9, rfl⟩ := List.mem_map.mp hy
        have := hw0 z hz9
        omega⟩
      have hne : gt ≠ [] := by intro z9; rw [z9] at hl; simp at hl; omega
      have hmg := hg _ (minI_mem hne)
      fail "SA"
      refine w_lcF (fun y : Int => D.int (cc - y)) rfl (by unfold lineN; omega) (fun y hy => ⟨_, rfl, rfl, ?_⟩) ?_
      · fail "SA"
        exact ⟨rfl, rfl⟩
      have e5 : wy.map (fun y : Int => D.int (cc - y)) = (wy.map fun y => cc - y).map D.int := by rw [List.map_map]; rfl
      rw [e5]
      fail "SA"
      refine sp_makeL hR ?_
      fail "SA"
      refine sp_both hR (by omega) ?_
      have e6 : (List.range (minI gt).toNat).map (fun i => D.int (wd cc gt wy (wy.map fun y => cc - y) (1 + (i : Nat)) : Nat)) = List.replicate (minI gt).toNat (D.int (minI gt)) := by
        rw [← List.length_range (n := (minI gt).toNat), ← List.map_const']
        rw [List.length_range]
        exact List.map_congr_left fun i hi => by
          have := List.mem_range.mp hi
          rw [whole_wd hR rfl (fun g hg2 => (hg g hg2).2) (by omega) (by omega)]
      rw [e6]
      fail "SA"
      refine w_best (.inl rfl) hne ?_
      fail "SA"
      refine w_best (.inl rfl) hne ?_
      fail "SA"
      rw [rep_map]
      refine sp_is (pln_ints (fun x : Int => x) _ (by rw [List.length_replicate]; unfold lineN; omega)) ?_
      fail "SA"
theorem plain : Bv.Plain F_law := plain_of r_law fun ns _ => law_ws ns
end Kt

namespace Kt
open PySem PySem.Spec PyProof.Rows L2 Bv
theorem all_mk (plain : Plain F_law) {l : PySem.W.OpenLaw} {w : World} {K : PySem.W.Frag} {h : Heap} {mg : Str → Option Value} {fa : Addr} (X : K.In h) (G : h.Ns mainGlobals mg) (hfa : mg "law" = some (.ref fa)) {C_Road f0 f1 f2 f3 f4 f5 f6 f7 f8 f9 f10 f11 f12 f13 f14 f15 f16 f17 f18 f19 f20 f21 f22 f23 f24 : Addr}
    {od0 an0 od1 an1 od2 an2 od3 an3 od4 an4 od5 an5 od6 an6 od7 an7 od8 an8 od9 an9 od10 an10 od11 an11 od12 an12 od13 an13 od14 an14 od15 an15 od16 an16 od17 an17 od18 an18 od19 an19 od20 an20 od21 an21 od22 an22 od23 an23 od24 an24 : Option Addr} {sl0 sl1 sl2 sl3 sl4 sl5 sl6 sl7 sl8 sl9 sl10 sl11 sl12 sl13 sl14 sl15 sl16 sl17 sl18 sl19 sl20 sl21 sl22 sl23 sl24 : Array (Option Value)} {oc0 kV0 dc0 pm0 cd0 ct0 oc1 kV1 dc1 pm1 cd1 ct1 oc2 kV2 dc2 pm2 cd2 ct2 oc3 kV3 dc3 pm3 cd3 ct3 oc4 kV4 dc4 pm4 cd4 ct4 oc5 kV5 dc5 pm5 cd5 ct5 oc6 kV6 dc6 pm6 cd6 ct6 oc7 kV7 dc7 pm7 cd7 ct7 oc8 kV8 dc8 pm8 cd8 ct8 oc9 kV9 dc9 pm9 cd9 ct9 oc10 kV10 dc10 pm10 cd10 ct10 oc11 kV11 dc11 pm11 cd11 ct11 oc12 kV12 dc12 pm12 cd12 ct12 oc13 kV13 dc13 pm13 cd13 ct13 oc14 kV14 dc14 pm14 cd14 ct14 oc15 kV15 dc15 pm15 cd15 ct15 oc16 kV16 dc16 pm16 cd16 ct16 oc17 kV17 dc17 pm17 cd17 ct17 oc18 kV18 dc18 pm18 cd18 ct18 oc19 kV19 dc19 pm19 cd19 ct19 oc20 kV20 dc20 pm20 cd20 ct20 oc21 kV21 dc21 pm21 cd21 ct21 oc22 kV22 dc22 pm22 cd22 ct22 oc23 kV23 dc23 pm23 cd23 ct23 oc24 kV24 dc24 pm24 cd24 ct24 : Value}
    (a_Road : PySem.W.nsIn K mainGlobals "Road" = some (some (.ref C_Road)))
    (a0 : PySem.W.nsIn K mainGlobals "_law_pen" = some (some (.ref f0)))
    (l0 : K.lookup f0 = some ⟨oc0, od0, .func (PySem.W.fnOf "_law_pen" "_law_pen" (defArgs s__law_pen) (defBody s__law_pen) (defScope s__law_pen) .none kV0 dc0 pm0 an0 cd0 ct0), sl0⟩)
    (c0 : PySem.W.codeIn K cd0 "_law_pen" = true)
    (k0 : PySem.W.keepIn K (.ref f0) = true)
    (a1 : PySem.W.nsIn K mainGlobals "_law_draw" = some (some (.ref f1)))
    (l1 : K.lookup f1 = some ⟨oc1, od1, .func (PySem.W.fnOf "_law_draw" "_law_draw" (defArgs s__law_draw) (defBody s__law_draw) (defScope s__law_draw) .none kV1 dc1 pm1 an1 cd1 ct1), sl1⟩)
    (c1 : PySem.W.codeIn K cd1 "_law_draw" = true)
    (k1 : PySem.W.keepIn K (.ref f1) = true)
    (a2 : PySem.W.nsIn K mainGlobals "_law_pick" = some (some (.ref f2)))
    (l2 : K.lookup f2 = some ⟨oc2, od2, .func (PySem.W.fnOf "_law_pick" "_law_pick" (defArgs s__law_pick) (defBody s__law_pick) (defScope s__law_pick) .none kV2 dc2 pm2 an2 cd2 ct2), sl2⟩)
    (c2 : PySem.W.codeIn K cd2 "_law_pick" = true)
    (k2 : PySem.W.keepIn K (.ref f2) = true)
    (a3 : PySem.W.nsIn K mainGlobals "_law_drawn_road" = some (some (.ref f3)))
    (l3 : K.lookup f3 = some ⟨oc3, od3, .func (PySem.W.fnOf "_law_drawn_road" "_law_drawn_road" (defArgs s__law_drawn_road) (defBody s__law_drawn_road) (defScope s__law_drawn_road) .none kV3 dc3 pm3 an3 cd3 ct3), sl3⟩)
    (c3 : PySem.W.codeIn K cd3 "_law_drawn_road" = true)
    (k3 : PySem.W.keepIn K (.ref f3) = true)
    (a4 : PySem.W.nsIn K mainGlobals "way_sum" = some (some (.ref f4)))
    (l4 : K.lookup f4 = some ⟨oc4, od4, .func (PySem.W.fnOf "way_sum" "way_sum" (defArgs s_way_sum) (defBody s_way_sum) (defScope s_way_sum) .none kV4 dc4 pm4 an4 cd4 ct4), sl4⟩)
    (c4 : PySem.W.codeIn K cd4 "way_sum" = true)
    (k4 : PySem.W.keepIn K (.ref f4) = true)
    (a5 : PySem.W.nsIn K mainGlobals "arc_by" = some (some (.ref f5)))
    (l5 : K.lookup f5 = some ⟨oc5, od5, .func (PySem.W.fnOf "arc_by" "arc_by" (defArgs s_arc_by) (defBody s_arc_by) (defScope s_arc_by) .none kV5 dc5 pm5 an5 cd5 ct5), sl5⟩)
    (c5 : PySem.W.codeIn K cd5 "arc_by" = true)
    (k5 : PySem.W.keepIn K (.ref f5) = true)
    (a6 : PySem.W.nsIn K mainGlobals "common_seconds" = some (some (.ref f6)))
    (l6 : K.lookup f6 = some ⟨oc6, od6, .func (PySem.W.fnOf "common_seconds" "common_seconds" (defArgs s_common_seconds) (defBody s_common_seconds) (defScope s_common_seconds) .none kV6 dc6 pm6 an6 cd6 ct6), sl6⟩)
    (c6 : PySem.W.codeIn K cd6 "common_seconds" = true)
    (k6 : PySem.W.keepIn K (.ref f6) = true)
    (a7 : PySem.W.nsIn K mainGlobals "can_band" = some (some (.ref f7)))
    (l7 : K.lookup f7 = some ⟨oc7, od7, .func (PySem.W.fnOf "can_band" "can_band" (defArgs s_can_band) (defBody s_can_band) (defScope s_can_band) .none kV7 dc7 pm7 an7 cd7 ct7), sl7⟩)
    (c7 : PySem.W.codeIn K cd7 "can_band" = true)
    (k7 : PySem.W.keepIn K (.ref f7) = true)
    (a8 : PySem.W.nsIn K mainGlobals "back_width" = some (some (.ref f8)))
    (l8 : K.lookup f8 = some ⟨oc8, od8, .func (PySem.W.fnOf "back_width" "back_width" (defArgs s_back_width) (defBody s_back_width) (defScope s_back_width) .none kV8 dc8 pm8 an8 cd8 ct8), sl8⟩)
    (c8 : PySem.W.codeIn K cd8 "back_width" = true)
    (k8 : PySem.W.keepIn K (.ref f8) = true)
    (a9 : PySem.W.nsIn K mainGlobals "both_widths" = some (some (.ref f9)))
    (l9 : K.lookup f9 = some ⟨oc9, od9, .func (PySem.W.fnOf "both_widths" "both_widths" (defArgs s_both_widths) (defBody s_both_widths) (defScope s_both_widths) .none kV9 dc9 pm9 an9 cd9 ct9), sl9⟩)
    (c9 : PySem.W.codeIn K cd9 "both_widths" = true)
    (k9 : PySem.W.keepIn K (.ref f9) = true)
    (a10 : PySem.W.nsIn K mainGlobals "_law_is" = some (some (.ref f10)))
    (l10 : K.lookup f10 = some ⟨oc10, od10, .func (PySem.W.fnOf "_law_is" "_law_is" (defArgs s__law_is) (defBody s__law_is) (defScope s__law_is) .none kV10 dc10 pm10 an10 cd10 ct10), sl10⟩)
    (c10 : PySem.W.codeIn K cd10 "_law_is" = true)
    (k10 : PySem.W.keepIn K (.ref f10) = true)
    (a11 : PySem.W.nsIn K mainGlobals "is_whole" = some (some (.ref f11)))
    (l11 : K.lookup f11 = some ⟨oc11, od11, .func (PySem.W.fnOf "is_whole" "is_whole" (defArgs s_is_whole) (defBody s_is_whole) (defScope s_is_whole) .none kV11 dc11 pm11 an11 cd11 ct11), sl11⟩)
    (c11 : PySem.W.codeIn K cd11 "is_whole" = true)
    (k11 : PySem.W.keepIn K (.ref f11) = true)
    (a12 : PySem.W.nsIn K mainGlobals "is_number" = some (some (.ref f12)))
    (l12 : K.lookup f12 = some ⟨oc12, od12, .func (PySem.W.fnOf "is_number" "is_number" (defArgs s_is_number) (defBody s_is_number) (defScope s_is_number) .none kV12 dc12 pm12 an12 cd12 ct12), sl12⟩)
    (c12 : PySem.W.codeIn K cd12 "is_number" = true)
    (k12 : PySem.W.keepIn K (.ref f12) = true)
    (a13 : PySem.W.nsIn K mainGlobals "known_ways" = some (some (.ref f13)))
    (l13 : K.lookup f13 = some ⟨oc13, od13, .func (PySem.W.fnOf "known_ways" "known_ways" (defArgs s_known_ways) (defBody s_known_ways) (defScope s_known_ways) .none kV13 dc13 pm13 an13 cd13 ct13), sl13⟩)
    (c13 : PySem.W.codeIn K cd13 "known_ways" = true)
    (k13 : PySem.W.keepIn K (.ref f13) = true)
    (a14 : PySem.W.findIn K (.ref C_Road) "__init__" = some (some (.ref f14)))
    (i14 : PySem.W.isFn K (.ref f14) = true)
    (l14 : K.lookup f14 = some ⟨oc14, od14, .func (PySem.W.fnOf "__init__" "Road.__init__" (defArgs s_RoadI) (defBody s_RoadI) (defScope s_RoadI) .none kV14 dc14 pm14 an14 cd14 ct14), sl14⟩)
    (c14 : PySem.W.codeIn K cd14 "Road.__init__" = true)
    (k14 : PySem.W.keepIn K (.ref f14) = true)
    (a15 : PySem.W.nsIn K mainGlobals "_law_made_road" = some (some (.ref f15)))
    (l15 : K.lookup f15 = some ⟨oc15, od15, .func (PySem.W.fnOf "_law_made_road" "_law_made_road" (defArgs s__law_made_road) (defBody s__law_made_road) (defScope s__law_made_road) .none kV15 dc15 pm15 an15 cd15 ct15), sl15⟩)
    (c15 : PySem.W.codeIn K cd15 "_law_made_road" = true)
    (k15 : PySem.W.keepIn K (.ref f15) = true)
    (a16 : PySem.W.nsIn K mainGlobals "_law_is_green" = some (some (.ref f16)))
    (l16 : K.lookup f16 = some ⟨oc16, od16, .func (PySem.W.fnOf "_law_is_green" "_law_is_green" (defArgs s__law_is_green) (defBody s__law_is_green) (defScope s__law_is_green) .none kV16 dc16 pm16 an16 cd16 ct16), sl16⟩)
    (c16 : PySem.W.codeIn K cd16 "_law_is_green" = true)
    (k16 : PySem.W.keepIn K (.ref f16) = true)
    (a17 : PySem.W.nsIn K mainGlobals "_law_arc" = some (some (.ref f17)))
    (l17 : K.lookup f17 = some ⟨oc17, od17, .func (PySem.W.fnOf "_law_arc" "_law_arc" (defArgs s__law_arc) (defBody s__law_arc) (defScope s__law_arc) .none kV17 dc17 pm17 an17 cd17 ct17), sl17⟩)
    (c17 : PySem.W.codeIn K cd17 "_law_arc" = true)
    (k17 : PySem.W.keepIn K (.ref f17) = true)
    (a18 : PySem.W.nsIn K mainGlobals "_law_common" = some (some (.ref f18)))
    (l18 : K.lookup f18 = some ⟨oc18, od18, .func (PySem.W.fnOf "_law_common" "_law_common" (defArgs s__law_common) (defBody s__law_common) (defScope s__law_common) .none kV18 dc18 pm18 an18 cd18 ct18), sl18⟩)
    (c18 : PySem.W.codeIn K cd18 "_law_common" = true)
    (k18 : PySem.W.keepIn K (.ref f18) = true)
    (a19 : PySem.W.nsIn K mainGlobals "_law_width" = some (some (.ref f19)))
    (l19 : K.lookup f19 = some ⟨oc19, od19, .func (PySem.W.fnOf "_law_width" "_law_width" (defArgs s__law_width) (defBody s__law_width) (defScope s__law_width) .none kV19 dc19 pm19 an19 cd19 ct19), sl19⟩)
    (c19 : PySem.W.codeIn K cd19 "_law_width" = true)
    (k19 : PySem.W.keepIn K (.ref f19) = true)
    (a20 : PySem.W.nsIn K mainGlobals "need_band" = some (some (.ref f20)))
    (l20 : K.lookup f20 = some ⟨oc20, od20, .func (PySem.W.fnOf "need_band" "need_band" (defArgs s_need_band) (defBody s_need_band) (defScope s_need_band) .none kV20 dc20 pm20 an20 cd20 ct20), sl20⟩)
    (c20 : PySem.W.codeIn K cd20 "need_band" = true)
    (k20 : PySem.W.keepIn K (.ref f20) = true)
    (a21 : PySem.W.nsIn K mainGlobals "widest_back" = some (some (.ref f21)))
    (l21 : K.lookup f21 = some ⟨oc21, od21, .func (PySem.W.fnOf "widest_back" "widest_back" (defArgs s_widest_back) (defBody s_widest_back) (defScope s_widest_back) .none kV21 dc21 pm21 an21 cd21 ct21), sl21⟩)
    (c21 : PySem.W.codeIn K cd21 "widest_back" = true)
    (k21 : PySem.W.keepIn K (.ref f21) = true)
    (a22 : PySem.W.nsIn K mainGlobals "widest_pair" = some (some (.ref f22)))
    (l22 : K.lookup f22 = some ⟨oc22, od22, .func (PySem.W.fnOf "widest_pair" "widest_pair" (defArgs s_widest_pair) (defBody s_widest_pair) (defScope s_widest_pair) .none kV22 dc22 pm22 an22 cd22 ct22), sl22⟩)
    (c22 : PySem.W.codeIn K cd22 "widest_pair" = true)
    (k22 : PySem.W.keepIn K (.ref f22) = true)
    (a23 : PySem.W.nsIn K mainGlobals "widest_equal" = some (some (.ref f23)))
    (l23 : K.lookup f23 = some ⟨oc23, od23, .func (PySem.W.fnOf "widest_equal" "widest_equal" (defArgs s_widest_equal) (defBody s_widest_equal) (defScope s_widest_equal) .none kV23 dc23 pm23 an23 cd23 ct23), sl23⟩)
    (c23 : PySem.W.codeIn K cd23 "widest_equal" = true)
    (k23 : PySem.W.keepIn K (.ref f23) = true)
    (a24 : PySem.W.nsIn K mainGlobals "law" = some (some (.ref f24)))
    (l24 : K.lookup f24 = some ⟨oc24, od24, .func (PySem.W.fnOf "law" "law" (defArgs s_law) (defBody s_law) (defScope s_law) .none kV24 dc24 pm24 an24 cd24 ct24), sl24⟩)
    (c24 : PySem.W.codeIn K cd24 "law" = true)
    (k24 : PySem.W.keepIn K (.ref f24) = true)
    (pg_Road : PySem.W.plainGet K C_Road Str.empty = true)
    (hd_Road : PySem.W.hasDictIn K C_Road = true)
    (po_Road : PySem.W.plainOver K C_Road = true)
    (sa_Road : PySem.W.findIn K (.ref C_Road) "__setattr__" = some (some (.builtin "object.__setattr__")))
    (ha_Road : PySem.W.findIn K (.ref C_Road) "__class__" = some (some (.builtin "object.__class__")))
    (hm_Road : PySem.W.mroIn K C_Road (.type "object") = some true)
    (mk_Road : PySem.W.makesIn K C_Road = true)
    (kc_Road : PySem.W.keepIn K (.ref C_Road) = true)
    (no_Road_there : PySem.W.findIn K (.ref C_Road) "there" = some none)
    (no_Road_back : PySem.W.findIn K (.ref C_Road) "back" = some none)
    (no_Road_greens : PySem.W.findIn K (.ref C_Road) "greens" = some none)
    (no_Road_cycle : PySem.W.findIn K (.ref C_Road) "cycle" = some none)
    (hn : PySem.W.specialIn K (.builtin "object.__class__") "__get__" = some (some (.builtin "getset_descriptor.__get__")))
    (htk : PySem.W.takesIn K (.builtin "object.__class__") = some true)
    (z_len : PySem.W.nsIn K mainGlobals "len" = some none)
    (z_int : PySem.W.nsIn K mainGlobals "int" = some none)
    (z_abs : PySem.W.nsIn K mainGlobals "abs" = some none)
    (z_sum : PySem.W.nsIn K mainGlobals "sum" = some none)
    (z_max : PySem.W.nsIn K mainGlobals "max" = some none)
    (z_min : PySem.W.nsIn K mainGlobals "min" = some none)
    (z_any : PySem.W.nsIn K mainGlobals "any" = some none)
    (z_all : PySem.W.nsIn K mainGlobals "all" = some none)
    (z_sorted : PySem.W.nsIn K mainGlobals "sorted" = some none)
    (z_tuple : PySem.W.nsIn K mainGlobals "tuple" = some none)
    (z_list : PySem.W.nsIn K mainGlobals "list" = some none)
    (z_isinstance : PySem.W.nsIn K mainGlobals "isinstance" = some none)
    (z_range : PySem.W.nsIn K mainGlobals "range" = some none)
    (z_enumerate : PySem.W.nsIn K mainGlobals "enumerate" = some none)
    (z_zip : PySem.W.nsIn K mainGlobals "zip" = some none)
    (z_str : PySem.W.nsIn K mainGlobals "str" = some none)
    (z_bool : PySem.W.nsIn K mainGlobals "bool" = some none)
    : ∃ fd : FuncData, (∀ (s : Shared) (v : Value), BindsTo s fd ⟨[v], []⟩ [("script", v)]) ∧ ∀ base : Heap, K.In base → base.Ns mainGlobals mg → FnOk l.prog w K mg base (L2.CX l.prog w) 8 fa fd ["script"] (spLaw K) := by
  have e := hfa.symm.trans (PySem.W.mg_of X G a24)
  cases e
  have hcl : ∀ p ∈ ([("Road", C_Road)] : List (Str × Addr)), ClsI K p.2 := (all2 ⟨⟨pg_Road, hd_Road, po_Road, sa_Road⟩, ha_Road, hn, htk, hm_Road⟩ all0)
  have u_tuple : uOf (nmOf K [("Road", C_Road)]) "tuple" = .type "tuple" := u_ty (by rfl) PyProof.Rows.boot_tuple
  have u_str : uOf (nmOf K [("Road", C_Road)]) "str" = .type "str" := u_ty (by rfl) PyProof.Rows.boot_str
  have u_int : uOf (nmOf K [("Road", C_Road)]) "int" = .type "int" := u_ty (by rfl) PyProof.Rows.boot_int
  have u_bool : uOf (nmOf K [("Road", C_Road)]) "bool" = .type "bool" := u_ty (by rfl) PyProof.Rows.boot_bool
  have u_list : uOf (nmOf K [("Road", C_Road)]) "list" = .type "list" := u_ty (by rfl) PyProof.Rows.boot_list
  have TX : Tx (nmOf K [("Road", C_Road)]) K mg tyL isiL fldL gcB := by
    refine ⟨(all2 (PySem.W.mg_none_of X G z_len) (all2 (PySem.W.mg_none_of X G z_int) (all2 (PySem.W.mg_none_of X G z_abs) (all2 (PySem.W.mg_none_of X G z_sum) (all2 (PySem.W.mg_none_of X G z_max) (all2 (PySem.W.mg_none_of X G z_min) (all2 (PySem.W.mg_none_of X G z_any) (all2 (PySem.W.mg_none_of X G z_all) (all2 (PySem.W.mg_none_of X G z_sorted) (all2 (PySem.W.mg_none_of X G z_tuple) (all2 (PySem.W.mg_none_of X G z_list) (all2 (PySem.W.mg_none_of X G z_isinstance) all0)))))))))))), PySem.W.mg_none_of X G z_range, PySem.W.mg_none_of X G z_enumerate, PySem.W.mg_none_of X G z_zip, (fun h => by unfold gcB at h; cases h), (all2 ⟨by decide, by decide, .inr ⟨"tuple", by rfl, PySem.W.mg_none_of X G z_tuple, PyProof.Rows.boot_tuple⟩⟩ (all2 ⟨by decide, by decide, .inr ⟨"str", by rfl, PySem.W.mg_none_of X G z_str, PyProof.Rows.boot_str⟩⟩ (all2 ⟨by decide, by decide, .inr ⟨"int", by rfl, PySem.W.mg_none_of X G z_int, PyProof.Rows.boot_int⟩⟩ (all2 ⟨by decide, by decide, .inr ⟨"bool", by rfl, PySem.W.mg_none_of X G z_bool, PyProof.Rows.boot_bool⟩⟩ (all2 ⟨by decide, by decide, .inr ⟨"list", by rfl, PySem.W.mg_none_of X G z_list, PyProof.Rows.boot_list⟩⟩ all0))))), ?_, cls_mk hcl, (all2 (noAt_mk hcl (all2 no_Road_there all0)) (all2 (noAt_mk hcl (all2 no_Road_back all0)) (all2 (noAt_mk hcl (all2 no_Road_greens all0)) (all2 (noAt_mk hcl (all2 no_Road_cycle all0)) all0))))⟩
    exact (all2 (isi_mk (t := Bv.Ty.b "NoneType") (u := (.type "NoneType")) (us := [.type "tuple"]) (by rfl) (by simp only [List.map_cons, List.map_nil, u_tuple]) (kitAny_bs (cs := ["tuple"]) (by decide +kernel))) (all2 (isi_mk (t := Bv.Ty.b "bool") (u := (.type "bool")) (us := [.type "tuple"]) (by rfl) (by simp only [List.map_cons, List.map_nil, u_tuple]) (kitAny_bs (cs := ["tuple"]) (by decide +kernel))) (all2 (isi_mk (t := Bv.Ty.b "int") (u := (.type "int")) (us := [.type "tuple"]) (by rfl) (by simp only [List.map_cons, List.map_nil, u_tuple]) (kitAny_bs (cs := ["tuple"]) (by decide +kernel))) (all2 (isi_mk (t := Bv.Ty.b "str") (u := (.type "str")) (us := [.type "tuple"]) (by rfl) (by simp only [List.map_cons, List.map_nil, u_tuple]) (kitAny_bs (cs := ["tuple"]) (by decide +kernel))) (all2 (isi_mk (t := Bv.Ty.b "list") (u := (.type "list")) (us := [.type "tuple"]) (by rfl) (by simp only [List.map_cons, List.map_nil, u_tuple]) (kitAny_bs (cs := ["tuple"]) (by decide +kernel))) (all2 (isi_mk (t := Bv.Ty.b "tuple") (u := (.type "tuple")) (us := [.type "tuple"]) (by rfl) (by simp only [List.map_cons, List.map_nil, u_tuple]) (kitAny_bs (cs := ["tuple"]) (by decide +kernel))) (all2 (isi_mk (t := Bv.Ty.b "dict") (u := (.type "dict")) (us := [.type "tuple"]) (by rfl) (by simp only [List.map_cons, List.map_nil, u_tuple]) (kitAny_bs (cs := ["tuple"]) (by decide +kernel))) (all2 (isi_mk (t := Bv.Ty.b "NoneType") (u := (.type "NoneType")) (us := [.type "str"]) (by rfl) (by simp only [List.map_cons, List.map_nil, u_str]) (kitAny_bs (cs := ["str"]) (by decide +kernel))) (all2 (isi_mk (t := Bv.Ty.b "bool") (u := (.type "bool")) (us := [.type "str"]) (by rfl) (by simp only [List.map_cons, List.map_nil, u_str]) (kitAny_bs (cs := ["str"]) (by decide +kernel))) (all2 (isi_mk (t := Bv.Ty.b "int") (u := (.type "int")) (us := [.type "str"]) (by rfl) (by simp only [List.map_cons, List.map_nil, u_str]) (kitAny_bs (cs := ["str"]) (by decide +kernel))) (all2 (isi_mk (t := Bv.Ty.b "str") (u := (.type "str")) (us := [.type "str"]) (by rfl) (by simp only [List.map_cons, List.map_nil, u_str]) (kitAny_bs (cs := ["str"]) (by decide +kernel))) (all2 (isi_mk (t := Bv.Ty.b "list") (u := (.type "list")) (us := [.type "str"]) (by rfl) (by simp only [List.map_cons, List.map_nil, u_str]) (kitAny_bs (cs := ["str"]) (by decide +kernel))) (all2 (isi_mk (t := Bv.Ty.b "tuple") (u := (.type "tuple")) (us := [.type "str"]) (by rfl) (by simp only [List.map_cons, List.map_nil, u_str]) (kitAny_bs (cs := ["str"]) (by decide +kernel))) (all2 (isi_mk (t := Bv.Ty.b "dict") (u := (.type "dict")) (us := [.type "str"]) (by rfl) (by simp only [List.map_cons, List.map_nil, u_str]) (kitAny_bs (cs := ["str"]) (by decide +kernel))) (all2 (isi_mk (t := Bv.Ty.b "NoneType") (u := (.type "NoneType")) (us := [.type "int"]) (by rfl) (by simp only [List.map_cons, List.map_nil, u_int]) (kitAny_bs (cs := ["int"]) (by decide +kernel))) (all2 (isi_mk (t := Bv.Ty.b "bool") (u := (.type "bool")) (us := [.type "int"]) (by rfl) (by simp only [List.map_cons, List.map_nil, u_int]) (kitAny_bs (cs := ["int"]) (by decide +kernel))) (all2 (isi_mk (t := Bv.Ty.b "int") (u := (.type "int")) (us := [.type "int"]) (by rfl) (by simp only [List.map_cons, List.map_nil, u_int]) (kitAny_bs (cs := ["int"]) (by decide +kernel))) (all2 (isi_mk (t := Bv.Ty.b "str") (u := (.type "str")) (us := [.type "int"]) (by rfl) (by simp only [List.map_cons, List.map_nil, u_int]) (kitAny_bs (cs := ["int"]) (by decide +kernel))) (all2 (isi_mk (t := Bv.Ty.b "list") (u := (.type "list")) (us := [.type "int"]) (by rfl) (by simp only [List.map_cons, List.map_nil, u_int]) (kitAny_bs (cs := ["int"]) (by decide +kernel))) (all2 (isi_mk (t := Bv.Ty.b "tuple") (u := (.type "tuple")) (us := [.type "int"]) (by rfl) (by simp only [List.map_cons, List.map_nil, u_int]) (kitAny_bs (cs := ["int"]) (by decide +kernel))) (all2 (isi_mk (t := Bv.Ty.b "dict") (u := (.type "dict")) (us := [.type "int"]) (by rfl) (by simp only [List.map_cons, List.map_nil, u_int]) (kitAny_bs (cs := ["int"]) (by decide +kernel))) (all2 (isi_mk (t := Bv.Ty.b "NoneType") (u := (.type "NoneType")) (us := [.type "bool"]) (by rfl) (by simp only [List.map_cons, List.map_nil, u_bool]) (kitAny_bs (cs := ["bool"]) (by decide +kernel))) (all2 (isi_mk (t := Bv.Ty.b "bool") (u := (.type "bool")) (us := [.type "bool"]) (by rfl) (by simp only [List.map_cons, List.map_nil, u_bool]) (kitAny_bs (cs := ["bool"]) (by decide +kernel))) (all2 (isi_mk (t := Bv.Ty.b "int") (u := (.type "int")) (us := [.type "bool"]) (by rfl) (by simp only [List.map_cons, List.map_nil, u_bool]) (kitAny_bs (cs := ["bool"]) (by decide +kernel))) (all2 (isi_mk (t := Bv.Ty.b "str") (u := (.type "str")) (us := [.type "bool"]) (by rfl) (by simp only [List.map_cons, List.map_nil, u_bool]) (kitAny_bs (cs := ["bool"]) (by decide +kernel))) (all2 (isi_mk (t := Bv.Ty.b "list") (u := (.type "list")) (us := [.type "bool"]) (by rfl) (by simp only [List.map_cons, List.map_nil, u_bool]) (kitAny_bs (cs := ["bool"]) (by decide +kernel))) (all2 (isi_mk (t := Bv.Ty.b "tuple") (u := (.type "tuple")) (us := [.type "bool"]) (by rfl) (by simp only [List.map_cons, List.map_nil, u_bool]) (kitAny_bs (cs := ["bool"]) (by decide +kernel))) (all2 (isi_mk (t := Bv.Ty.b "dict") (u := (.type "dict")) (us := [.type "bool"]) (by rfl) (by simp only [List.map_cons, List.map_nil, u_bool]) (kitAny_bs (cs := ["bool"]) (by decide +kernel))) (all2 (isi_mk (t := Bv.Ty.b "NoneType") (u := (.type "NoneType")) (us := [.type "list", .type "tuple"]) (by rfl) (by simp only [List.map_cons, List.map_nil, u_list, u_tuple]) (kitAny_bs (cs := ["list", "tuple"]) (by decide +kernel))) (all2 (isi_mk (t := Bv.Ty.b "bool") (u := (.type "bool")) (us := [.type "list", .type "tuple"]) (by rfl) (by simp only [List.map_cons, List.map_nil, u_list, u_tuple]) (kitAny_bs (cs := ["list", "tuple"]) (by decide +kernel))) (all2 (isi_mk (t := Bv.Ty.b "int") (u := (.type "int")) (us := [.type "list", .type "tuple"]) (by rfl) (by simp only [List.map_cons, List.map_nil, u_list, u_tuple]) (kitAny_bs (cs := ["list", "tuple"]) (by decide +kernel))) (all2 (isi_mk (t := Bv.Ty.b "str") (u := (.type "str")) (us := [.type "list", .type "tuple"]) (by rfl) (by simp only [List.map_cons, List.map_nil, u_list, u_tuple]) (kitAny_bs (cs := ["list", "tuple"]) (by decide +kernel))) (all2 (isi_mk (t := Bv.Ty.b "list") (u := (.type "list")) (us := [.type "list", .type "tuple"]) (by rfl) (by simp only [List.map_cons, List.map_nil, u_list, u_tuple]) (kitAny_bs (cs := ["list", "tuple"]) (by decide +kernel))) (all2 (isi_mk (t := Bv.Ty.b "tuple") (u := (.type "tuple")) (us := [.type "list", .type "tuple"]) (by rfl) (by simp only [List.map_cons, List.map_nil, u_list, u_tuple]) (kitAny_bs (cs := ["list", "tuple"]) (by decide +kernel))) (all2 (isi_mk (t := Bv.Ty.b "dict") (u := (.type "dict")) (us := [.type "list", .type "tuple"]) (by rfl) (by simp only [List.map_cons, List.map_nil, u_list, u_tuple]) (kitAny_bs (cs := ["list", "tuple"]) (by decide +kernel))) all0)))))))))))))))))))))))))))))))))))
  have G0 := fun_mk (st := s__law_pen) l0 c0 k0
  have b0 := G0.binds (ps := ["script"]) fun _ _ _ _ _ _ us hl => match us, hl with | [_], _ => rfl
  have G1 := fun_mk (st := s__law_draw) l1 c1 k1
  have b1 := G1.binds (ps := ["pen", "many"]) fun _ _ _ _ _ _ us hl => match us, hl with | [_, _], _ => rfl
  have G2 := fun_mk (st := s__law_pick) l2 c2 k2
  have b2 := G2.binds (ps := ["pen", "some"]) fun _ _ _ _ _ _ us hl => match us, hl with | [_, _], _ => rfl
  have G3 := fun_mk (st := s__law_drawn_road) l3 c3 k3
  have b3 := G3.binds (ps := ["pen", "most", "cycles"]) fun _ _ _ _ _ _ us hl => match us, hl with | [_, _, _], _ => rfl
  have G4 := fun_mk (st := s_way_sum) l4 c4 k4
  have b4 := G4.binds (ps := ["road", "signal"]) fun _ _ _ _ _ _ us hl => match us, hl with | [_, _], _ => rfl
  have G5 := fun_mk (st := s_arc_by) l5 c5 k5
  have b5 := G5.binds (ps := ["road", "signal", "f", "b"]) fun _ _ _ _ _ _ us hl => match us, hl with | [_, _, _, _], _ => rfl
  have G6 := fun_mk (st := s_common_seconds) l6 c6 k6
  have b6 := G6.binds (ps := ["road", "signals", "f", "b"]) fun _ _ _ _ _ _ us hl => match us, hl with | [_, _, _, _], _ => rfl
  have G7 := fun_mk (st := s_can_band) l7 c7 k7
  have b7 := G7.binds (ps := ["road", "f", "b"]) fun _ _ _ _ _ _ us hl => match us, hl with | [_, _, _], _ => rfl
  have G8 := fun_mk (st := s_back_width) l8 c8 k8
  have b8 := G8.binds (ps := ["road", "f"]) fun _ _ _ _ _ _ us hl => match us, hl with | [_, _], _ => rfl
  have G9 := fun_mk (st := s_both_widths) l9 c9 k9
  have b9 := G9.binds (ps := ["road"]) fun _ _ _ _ _ _ us hl => match us, hl with | [_], _ => rfl
  have G10 := fun_mk (st := s__law_is) l10 c10 k10
  have b10 := G10.binds (ps := ["told", "due"]) fun _ _ _ _ _ _ us hl => match us, hl with | [_, _], _ => rfl
  have G11 := fun_mk (st := s_is_whole) l11 c11 k11
  have b11 := G11.binds (ps := ["value"]) fun _ _ _ _ _ _ us hl => match us, hl with | [_], _ => rfl
  have G12 := fun_mk (st := s_is_number) l12 c12 k12
  have b12 := G12.binds (ps := ["value"]) fun _ _ _ _ _ _ us hl => match us, hl with | [_], _ => rfl
  have G13 := fun_mk (st := s_known_ways) l13 c13 k13
  have b13 := G13.binds (ps := ["what", "ways", "many"]) fun _ _ _ _ _ _ us hl => match us, hl with | [_, _, _], _ => rfl
  have G14 := fun_mk (st := s_RoadI) l14 c14 k14
  have b14 := G14.binds (ps := ["self", "cycle", "greens", "there", "back"]) fun _ _ _ _ _ _ us hl => match us, hl with | [_, _, _, _, _], _ => rfl
  have G15 := fun_mk (st := s__law_made_road) l15 c15 k15
  have b15 := G15.binds (ps := ["road"]) fun _ _ _ _ _ _ us hl => match us, hl with | [_], _ => rfl
  have G16 := fun_mk (st := s__law_is_green) l16 c16 k16
  have b16 := G16.binds (ps := ["road", "offsets", "signal", "second"]) fun _ _ _ _ _ _ us hl => match us, hl with | [_, _, _, _], _ => rfl
  have G17 := fun_mk (st := s__law_arc) l17 c17 k17
  have b17 := G17.binds (ps := ["road", "signal", "f", "b"]) fun _ _ _ _ _ _ us hl => match us, hl with | [_, _, _, _], _ => rfl
  have G18 := fun_mk (st := s__law_common) l18 c18 k18
  have b18 := G18.binds (ps := ["road", "signals", "f", "b"]) fun _ _ _ _ _ _ us hl => match us, hl with | [_, _, _, _], _ => rfl
  have G19 := fun_mk (st := s__law_width) l19 c19 k19
  have b19 := G19.binds (ps := ["road", "f"]) fun _ _ _ _ _ _ us hl => match us, hl with | [_, _], _ => rfl
  have G20 := fun_mk (st := s_need_band) l20 c20 k20
  have b20 := G20.binds (ps := ["road", "what", "number"]) fun _ _ _ _ _ _ us hl => match us, hl with | [_, _, _], _ => rfl
  have G21 := fun_mk (st := s_widest_back) l21 c21 k21
  have b21 := G21.binds (ps := ["road", "f"]) fun _ _ _ _ _ _ us hl => match us, hl with | [_, _], _ => rfl
  have G22 := fun_mk (st := s_widest_pair) l22 c22 k22
  have b22 := G22.binds (ps := ["road"]) fun _ _ _ _ _ _ us hl => match us, hl with | [_], _ => rfl
  have G23 := fun_mk (st := s_widest_equal) l23 c23 k23
  have b23 := G23.binds (ps := ["road"]) fun _ _ _ _ _ _ us hl => match us, hl with | [_], _ => rfl
  have G24 := fun_mk (st := s_law) l24 c24 k24
  have b24 := G24.binds (ps := ["script"]) fun _ _ _ _ _ _ us hl => match us, hl with | [_], _ => rfl
  refine ⟨PySem.W.fnOf "law" "law" (defArgs s_law) (defBody s_law) (defScope s_law) .none kV24 dc24 pm24 an24 cd24 ct24, fun s v => .of_eq rfl, fun base _ _ => ?_⟩
  have D0 : ∀ j, 1 ≤ j → Df (nmOf K [("Road", C_Road)]) l.prog w K mg base j ("_law_pen", 1, F__law_pen) := fun j hj => df_mk rfl G0 sc__law_pen nm__law_pen (k := 0) (gk_mk TX all0 all0) (by decide) (PySem.W.mg_of X G a0) b0 hj
  have D1 : ∀ j, 1 ≤ j → Df (nmOf K [("Road", C_Road)]) l.prog w K mg base j ("_law_draw", 2, F__law_draw) := fun j hj => df_mk rfl G1 sc__law_draw nm__law_draw (k := 0) (gk_mk TX all0 all0) (by decide) (PySem.W.mg_of X G a1) b1 hj
  have D2 : ∀ j, 2 ≤ j → Df (nmOf K [("Road", C_Road)]) l.prog w K mg base j ("_law_pick", 2, F__law_pick) := fun j hj => df_mk rfl G2 sc__law_pick nm__law_pick (k := 1) (gk_mk TX (all2 (D1 _ (by decide)) all0) all0) (by decide) (PySem.W.mg_of X G a2) b2 hj
  have D3 : ∀ j, 3 ≤ j → Df (nmOf K [("Road", C_Road)]) l.prog w K mg base j ("_law_drawn_road", 3, F__law_drawn_road) := fun j hj => df_mk rfl G3 sc__law_drawn_road nm__law_drawn_road (k := 2) (gk_mk TX (all2 (D2 _ (by decide)) (all2 (D1 _ (by decide)) all0)) all0) (by decide) (PySem.W.mg_of X G a3) b3 hj
  have D4 : ∀ j, 1 ≤ j → Df (nmOf K [("Road", C_Road)]) l.prog w K mg base j ("way_sum", 2, F_way_sum) := fun j hj => df_mk rfl G4 sc_way_sum nm_way_sum (k := 0) (gk_mk TX all0 all0) (by decide) (PySem.W.mg_of X G a4) b4 hj
  have D5 : ∀ j, 2 ≤ j → Df (nmOf K [("Road", C_Road)]) l.prog w K mg base j ("arc_by", 4, F_arc_by) := fun j hj => df_mk rfl G5 sc_arc_by nm_arc_by (k := 1) (gk_mk TX (all2 (D4 _ (by decide)) all0) all0) (by decide) (PySem.W.mg_of X G a5) b5 hj
  have D6 : ∀ j, 3 ≤ j → Df (nmOf K [("Road", C_Road)]) l.prog w K mg base j ("common_seconds", 4, F_common_seconds) := fun j hj => df_mk rfl G6 sc_common_seconds nm_common_seconds (k := 2) (gk_mk TX (all2 (D5 _ (by decide)) all0) all0) (by decide) (PySem.W.mg_of X G a6) b6 hj
  have D7 : ∀ j, 4 ≤ j → Df (nmOf K [("Road", C_Road)]) l.prog w K mg base j ("can_band", 3, F_can_band) := fun j hj => df_mk rfl G7 sc_can_band nm_can_band (k := 3) (gk_mk TX (all2 (D6 _ (by decide)) all0) all0) (by decide) (PySem.W.mg_of X G a7) b7 hj
  have D8 : ∀ j, 5 ≤ j → Df (nmOf K [("Road", C_Road)]) l.prog w K mg base j ("back_width", 2, F_back_width) := fun j hj => df_mk rfl G8 sc_back_width nm_back_width (k := 4) (gk_mk TX (all2 (D7 _ (by decide)) all0) all0) (by decide) (PySem.W.mg_of X G a8) b8 hj
  have D9 : ∀ j, 6 ≤ j → Df (nmOf K [("Road", C_Road)]) l.prog w K mg base j ("both_widths", 1, F_both_widths) := fun j hj => df_mk rfl G9 sc_both_widths nm_both_widths (k := 5) (gk_mk TX (all2 (D8 _ (by decide)) all0) all0) (by decide) (PySem.W.mg_of X G a9) b9 hj
  have R10 : ∀ t : Nat, ∀ j, 1 + t ≤ j → Df (nmOf K [("Road", C_Road)]) l.prog w K mg base j ("_law_is", 2, F__law_iss t) := by
    intro t
    induction t with
    | zero => exact fun j hj => df_bad (df_mk (u := []) rfl G10 sc__law_is nm__law_is (k := 0) (gk_mk (fn := []) (cl := []) TX all0 all0) (by decide) (PySem.W.mg_of X G a10) b10 hj)
    | succ t ih =>
      intro j hj
      exact df_mk rfl G10 sc__law_is nm__law_is (gk_mk TX (all2 (ih _ (Nat.le_refl _)) all0) all0) (by decide) (PySem.W.mg_of X G a10) b10 (by omega)
  have D10 : ∀ j, 4 ≤ j → Df (nmOf K [("Road", C_Road)]) l.prog w K mg base j ("_law_is", 2, F__law_is) := fun j hj => R10 3 j (by omega)
  have D11 : ∀ j, 1 ≤ j → Df (nmOf K [("Road", C_Road)]) l.prog w K mg base j ("is_whole", 1, F_is_whole) := fun j hj => df_mk rfl G11 sc_is_whole nm_is_whole (k := 0) (gk_mk TX all0 all0) (by decide) (PySem.W.mg_of X G a11) b11 hj
  have D12 : ∀ j, 2 ≤ j → Df (nmOf K [("Road", C_Road)]) l.prog w K mg base j ("is_number", 1, F_is_number) := fun j hj => df_mk rfl G12 sc_is_number nm_is_number (k := 1) (gk_mk TX (all2 (D11 _ (by decide)) all0) all0) (by decide) (PySem.W.mg_of X G a12) b12 hj
  have D13 : ∀ j, 3 ≤ j → Df (nmOf K [("Road", C_Road)]) l.prog w K mg base j ("known_ways", 3, F_known_ways) := fun j hj => df_mk rfl G13 sc_known_ways nm_known_ways (k := 2) (gk_mk TX (all2 (D12 _ (by decide)) all0) all0) (by decide) (PySem.W.mg_of X G a13) b13 hj
  have D14 : ∀ j, 5 ≤ j → Dc (nmOf K [("Road", C_Road)]) l.prog w K mg base j ("Road", 4, F_RoadI) := fun j hj => dc_mk rfl rfl G14 sc_RoadI nm_RoadI (k := 3) (gk_mk TX (all2 (D13 _ (by decide)) (all2 (D11 _ (by decide)) all0)) all0) (by decide) ⟨mk_Road, a14, i14, kc_Road⟩ (by rfl) (PySem.W.mg_of X G a_Road) b14 hj
  have D15 : ∀ j, 6 ≤ j → Df (nmOf K [("Road", C_Road)]) l.prog w K mg base j ("_law_made_road", 1, F__law_made_road) := fun j hj => df_mk rfl G15 sc__law_made_road nm__law_made_road (k := 5) (gk_mk TX all0 (all2 (D14 _ (by decide)) all0)) (by decide) (PySem.W.mg_of X G a15) b15 hj
  have D16 : ∀ j, 1 ≤ j → Df (nmOf K [("Road", C_Road)]) l.prog w K mg base j ("_law_is_green", 4, F__law_is_green) := fun j hj => df_mk rfl G16 sc__law_is_green nm__law_is_green (k := 0) (gk_mk TX all0 all0) (by decide) (PySem.W.mg_of X G a16) b16 hj
  have D17 : ∀ j, 2 ≤ j → Df (nmOf K [("Road", C_Road)]) l.prog w K mg base j ("_law_arc", 4, F__law_arc) := fun j hj => df_mk rfl G17 sc__law_arc nm__law_arc (k := 1) (gk_mk TX (all2 (D16 _ (by decide)) all0) all0) (by decide) (PySem.W.mg_of X G a17) b17 hj
  have D18 : ∀ j, 3 ≤ j → Df (nmOf K [("Road", C_Road)]) l.prog w K mg base j ("_law_common", 4, F__law_common) := fun j hj => df_mk rfl G18 sc__law_common nm__law_common (k := 2) (gk_mk TX (all2 (D17 _ (by decide)) all0) all0) (by decide) (PySem.W.mg_of X G a18) b18 hj
  have D19 : ∀ j, 4 ≤ j → Df (nmOf K [("Road", C_Road)]) l.prog w K mg base j ("_law_width", 2, F__law_width) := fun j hj => df_mk rfl G19 sc__law_width nm__law_width (k := 3) (gk_mk TX (all2 (D18 _ (by decide)) all0) all0) (by decide) (PySem.W.mg_of X G a19) b19 hj
  have D20 : ∀ j, 2 ≤ j → Df (nmOf K [("Road", C_Road)]) l.prog w K mg base j ("need_band", 3, F_need_band) := fun j hj => df_mk rfl G20 sc_need_band nm_need_band (k := 1) (gk_mk TX (all2 (D11 _ (by decide)) all0) all0) (by decide) (PySem.W.mg_of X G a20) b20 hj
  have D21 : ∀ j, 6 ≤ j → Df (nmOf K [("Road", C_Road)]) l.prog w K mg base j ("widest_back", 2, F_widest_back) := fun j hj => df_mk rfl G21 sc_widest_back nm_widest_back (k := 5) (gk_mk TX (all2 (D20 _ (by decide)) (all2 (D8 _ (by decide)) all0)) all0) (by decide) (PySem.W.mg_of X G a21) b21 hj
  have D22 : ∀ j, 7 ≤ j → Df (nmOf K [("Road", C_Road)]) l.prog w K mg base j ("widest_pair", 1, F_widest_pair) := fun j hj => df_mk rfl G22 sc_widest_pair nm_widest_pair (k := 6) (gk_mk TX (all2 (D9 _ (by decide)) all0) all0) (by decide) (PySem.W.mg_of X G a22) b22 hj
  have D23 : ∀ j, 5 ≤ j → Df (nmOf K [("Road", C_Road)]) l.prog w K mg base j ("widest_equal", 1, F_widest_equal) := fun j hj => df_mk rfl G23 sc_widest_equal nm_widest_equal (k := 4) (gk_mk TX (all2 (D7 _ (by decide)) all0) all0) (by decide) (PySem.W.mg_of X G a23) b23 hj
  exact (def_ok (n := nmOf K [("Road", C_Road)]) G24 sc_law rfl nm_law (k := 7) (gk_mk TX (all2 (D0 _ (by decide)) (all2 (D3 _ (by decide)) (all2 (D9 _ (by decide)) (all2 (D10 _ (by decide)) (all2 (D15 _ (by decide)) (all2 (D19 _ (by decide)) (all2 (D1 _ (by decide)) (all2 (D21 _ (by decide)) (all2 (D22 _ (by decide)) (all2 (D23 _ (by decide)) all0)))))))))) (all2 (D14 _ (by decide)) all0))).imp (law_imp (n := nmOf K [("Road", C_Road)]) plain)
end Kt
open PySem PySem.W PyProof.Rows in
set_option maxRecDepth 100000 in
set_option maxHeartbeats 0 in
theorem PySem.Challenge.cw_greenshares_k53_whole_widths_of_bands_holds : PySem.Challenge.rw_greenshares_k53_whole_widths_of_bands.Holds := by
  w_on; o_law; k_head; (case hw => w_witness2)
  k_fill
  refine Bv.law_walk (l := PySem.Challenge.rw_greenshares_k53_whole_widths_of_bands) 8 rfl rfl ⟨rfl, by decide, by decide⟩ (fun w h Y => PySem.W.kIn_of Y) ?F
  case F =>
    intro w mg fa h KX G hmg
    refine' Kt.all_mk Kt.plain KX G hmg ?a_Road ?a0 ?l0 ?c0 ?k0 ?a1 ?l1 ?c1 ?k1 ?a2 ?l2 ?c2 ?k2 ?a3 ?l3 ?c3 ?k3 ?a4 ?l4 ?c4 ?k4 ?a5 ?l5 ?c5 ?k5 ?a6 ?l6 ?c6 ?k6 ?a7 ?l7 ?c7 ?k7 ?a8 ?l8 ?c8 ?k8 ?a9 ?l9 ?c9 ?k9 ?a10 ?l10 ?c10 ?k10 ?a11 ?l11 ?c11 ?k11 ?a12 ?l12 ?c12 ?k12 ?a13 ?l13 ?c13 ?k13 ?a14 ?i14 ?l14 ?c14 ?k14 ?a15 ?l15 ?c15 ?k15 ?a16 ?l16 ?c16 ?k16 ?a17 ?l17 ?c17 ?k17 ?a18 ?l18 ?c18 ?k18 ?a19 ?l19 ?c19 ?k19 ?a20 ?l20 ?c20 ?k20 ?a21 ?l21 ?c21 ?k21 ?a22 ?l22 ?c22 ?k22 ?a23 ?l23 ?c23 ?k23 ?a24 ?l24 ?c24 ?k24 ?pg_Road ?hd_Road ?po_Road ?sa_Road ?ha_Road ?hm_Road ?mk_Road ?kc_Road ?no_Road_there ?no_Road_back ?no_Road_greens ?no_Road_cycle ?hn ?htk ?z_len ?z_int ?z_abs ?z_sum ?z_max ?z_min ?z_any ?z_all ?z_sorted ?z_tuple ?z_list ?z_isinstance ?z_range ?z_enumerate ?z_zip ?z_str ?z_bool
    (case a_Road => k_is)
    (case a0 => k_is)
    (case l0 => k_is)
    (case c0 => k_is)
    (case k0 => k_is)
    (case a1 => k_is)
    (case l1 => k_is)
    (case c1 => k_is)
    (case k1 => k_is)
    (case a2 => k_is)
    (case l2 => k_is)
    (case c2 => k_is)
    (case k2 => k_is)
    (case a3 => k_is)
    (case l3 => k_is)
    (case c3 => k_is)
    (case k3 => k_is)
    (case a4 => k_is)
    (case l4 => k_is)
    (case c4 => k_is)
    (case k4 => k_is)
    (case a5 => k_is)
    (case l5 => k_is)
    (case c5 => k_is)
    (case k5 => k_is)
    (case a6 => k_is)
    (case l6 => k_is)
    (case c6 => k_is)
    (case k6 => k_is)
    (case a7 => k_is)
    (case l7 => k_is)
    (case c7 => k_is)
    (case k7 => k_is)
    (case a8 => k_is)
    (case l8 => k_is)
    (case c8 => k_is)
    (case k8 => k_is)
    (case a9 => k_is)
    (case l9 => k_is)
    (case c9 => k_is)
    (case k9 => k_is)
    (case a10 => k_is)
    (case l10 => k_is)
    (case c10 => k_is)
    (case k10 => k_is)
    (case a11 => k_is)
    (case l11 => k_is)
    (case c11 => k_is)
    (case k11 => k_is)
    (case a12 => k_is)
    (case l12 => k_is)
    (case c12 => k_is)
    (case k12 => k_is)
    (case a13 => k_is)
    (case l13 => k_is)
    (case c13 => k_is)
    (case k13 => k_is)
    (case a14 => k_is)
    (case i14 => k_is)
    (case l14 => k_is)
    (case c14 => k_is)
    (case k14 => k_is)
    (case a15 => k_is)
    (case l15 => k_is)
    (case c15 => k_is)
    (case k15 => k_is)
    (case a16 => k_is)
    (case l16 => k_is)
    (case c16 => k_is)
    (case k16 => k_is)
    (case a17 => k_is)
    (case l17 => k_is)
    (case c17 => k_is)
    (case k17 => k_is)
    (case a18 => k_is)
    (case l18 => k_is)
    (case c18 => k_is)
    (case k18 => k_is)
    (case a19 => k_is)
    (case l19 => k_is)
    (case c19 => k_is)
    (case k19 => k_is)
    (case a20 => k_is)
    (case l20 => k_is)
    (case c20 => k_is)
    (case k20 => k_is)
    (case a21 => k_is)
    (case l21 => k_is)
    (case c21 => k_is)
    (case k21 => k_is)
    (case a22 => k_is)
    (case l22 => k_is)
    (case c22 => k_is)
    (case k22 => k_is)
    (case a23 => k_is)
    (case l23 => k_is)
    (case c23 => k_is)
    (case k23 => k_is)
    (case a24 => k_is)
    (case l24 => k_is)
    (case c24 => k_is)
    (case k24 => k_is)
    (case pg_Road => k_is)
    (case hd_Road => k_is)
    (case po_Road => k_is)
    (case sa_Road => k_is)
    (case ha_Road => k_is)
    (case hm_Road => k_is)
    (case mk_Road => k_is)
    (case kc_Road => k_is)
    (case no_Road_there => k_is)
    (case no_Road_back => k_is)
    (case no_Road_greens => k_is)
    (case no_Road_cycle => k_is)
    (case hn => k_is)
    (case htk => k_is)
    (case z_len => k_is)
    (case z_int => k_is)
    (case z_abs => k_is)
    (case z_sum => k_is)
    (case z_max => k_is)
    (case z_min => k_is)
    (case z_any => k_is)
    (case z_all => k_is)
    (case z_sorted => k_is)
    (case z_tuple => k_is)
    (case z_list => k_is)
    (case z_isinstance => k_is)
    (case z_range => k_is)
    (case z_enumerate => k_is)
    (case z_zip => k_is)
    (case z_str => k_is)
    (case z_bool => k_is)

