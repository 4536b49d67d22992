import PyProof.Rows.All
import Wide.All
import OpenK.AllK
import Wide.FinOn
import HandS.ForMost
import HandS.ForExc
import HandS.TupAny
import HandS.TupMul
import HandS.Deep
import HandS.Style
import HandS.IsInst
import HandS.SortInts
import HandS.Conv
import HandS.Walk
import HandS.Zip
import HandS.TupLen
import HandS.Dict
import HandS.Flow
import PyProof.EnumMake
import PyProof.Draws
import HandS.Iter
import HandS.Zip0
import KE.KTupSum
import HandS.Gcd
import KE.KDictWalk
import HandS.NamedTupSort
import HandS.DictTup
import HandS.More
import HandS.DictComp
import HandS.SortKw
import HandS.Text
import HandS.OwnEq
import HandS.ExcOwn
import HandS.Star
import HandS.Ends
import PySem.Challenge.RW_greenshares_k03_whole_phases
import KE.RegKIsAll
set_option Elab.async false
set_option linter.all false
set_option maxRecDepth 100000
set_option maxHeartbeats 0
/-! values by value -/
namespace Bv
open PySem PySem.Spec PyProof.Rows L2

/-- a value by value; mref: an object of the store -/
inductive D where
  | non | bl (b : Bool) | int (i : Int) | str (x : Str)
  | lst (xs : List D) | tup (xs : List D)
  | dic (kvs : List (D × D))
  | inst (C : Str) (fs : List (Str × D))
  | fn (x : Str)
  | mref (n : Nat)
  | scr (xs : List D)

/-- an object of the store -/
inductive MO where
  | dic (fs : List (Str × D))
  | inst (C : Str) (fs : List (Str × D))

/-- what a slot holds: a shared value, or an own list, dict, instance that nothing else knows -/
inductive L where
  | sh (d : D) | ol (ds : List D) | od (kvs : List (D × D)) | oi (b : Bool) (C : Str) (fs : List (Str × D))
def L.d : L → D
  | .sh d => d
  | .ol ds => .lst ds
  | .od kvs => .dic kvs
  | .oi _ C fs => .inst C fs

structure S where
  sl : List (Option L)
  st : List MO

inductive Res (α : Type) where
  | ok (a : α) (s : S) | exc (C : Str) (fs : List (Str × D)) (s : S) | bad

def M (α : Type) := S → Res α
def M.pure {α : Type} (a : α) : M α := fun s => .ok a s
def M.bind {α β : Type} (m : M α) (k : α → M β) : M β := fun s => match m s with
  | .ok a s' => k a s'
  | .exc C fs s' => .exc C fs s'
  | .bad => .bad
instance : Monad M where
  pure := M.pure
  bind := M.bind
def bad {α : Type} : M α := fun _ => .bad

/-- statements -/
inductive Fl where
  | nx (s : S) | rt (x : L) (s : S) | bk (s : S) | ct (s : S) | exc (C : Str) (fs : List (Str × D)) (s : S) | bad
abbrev MS := S → Fl

/-- the classes and defs of the text by name -/
structure Nm where
  K : PySem.W.Frag
  cA : Str → Option Addr
  gA : Str → Option Addr

def isT : D → Bool
  | .tup _ => true
  | _ => false
def keyOf : D → Option Key
  | .int i => some (.inl i)
  | .str x => some (.inr x)
  | _ => none
def keysOf : List D → Option (List Key)
  | [] => some []
  | d :: ds => match keyOf d, keysOf ds with
    | some k, some ks => some (k :: ks)
    | _, _ => none
def tkeyOf : D → Option (List Key)
  | .tup ds => keysOf ds
  | _ => none

mutual
inductive Is (n : Nm) (F : Hp) (φ : List Addr) : V → D → Prop
  | non : Is n F φ .non .non
  | bl (b : Bool) : Is n F φ (.bl b) (.bl b)
  | int (i : Int) : Is n F φ (.int i) (.int i)
  | str (x : Str) : Is n F φ (.str x) (.str x)
  | lst {a : Addr} {xs : List V} {ds : List D} : F a = some (.lst xs) → IsL n F φ xs ds → Is n F φ (.ref a) (.lst ds)
  | tup {a : Addr} {xs : List V} {ds : List D} : F a = some (.tup xs) → IsL n F φ xs ds → Is n F φ (.ref a) (.tup ds)
  | dicK {a : Addr} {kvs : List (Key × V)} {ds : List (D × D)} : F a = some (.dK kvs) → IsK n F φ kvs ds → Is n F φ (.ref a) (.dic ds)
  | dicT {a : Addr} {kvs : List (List Key × V)} {ds : List (D × D)} : F a = some (.dT kvs) → IsKT n F φ kvs ds → Is n F φ (.ref a) (.dic ds)
  | inst {a C dx : Addr} {x : Str} {fs : List (Str × V)} {ds : List (Str × D)} : n.cA x = some C → F a = some (.ins C dx fs) → IsF n F φ fs ds → Is n F φ (.ref a) (.inst x ds)
  | fn {a : Addr} {x : Str} : n.gA x = some a → Is n F φ (.ref a) (.fn x)
  | mref {a : Addr} {k : Nat} : φ[k]? = some a → Is n F φ (.ref a) (.mref k)
  | scr {a : Addr} {xs : List V} {ds : List D} : SqL n.K F a xs → IsL n F φ xs ds → Is n F φ (.ref a) (.scr ds)
inductive IsL (n : Nm) (F : Hp) (φ : List Addr) : List V → List D → Prop
  | nil : IsL n F φ [] []
  | cons {v : V} {vs : List V} {d : D} {ds : List D} : Is n F φ v d → IsL n F φ vs ds → IsL n F φ (v :: vs) (d :: ds)
inductive IsF (n : Nm) (F : Hp) (φ : List Addr) : List (Str × V) → List (Str × D) → Prop
  | nil : IsF n F φ [] []
  | cons {f : Str} {v : V} {vs : List (Str × V)} {d : D} {ds : List (Str × D)} : Is n F φ v d → IsF n F φ vs ds → IsF n F φ ((f, v) :: vs) ((f, d) :: ds)
inductive IsK (n : Nm) (F : Hp) (φ : List Addr) : List (Key × V) → List (D × D) → Prop
  | nil : IsK n F φ [] []
  | cons {k : Key} {v : V} {vs : List (Key × V)} {kd d : D} {ds : List (D × D)} : keyOf kd = some k → Is n F φ v d → IsK n F φ vs ds → IsK n F φ ((k, v) :: vs) ((kd, d) :: ds)
inductive IsKT (n : Nm) (F : Hp) (φ : List Addr) : List (List Key × V) → List (D × D) → Prop
  | one {k : List Key} {v : V} {kd d : D} : tkeyOf kd = some k → Is n F φ v d → IsKT n F φ [(k, v)] [(kd, d)]
  | cons {k : List Key} {v : V} {vs : List (List Key × V)} {kd d : D} {ds : List (D × D)} : tkeyOf kd = some k → Is n F φ v d → IsKT n F φ vs ds → IsKT n F φ ((k, v) :: vs) ((kd, d) :: ds)
end

/-- parts of a heap -/
def Sub (F G : Hp) : Prop := ∀ b o, F b = some o → G b = some o
theorem Sub.refl (F : Hp) : Sub F F := fun _ _ h => h
theorem Sub.trans {F G H : Hp} (a : Sub F G) (b : Sub G H) : Sub F H := fun c o h => b c o (a c o h)
theorem Sub.seqL {K : PySem.W.Frag} {F G : Hp} (s : Sub F G) {a : Addr} {xs : List V} (h : SqL K F a xs) : SqL K G a xs := Same.seq s h
theorem Sub.seqT {K : PySem.W.Frag} {F G : Hp} (s : Sub F G) {a : Addr} {xs : List V} (h : SqT K F a xs) : SqT K G a xs := by
  rcases h with (h | ⟨o, h⟩) | h
  · exact .inl (.inl (s _ _ h))
  · exact .inl (.inr ⟨o, s _ _ h⟩)
  · exact .inr h

section
variable {n : Nm} {F G : Hp} {φ ψ : List Addr}
mutual
theorem Is.mono (s : Sub F G) : ∀ {v : V} {d : D}, Is n F φ v d → Is n G (φ ++ ψ) v d
  | _, _, .non => .non
  | _, _, .bl b => .bl b
  | _, _, .int i => .int i
  | _, _, .str x => .str x
  | _, _, .lst h t => .lst (s _ _ h) (IsL.mono s t)
  | _, _, .tup h t => .tup (s _ _ h) (IsL.mono s t)
  | _, _, .dicK h t => .dicK (s _ _ h) (IsK.mono s t)
  | _, _, .dicT h t => .dicT (s _ _ h) (IsKT.mono s t)
  | _, _, .inst c h t => .inst c (s _ _ h) (IsF.mono s t)
  | _, _, .fn h => .fn h
  | _, _, .scr h t => .scr (s.seqL h) (IsL.mono s t)
  | _, _, .mref h => .mref (by rw [List.getElem?_append_left]; exact h; exact (List.getElem?_eq_some_iff.mp h).1)
theorem IsL.mono (s : Sub F G) : ∀ {v : List V} {d : List D}, IsL n F φ v d → IsL n G (φ ++ ψ) v d
  | _, _, .nil => .nil
  | _, _, .cons h t => .cons (Is.mono s h) (IsL.mono s t)
theorem IsF.mono (s : Sub F G) : ∀ {v : List (Str × V)} {d : List (Str × D)}, IsF n F φ v d → IsF n G (φ ++ ψ) v d
  | _, _, .nil => .nil
  | _, _, .cons h t => .cons (Is.mono s h) (IsF.mono s t)
theorem IsK.mono (s : Sub F G) : ∀ {v : List (Key × V)} {d : List (D × D)}, IsK n F φ v d → IsK n G (φ ++ ψ) v d
  | _, _, .nil => .nil
  | _, _, .cons k h t => .cons k (Is.mono s h) (IsK.mono s t)
theorem IsKT.mono (s : Sub F G) : ∀ {v : List (List Key × V)} {d : List (D × D)}, IsKT n F φ v d → IsKT n G (φ ++ ψ) v d
  | _, _, .one k h => .one k (Is.mono s h)
  | _, _, .cons k h t => .cons k (Is.mono s h) (IsKT.mono s t)
end
theorem IsL.length : ∀ {v : List V} {d : List D}, IsL n F φ v d → v.length = d.length
  | _, _, .nil => rfl
  | _, _, .cons _ t => by rw [List.length_cons, List.length_cons, IsL.length t]
theorem IsL.get {d : D} : ∀ {vs : List V} {ds : List D} {i : Nat}, IsL n F φ vs ds → ds[i]? = some d → ∃ v, vs[i]? = some v ∧ Is n F φ v d
  | _, _, _, .nil, h => by simp at h
  | _, _, 0, .cons h _, e => by
    simp at e; subst e; exact ⟨_, rfl, h⟩
  | _, _, i + 1, .cons _ t, e => by
    obtain ⟨v, h1, h2⟩ := IsL.get (i := i) t (by simpa using e)
    exact ⟨v, by simpa using h1, h2⟩
theorem IsL.getV {v : V} : ∀ {vs : List V} {ds : List D} {i : Nat}, IsL n F φ vs ds → vs[i]? = some v → ∃ d, ds[i]? = some d ∧ Is n F φ v d
  | _, _, _, .nil, h => by simp at h
  | _, _, 0, .cons h _, e => by
    simp at e; subst e; exact ⟨_, rfl, h⟩
  | _, _, i + 1, .cons _ t, e => by
    obtain ⟨v, h1, h2⟩ := IsL.getV (i := i) t (by simpa using e)
    exact ⟨v, by simpa using h1, h2⟩
theorem IsL.append : ∀ {vs ws : List V} {ds es : List D}, IsL n F φ vs ds → IsL n F φ ws es → IsL n F φ (vs ++ ws) (ds ++ es)
  | _, _, _, _, .nil, s => s
  | _, _, _, _, .cons h t, s => .cons h (IsL.append t s)
theorem IsL.take : ∀ {vs : List V} {ds : List D} (i : Nat), IsL n F φ vs ds → IsL n F φ (vs.take i) (ds.take i)
  | _, _, 0, _ => .nil
  | _, _, _ + 1, .nil => .nil
  | _, _, i + 1, .cons h t => .cons h (IsL.take i t)
theorem IsL.drop : ∀ {vs : List V} {ds : List D} (i : Nat), IsL n F φ vs ds → IsL n F φ (vs.drop i) (ds.drop i)
  | _, _, 0, t => t
  | _, _, _ + 1, .nil => .nil
  | _, _, i + 1, .cons _ t => IsL.drop i t
theorem IsL.set {v : V} {d : D} (h : Is n F φ v d) : ∀ {vs : List V} {ds : List D} (i : Nat), IsL n F φ vs ds → IsL n F φ (vs.set i v) (ds.set i d)
  | _, _, _, .nil => .nil
  | _, _, 0, .cons _ t => .cons h t
  | _, _, i + 1, .cons q t => .cons q (IsL.set h i t)
theorem IsL.ints : ∀ {vs : List V} {ns : List Int}, IsL n F φ vs (ns.map D.int) → vs = ns.map V.int
  | _, [], h => by cases h; rfl
  | _, i :: ns, h => by
    cases h with
    | cons h t => cases h; rw [IsL.ints t]; rfl
theorem IsL.bls : ∀ {vs : List V} {ns : List Bool}, IsL n F φ vs (ns.map D.bl) → vs = ns.map V.bl
  | _, [], h => by cases h; rfl
  | _, i :: ns, h => by
    cases h with
    | cons h t => cases h; rw [IsL.bls t]; rfl
theorem IsL.strs : ∀ {vs : List V} {ns : List Str}, IsL n F φ vs (ns.map D.str) → vs = ns.map V.str
  | _, [], h => by cases h; rfl
  | _, i :: ns, h => by
    cases h with
    | cons h t => cases h; rw [IsL.strs t]; rfl
theorem IsF.look {f : Str} {d : D} : ∀ {vs : List (Str × V)} {ds : List (Str × D)}, IsF n F φ vs ds → ds.lookup f = some d → ∃ v, vs.lookup f = some v ∧ Is n F φ v d
  | _, _, .nil, h => by simp at h
  | _, _, .cons (f := g) (v := v) h t, e => by
    rw [List.lookup_cons] at e ⊢
    split at e
    · rename_i z
      cases e
      exact ⟨_, rfl, h⟩
    · exact IsF.look t e
theorem IsF.keys : ∀ {vs : List (Str × V)} {ds : List (Str × D)}, IsF n F φ vs ds → vs.map (·.1) = ds.map (·.1)
  | _, _, .nil => rfl
  | _, _, .cons h t => by rw [List.map_cons, List.map_cons, IsF.keys t]
theorem IsF.length {vs : List (Str × V)} {ds : List (Str × D)} (h : IsF n F φ vs ds) : vs.length = ds.length := by
  have := congrArg List.length h.keys
  simpa using this
end

/-! ### configurations -/
/-- what is known at a place of a body: the state by value, the slots, the store's addresses, the frozen part, the heap -/
structure Cf where
  S : S
  σ : List (Option V)
  φ : List Addr
  F : Hp
  H : Hp
  an : Addr

/-- an own object at a -/
def L.own : L → Bool
  | .sh _ => false
  | _ => true
def OwnA (c : Cf) (a : Addr) : Prop := ∃ (i : Nat) (x : L), c.S.sl[i]? = some (some x) ∧ x.own = true ∧ c.σ[i]? = some (some (V.ref a))
def Mut (c : Cf) (a : Addr) : Prop := OwnA c a ∨ a ∈ c.φ

def NT (o : HO) : Prop := ∀ ps, o ≠ .tbl ps

structure Stp (c c' : Cf) : Prop where
  F : Sub c.F c'.F
  H : ∀ b o, c.H b = some o → ¬ Mut c b → NT o → c'.H b = some o
  new : ∀ b, c'.F b ≠ none → c.F b ≠ none ∨ c.H b = none ∨ Mut c b ∨ ∃ xs, c'.H b = some (.tup xs)
  mono : ∀ b, Mut c' b → Mut c b ∨ c.H b = none
  there : ∀ b, c'.H b = none → c.H b = none
  φ : ∃ ψ, c'.φ = c.φ ++ ψ
  an : c'.an = c.an
theorem Stp.refl (c : Cf) : Stp c c := ⟨Sub.refl _, fun _ _ h _ _ => h, fun _ h => .inl h, fun _ h => .inl h, fun _ h => h, ⟨[], by simp⟩, rfl⟩
theorem Stp.trans {c c' c'' : Cf} (a : Stp c c') (b : Stp c' c'') : Stp c c'' where
  F := a.F.trans b.F
  H := fun x o h m t => b.H x o (a.H x o h m t) (fun z => by
    rcases a.mono x z with z | z
    · exact m z
    · rw [h] at z; cases z) t
  new := fun x h => by
    rcases b.new x h with z | z | z | z
    · rcases a.new x z with z | z | z | ⟨xs, z⟩
      · exact .inl z
      · exact .inr (.inl z)
      · exact .inr (.inr (.inl z))
      · by_cases m : Mut c' x
        · rcases a.mono x m with z | z
          · exact .inr (.inr (.inl z))
          · exact .inr (.inl z)
        · exact .inr (.inr (.inr ⟨xs, b.H x _ z m fun _ e => by cases e⟩))
    · exact .inr (.inl (a.there x z))
    · rcases a.mono x z with z | z
      · exact .inr (.inr (.inl z))
      · exact .inr (.inl z)
    · exact .inr (.inr (.inr z))
  mono := fun x h => by
    rcases b.mono x h with z | z
    · exact a.mono x z
    · exact .inr (a.there x z)
  there := fun x h => a.there x (b.there x h)
  φ := by
    obtain ⟨p, e⟩ := a.φ
    obtain ⟨q, f⟩ := b.φ
    exact ⟨p ++ q, by rw [f, e, List.append_assoc]⟩
  an := b.an.trans a.an
theorem Stp.is {n : Nm} {c c' : Cf} (s : Stp c c') {v : V} {d : D} (h : Is n c.F c.φ v d) : Is n c'.F c'.φ v d := by
  obtain ⟨ψ, e⟩ := s.φ
  rw [e]; exact h.mono s.F
theorem Stp.isL {n : Nm} {c c' : Cf} (s : Stp c c') {v : List V} {d : List D} (h : IsL n c.F c.φ v d) : IsL n c'.F c'.φ v d := by
  obtain ⟨ψ, e⟩ := s.φ
  rw [e]; exact h.mono s.F
theorem Stp.isF {n : Nm} {c c' : Cf} (s : Stp c c') {v : List (Str × V)} {d : List (Str × D)} (h : IsF n c.F c.φ v d) : IsF n c'.F c'.φ v d := by
  obtain ⟨ψ, e⟩ := s.φ
  rw [e]; exact h.mono s.F
theorem Stp.isK {n : Nm} {c c' : Cf} (s : Stp c c') {v : List (Key × V)} {d : List (D × D)} (h : IsK n c.F c.φ v d) : IsK n c'.F c'.φ v d := by
  obtain ⟨ψ, e⟩ := s.φ
  rw [e]; exact h.mono s.F
theorem Stp.isKT {n : Nm} {c c' : Cf} (s : Stp c c') {v : List (List Key × V)} {d : List (D × D)} (h : IsKT n c.F c.φ v d) : IsKT n c'.F c'.φ v d := by
  obtain ⟨ψ, e⟩ := s.φ
  rw [e]; exact h.mono s.F

/-- pairs with texts as keys -/
def kvS (vs : List (Str × V)) : List (Key × V) := vs.map fun p => (Sum.inr p.1, p.2)
def MOk (n : Nm) (c : Cf) (a : Addr) : MO → Prop
  | .dic fs => ∃ vs, c.H a = some (.dK (kvS vs)) ∧ IsF n c.F c.φ vs fs
  | .inst x fs => ∃ C dx vs, n.cA x = some C ∧ c.H a = some (.ins C dx vs) ∧ IsF n c.F c.φ vs fs

/-- what an own object asks, x at v -/
def OIs (n : Nm) (c : Cf) (v : V) : L → Prop
  | .sh d => Is n c.F c.φ v d
  | .ol ds => ∃ a vs, v = .ref a ∧ c.H a = some (.lst vs) ∧ c.F a = none ∧ a ∉ c.φ ∧ IsL n c.F c.φ vs ds
  | .od kvs => ∃ a, v = .ref a ∧ c.F a = none ∧ a ∉ c.φ ∧ ((∃ vs, c.H a = some (.dK vs) ∧ IsK n c.F c.φ vs kvs) ∨ ∃ vs, c.H a = some (.dT vs) ∧ IsKT n c.F c.φ vs kvs)
  | .oi b x fs => ∃ a C dx vs, v = .ref a ∧ (b = true → a = c.an) ∧ n.cA x = some C ∧ c.H a = some (.ins C dx vs) ∧ c.F a = none ∧ a ∉ c.φ ∧ IsF n c.F c.φ vs fs

structure Ok (n : Nm) (c : Cf) : Prop where
  len : c.S.sl.length = c.σ.length
  sub : Sub c.F c.H
  sl : ∀ (i : Nat) (x : L), c.S.sl[i]? = some (some x) → ∃ v, c.σ[i]? = some (some v) ∧ OIs n c v x
  dist : ∀ (i j : Nat) (x y : L) (a : Addr), i ≠ j → c.S.sl[i]? = some (some x) → c.S.sl[j]? = some (some y) → x.own = true → y.own = true → c.σ[i]? = some (some (V.ref a)) → c.σ[j]? = some (some (V.ref a)) → False
  nd : c.φ.Nodup
  slen : c.S.st.length = c.φ.length
  st : ∀ (k : Nat) (o : MO) (a : Addr), c.S.st[k]? = some o → c.φ[k]? = some a → MOk n c a o
  fφ : ∀ a ∈ c.φ, c.F a = none

theorem OIs.at {n : Nm} {c : Cf} {v : V} {x : L} (h : OIs n c v x) (o : x.own = true) : ∃ a, v = .ref a ∧ c.F a = none ∧ a ∉ c.φ ∧ ∃ u, c.H a = some u ∧ NT u := by
  cases x with
  | sh d => cases o
  | ol ds => obtain ⟨a, vs, e, h1, h2, h3, _⟩ := h; exact ⟨a, e, h2, h3, _, h1, fun _ z => by cases z⟩
  | od kvs =>
    obtain ⟨a, e, h2, h3, ⟨vs, h1, _⟩ | ⟨vs, h1, _⟩⟩ := h
    · exact ⟨a, e, h2, h3, _, h1, fun _ z => by cases z⟩
    · exact ⟨a, e, h2, h3, _, h1, fun _ z => by cases z⟩
  | oi b C fs => obtain ⟨a, C, dx, vs, e, _, _, h1, h2, h3, _⟩ := h; exact ⟨a, e, h2, h3, _, h1, fun _ z => by cases z⟩

/-- an own object (or a value) over a step that does not touch it -/
theorem OIs.step {n : Nm} {c c' : Cf} {v : V} {x : L} (h : OIs n c v x) (s : Stp c c') (hm : x.own = true → ∀ a, v = .ref a → ¬ Mut c a ∧ a ∉ c'.φ) : OIs n c' v x := by
  have key : x.own = true → ∀ a, v = .ref a → (∀ u, c.H a = some u → NT u → c'.H a = some u) ∧ (c.F a = none → (∃ u, c.H a = some u ∧ NT u ∧ ∀ xs, u ≠ .tup xs) → c'.F a = none) ∧ a ∉ c'.φ := fun o a e => by
    obtain ⟨m1, m2⟩ := hm o a e
    refine ⟨fun u hu ht => s.H a u hu m1 ht, fun hf ⟨u, hu, ht, hn⟩ => ?_, m2⟩
    cases q : c'.F a with
    | none => rfl
    | some w =>
      rcases s.new a (by rw [q]; simp) with z | z | z | ⟨xs, z⟩
      · exact absurd hf z
      · rw [hu] at z; cases z
      · exact absurd z m1
      · rw [s.H a u hu m1 ht] at z; exact absurd (Option.some.inj z) (hn xs)
  cases x with
  | sh d => exact s.is h
  | ol ds =>
    obtain ⟨a, vs, e, h1, h2, h3, h4⟩ := h
    obtain ⟨k1, k2, k3⟩ := key rfl a e
    exact ⟨a, vs, e, k1 _ h1 (fun _ z => by cases z), k2 h2 ⟨_, h1, (fun _ z => by cases z), fun _ z => by cases z⟩, k3, s.isL h4⟩
  | od kvs =>
    obtain ⟨a, e, h2, h3, ⟨vs, h1, h4⟩ | ⟨vs, h1, h4⟩⟩ := h
    · obtain ⟨k1, k2, k3⟩ := key rfl a e
      exact ⟨a, e, k2 h2 ⟨_, h1, (fun _ z => by cases z), fun _ z => by cases z⟩, k3, .inl ⟨vs, k1 _ h1 (fun _ z => by cases z), s.isK h4⟩⟩
    · obtain ⟨k1, k2, k3⟩ := key rfl a e
      exact ⟨a, e, k2 h2 ⟨_, h1, (fun _ z => by cases z), fun _ z => by cases z⟩, k3, .inr ⟨vs, k1 _ h1 (fun _ z => by cases z), s.isKT h4⟩⟩
  | oi b C fs =>
    obtain ⟨a, C, dx, vs, e, hb, hC, h1, h2, h3, h4⟩ := h
    obtain ⟨k1, k2, k3⟩ := key rfl a e
    exact ⟨a, C, dx, vs, e, fun z => (hb z).trans s.an.symm, hC, k1 _ h1 (fun _ z => by cases z), k2 h2 ⟨_, h1, (fun _ z => by cases z), fun _ z => by cases z⟩, k3, s.isF h4⟩
end Bv

/-! configurations changed -/
namespace Bv
open PySem PySem.Spec PyProof.Rows L2

theorem sub_upd {F : Hp} {a : Addr} {o : HO} (h : F a = none) : Sub F (upd F a o) := fun b u e => by
  rw [upd_ne (ne_of_none e h)]; exact e
theorem upd_some {F : Hp} {a b : Addr} {o u : HO} (h : upd F a o b = some u) : (b = a ∧ u = o) ∨ F b = some u := by
  by_cases e : b = a
  · subst e; rw [upd_same] at h; cases h; exact .inl ⟨rfl, rfl⟩
  · rw [upd_ne e] at h; exact .inr h
theorem upd_nn {F : Hp} {a b : Addr} {o : HO} (h : upd F a o b ≠ none) : b = a ∨ F b ≠ none := by
  by_cases e : b = a
  · exact .inl e
  · rw [upd_ne e] at h; exact .inr h
theorem upd_none' {F : Hp} {a b : Addr} {o : HO} (h : upd F a o b = none) : b ≠ a ∧ F b = none := by
  by_cases e : b = a
  · subst e; rw [upd_same] at h; cases h
  · rw [upd_ne e] at h; exact ⟨e, h⟩

variable {n : Nm}

/-- an own object is the object that is frozen -/
theorem OIs.frozen {c : Cf} {v : V} {x : L} (h : OIs n c v x) (hs : Sub c.F c.H) : ∃ F', Sub c.F F' ∧ Sub F' c.H ∧ Is n F' c.φ v x.d ∧ (∀ b, F' b ≠ none → c.F b ≠ none ∨ (x.own = true ∧ v = .ref b)) := by
  have m : ∀ {a : Addr} {o : HO}, c.F a = none → c.H a = some o → Sub c.F (upd c.F a o) ∧ Sub (upd c.F a o) c.H := fun {a o} h1 h2 => ⟨sub_upd h1, fun b u e => by
    rcases upd_some e with ⟨rfl, rfl⟩ | e
    · exact h2
    · exact hs _ _ e⟩
  have mm : ∀ {G : Hp} {P : Hp → List Addr → Prop}, P G (c.φ ++ []) → P G c.φ := fun {G P} h => by rw [List.append_nil] at h; exact h
  cases x with
  | sh d => exact ⟨c.F, Sub.refl _, hs, h, fun b h => .inl h⟩
  | ol ds =>
    obtain ⟨a, vs, rfl, h1, h2, h3, h4⟩ := h
    obtain ⟨m1, m2⟩ := m h2 h1
    refine ⟨_, m1, m2, .lst upd_same ?_, fun b hb => ?_⟩
    · have z := h4.mono (ψ := []) m1; rw [List.append_nil] at z; exact z
    · rcases upd_nn hb with rfl | z
      · exact .inr ⟨rfl, rfl⟩
      · exact .inl z
  | od kvs =>
    obtain ⟨a, rfl, h2, h3, ⟨vs, h1, h4⟩ | ⟨vs, h1, h4⟩⟩ := h
    all_goals
      obtain ⟨m1, m2⟩ := m h2 h1
      have z := h4.mono (ψ := []) m1
      rw [List.append_nil] at z
    · refine ⟨_, m1, m2, .dicK upd_same z, fun b hb => ?_⟩
      rcases upd_nn hb with rfl | z
      · exact .inr ⟨rfl, rfl⟩
      · exact .inl z
    · refine ⟨_, m1, m2, .dicT upd_same z, fun b hb => ?_⟩
      rcases upd_nn hb with rfl | z
      · exact .inr ⟨rfl, rfl⟩
      · exact .inl z
  | oi b C fs =>
    obtain ⟨a, C, dx, vs, rfl, hb, hC, h1, h2, h3, h4⟩ := h
    obtain ⟨m1, m2⟩ := m h2 h1
    have z := h4.mono (ψ := []) m1
    rw [List.append_nil] at z
    refine ⟨_, m1, m2, .inst hC upd_same z, fun b hb => ?_⟩
    rcases upd_nn hb with rfl | z
    · exact .inr ⟨rfl, rfl⟩
    · exact .inl z

theorem OIs.grow {c : Cf} {v : V} {x : L} {F' : Hp} (h : OIs n c v x) (s : Sub c.F F') (ho : x.own = true → ∀ a, v = .ref a → F' a = none) : OIs n { c with F := F' } v x := by
  have e : c.φ ++ [] = c.φ := List.append_nil _
  cases x with
  | sh d =>
    have z := Is.mono (ψ := []) s h
    rw [e] at z; exact z
  | ol ds =>
    obtain ⟨a, vs, rfl, h1, h2, h3, h4⟩ := h
    have z := h4.mono (ψ := []) s
    rw [e] at z; exact ⟨a, vs, rfl, h1, ho rfl a rfl, h3, z⟩
  | od kvs =>
    obtain ⟨a, rfl, h2, h3, ⟨vs, h1, h4⟩ | ⟨vs, h1, h4⟩⟩ := h
    · have z := h4.mono (ψ := []) s
      rw [e] at z; exact ⟨a, rfl, ho rfl a rfl, h3, .inl ⟨vs, h1, z⟩⟩
    · have z := h4.mono (ψ := []) s
      rw [e] at z; exact ⟨a, rfl, ho rfl a rfl, h3, .inr ⟨vs, h1, z⟩⟩
  | oi b C fs =>
    obtain ⟨a, C, dx, vs, rfl, hb, hC, h1, h2, h3, h4⟩ := h
    have z := h4.mono (ψ := []) s
    rw [e] at z; exact ⟨a, C, dx, vs, rfl, hb, hC, h1, ho rfl a rfl, h3, z⟩
theorem MOk.grow {c : Cf} {a : Addr} {o : MO} {F' : Hp} (h : MOk n c a o) (s : Sub c.F F') : MOk n { c with F := F' } a o := by
  cases o with
  | dic p =>
    obtain ⟨vs, h1, h3⟩ := h
    have z := h3.mono (ψ := []) s
    rw [List.append_nil] at z; exact ⟨vs, h1, z⟩
  | inst x fs =>
    obtain ⟨C, dx, vs, h1, h2, h3⟩ := h
    have z := h3.mono (ψ := []) s
    rw [List.append_nil] at z; exact ⟨C, dx, vs, h1, h2, z⟩

/-- more is frozen: nothing that is own -/
theorem Ok.grow {c : Cf} {F' : Hp} (k : Ok n c) (s : Sub c.F F') (t : Sub F' c.H) (ho : ∀ a, Mut c a → F' a = none) : Ok n { c with F := F' } where
  len := k.len
  sub := t
  sl := fun i x e => by
    obtain ⟨v, h1, h2⟩ := k.sl i x e
    refine ⟨v, h1, h2.grow s fun o a ea => ho a (.inl ⟨i, x, e, o, by subst ea; exact h1⟩)⟩
  dist := k.dist
  nd := k.nd
  slen := k.slen
  st := fun j o a h1 h2 => (k.st j o a h1 h2).grow s
  fφ := fun a ha => ho a (.inr ha)

/-- a slot is no longer own -/
theorem Ok.unown {c : Cf} {i : Nat} {y : Option L} (k : Ok n c) (h : ∀ d, y = some d → d.own = false ∧ ∃ v, c.σ[i]? = some (some v) ∧ OIs n c v d) : Ok n { c with S := { c.S with sl := c.S.sl.set i y } } where
  len := by simp [k.len]
  sub := k.sub
  sl := fun j x e => by
    by_cases hij : i = j
    · subst hij
      have e : (c.S.sl.set i y)[i]? = some (some x) := e
      rw [List.getElem?_set_self'] at e
      cases q : c.S.sl[i]? with
      | none => rw [q] at e; cases e
      | some z =>
        rw [q] at e
        have e : y = some x := by simpa using e
        obtain ⟨_, v, h1, h2⟩ := h x e
        refine ⟨v, h1, ?_⟩
        cases x <;> exact h2
    · have e : (c.S.sl.set i y)[j]? = some (some x) := e
      rw [List.getElem?_set_ne hij] at e
      obtain ⟨v, h1, h2⟩ := k.sl j x e
      refine ⟨v, h1, ?_⟩
      cases x <;> exact h2
  dist := fun j l x z a hjl h1 h2 o1 o2 => by
    have key : ∀ j (x : L), (c.S.sl.set i y)[j]? = some (some x) → x.own = true → c.S.sl[j]? = some (some x) := fun j x e o => by
      by_cases hij : i = j
      · subst hij
        rw [List.getElem?_set_self'] at e
        cases q : c.S.sl[i]? with
        | none => rw [q] at e; cases e
        | some w =>
          rw [q] at e
          have e : y = some x := by simpa using e
          rw [(h x e).1] at o; cases o
      · rw [List.getElem?_set_ne hij] at e; exact e
    exact k.dist j l x z a hjl (key j x h1 o1) (key l z h2 o2) o1 o2
  nd := k.nd
  slen := k.slen
  st := fun j o a h1 h2 => by
    have := k.st j o a h1 h2
    cases o <;> exact this
  fφ := k.fφ

theorem unown_mut {c : Cf} {i : Nat} {y : Option L} (h : ∀ d, y = some d → d.own = false) {a : Addr} (m : Mut { c with S := { c.S with sl := c.S.sl.set i y } } a) : Mut c a := by
  rcases m with ⟨j, x, e, o, s⟩ | m
  · by_cases hij : i = j
    · subst hij
      have e : (c.S.sl.set i y)[i]? = some (some x) := e
      rw [List.getElem?_set_self'] at e
      cases q : c.S.sl[i]? with
      | none => rw [q] at e; cases e
      | some w =>
        rw [q] at e
        have e : y = some x := by simpa using e
        rw [h x e] at o; cases o
    · have e : (c.S.sl.set i y)[j]? = some (some x) := e
      rw [List.getElem?_set_ne hij] at e
      exact .inl ⟨j, x, e, o, s⟩
  · exact .inr m

/-- the value of a slot handed on: from now on it is shared -/
theorem Ok.escape {c : Cf} {i : Nat} {x : L} (k : Ok n c) (e : c.S.sl[i]? = some (some x)) : ∃ (v : V) (F' : Hp), c.σ[i]? = some (some v) ∧
    Stp c { c with S := { c.S with sl := c.S.sl.set i (some (.sh x.d)) }, F := F' } ∧ Ok n { c with S := { c.S with sl := c.S.sl.set i (some (.sh x.d)) }, F := F' } ∧ Is n F' c.φ v x.d := by
  obtain ⟨v, h1, h2⟩ := k.sl i x e
  obtain ⟨F', s, t, q, nw⟩ := h2.frozen k.sub
  refine ⟨v, F', h1, ?_, ?_, q⟩
  · refine ⟨s, fun b o h _ _ => h, fun b h => ?_, fun b h => ?_, fun b h => h, ⟨[], by simp⟩, rfl⟩
    · rcases nw b h with z | ⟨o, z⟩
      · exact .inl z
      · exact .inr (.inr (.inl (.inl ⟨i, x, e, o, by rw [h1, z]⟩)))
    · exact .inl (unown_mut (c := c) (y := some (.sh x.d)) (fun d q => by cases q; rfl) (by
        rcases h with ⟨j, y, a1, a2, a3⟩ | h
        · exact .inl ⟨j, y, a1, a2, a3⟩
        · exact .inr h))
  · -- first unown with the old frozen part is not possible: the slot's value is not yet shared; so slot forgotten, grown, then set
    refine ⟨by simp [k.len], t, fun j y ej => ?_, fun j l y z a hjl h3 h4 o1 o2 s1 s2 => ?_, k.nd, k.slen, fun j o a h3 h4 => (k.st j o a h3 h4).grow s, fun a ha => ?_⟩
    · by_cases hij : i = j
      · subst hij
        have ej : (c.S.sl.set i (some (L.sh x.d)))[i]? = some (some y) := ej
        rw [List.getElem?_set_self', e] at ej
        have ej : L.sh x.d = y := by simpa using ej
        subst ej
        exact ⟨v, h1, q⟩
      · have ej : (c.S.sl.set i (some (L.sh x.d)))[j]? = some (some y) := ej
        rw [List.getElem?_set_ne hij] at ej
        obtain ⟨w, h3, h4⟩ := k.sl j y ej
        refine ⟨w, h3, (h4.grow s fun o a ea => ?_)⟩
        subst ea
        cases qa : F' a with
        | none => rfl
        | some u =>
          rcases nw a (by rw [qa]; simp) with z | ⟨o', z⟩
          · obtain ⟨_, ee, hf, _⟩ := h4.at o
            cases ee
            exact absurd hf z
          · subst z
            exact absurd (k.dist i j x y a hij e ej o' o h1 h3) id
    · have key : ∀ j (y : L), (c.S.sl.set i (some (L.sh x.d)))[j]? = some (some y) → y.own = true → c.S.sl[j]? = some (some y) := fun j y e' o => by
        by_cases hij : i = j
        · subst hij
          rw [List.getElem?_set_self', e] at e'
          have e' : L.sh x.d = y := by simpa using e'
          subst e'; cases o
        · rw [List.getElem?_set_ne hij] at e'; exact e'
      exact k.dist j l y z a hjl (key j y h3 o1) (key l z h4 o2) o1 o2 s1 s2
    · show F' a = none
      cases qa : F' a with
      | none => rfl
      | some u =>
        rcases nw a (by rw [qa]; simp) with z | ⟨o', z⟩
        · exact absurd (k.fφ a ha) z
        · subst z
          obtain ⟨_, ee, _, h3, _⟩ := h2.at o'
          cases ee
          exact absurd ha h3

/-- an object is made: own -/
theorem Ok.alloc {c : Cf} {p : Addr} {o : HO} (k : Ok n c) (hp : c.H p = none) : Ok n { c with H := upd c.H p o } ∧ Stp c { c with H := upd c.H p o } ∧ p ∉ c.φ ∧ c.F p = none ∧ ¬ OwnA c p := by
  have hF : c.F p = none := by
    cases q : c.F p with
    | none => rfl
    | some u => have := k.sub _ _ q; rw [hp] at this; cases this
  have hO : ¬ OwnA c p := fun ⟨i, x, e, o, s⟩ => by
    obtain ⟨v, h1, h2⟩ := k.sl i x e
    rw [s] at h1; cases h1
    obtain ⟨_, ee, _, _, u, hu, _⟩ := h2.at o
    cases ee
    rw [hp] at hu; cases hu
  have hφ : p ∉ c.φ := fun m => by
    obtain ⟨j, hj⟩ := List.getElem?_of_mem m
    have hl : j < c.S.st.length := by rw [k.slen]; exact (List.getElem?_eq_some_iff.mp hj).1
    have z := k.st j c.S.st[j] p (List.getElem?_eq_getElem hl) hj
    cases q : c.S.st[j] with
    | dic p' => rw [q] at z; obtain ⟨_, h1, _⟩ := z; rw [hp] at h1; cases h1
    | inst C fs => rw [q] at z; obtain ⟨_, _, _, _, h1, _⟩ := z; rw [hp] at h1; cases h1
  have st : Stp c { c with H := upd c.H p o } := ⟨Sub.refl _, fun b u h _ _ => by
      show upd c.H p o b = some u
      rw [upd_ne (ne_of_none h hp)]; exact h, fun b h => .inl h, fun b h => .inl (by
      rcases h with ⟨j, y, a1, a2, a3⟩ | h
      · exact .inl ⟨j, y, a1, a2, a3⟩
      · exact .inr h), fun b h => (upd_none' h).2, ⟨[], by simp⟩, rfl⟩
  refine ⟨⟨k.len, k.sub.trans (sub_upd hp), fun i x e => ?_, k.dist, k.nd, k.slen, fun j m a h1 h2 => ?_, k.fφ⟩, st, hφ, hF, hO⟩
  · obtain ⟨v, h1, h2⟩ := k.sl i x e
    refine ⟨v, h1, ?_⟩
    cases x with
    | sh d => exact h2
    | ol ds => obtain ⟨a, vs, e1, h3, h4, h5, h6⟩ := h2; exact ⟨a, vs, e1, sub_upd hp _ _ h3, h4, h5, h6⟩
    | od kvs =>
      obtain ⟨a, e1, h4, h5, ⟨vs, h3, h6⟩ | ⟨vs, h3, h6⟩⟩ := h2
      · exact ⟨a, e1, h4, h5, .inl ⟨vs, sub_upd hp _ _ h3, h6⟩⟩
      · exact ⟨a, e1, h4, h5, .inr ⟨vs, sub_upd hp _ _ h3, h6⟩⟩
    | oi b C fs => obtain ⟨a, C, dx, vs, e1, hb, hC, h3, h4, h5, h6⟩ := h2; exact ⟨a, C, dx, vs, e1, hb, hC, sub_upd hp _ _ h3, h4, h5, h6⟩
  · have z := k.st j m a h1 h2
    cases m with
    | dic p' => obtain ⟨lc, h3, h4⟩ := z; exact ⟨lc, sub_upd hp _ _ h3, h4⟩
    | inst C fs => obtain ⟨C, dx, vs, h3, h4, h5⟩ := z; exact ⟨C, dx, vs, h3, sub_upd hp _ _ h4, h5⟩

/-- an object is made: frozen at once -/
theorem Ok.allocF {c : Cf} {p : Addr} {o : HO} (k : Ok n c) (hp : c.H p = none) : Ok n { c with H := upd c.H p o, F := upd c.F p o } ∧ Stp c { c with H := upd c.H p o, F := upd c.F p o } := by
  obtain ⟨k1, s1, h1, h2, h3⟩ := k.alloc (o := o) hp
  have h4 := k1.grow (F' := upd c.F p o) (sub_upd h2) (fun b u e => by
      show upd c.H p o b = some u
      rcases upd_some e with ⟨rfl, rfl⟩ | e
      · exact upd_same
      · exact sub_upd hp _ _ (k.sub _ _ e)) (fun a m => by
      have hne : a ≠ p := fun z => by
        subst z
        rcases m with m | m
        · exact h3 m
        · exact h1 m
      show upd c.F p o a = none
      rw [upd_ne hne]
      rcases m with ⟨i, x, e, ow, s⟩ | m
      · obtain ⟨v, e1, e2⟩ := k.sl i x e
        have s : c.σ[i]? = some (some (V.ref a)) := s
        rw [s] at e1; cases e1
        obtain ⟨_, ee, hf, _⟩ := e2.at ow
        cases ee
        exact hf
      · exact k.fφ a m)
  refine ⟨h4, ⟨sub_upd h2, fun b u h m t => s1.H b u h m t, fun b h => ?_, fun b h => .inl (by
      rcases h with ⟨j, y, a1, a2, a3⟩ | h
      · exact .inl ⟨j, y, a1, a2, a3⟩
      · exact .inr h), fun b h => s1.there b h, ⟨[], by simp⟩, rfl⟩⟩
  rcases upd_nn h with rfl | z
  · exact .inr (.inl hp)
  · exact .inl z
end Bv

namespace L2
open PySem PySem.Spec PyProof.Rows
/-! tuple * k for k at most 1 -/
theorem tup_mul_one (l : Addr) (items : Array Value) (n : Nat) (dd : Option Addr) (sl : Array (Option Value)) (x : Int) (u : Tok) (c0 : (decide (x < -(2 ^ 63)) || decide (x ≥ 2 ^ 63)) = false) (c1 : (items.isEmpty || x == 1) = true) :
    Meets (Builtin.«tuple.__mul__» ⟨[.ref l, .int x u], []⟩) (fun _ R s => s.heap.get? l = some { cls := .type "tuple", dict := dd, data := .seq items n, slots := sl } ∧ R (.ok (.ret (Value.ref l))) s) :=
  .of_wp fun prog w A R s h => by
    obtain ⟨hp, g, d, tk, os⟩ := s
    obtain ⟨hl, h⟩ := h
    have f1 := AutoSeq1.idx_int
    wp_walk using wpAny_loadPart' hl
    repeat (first
      | (refine wpAny_ite_false (decide_eq_false (by rw [c0]; exact Bool.false_ne_true)) ?_; wp_walk using wpAny_loadPart' hl)
      | (refine wpAny_ite_true (decide_eq_true (by rw [c1])) ?_; wp_walk using wpAny_loadPart' hl))
    exact ⟨_, rfl, h⟩
theorem tup_mul_none (l : Addr) (items : Array Value) (n : Nat) (dd : Option Addr) (sl : Array (Option Value)) (x : Int) (u : Tok) (c0 : (decide (x < -(2 ^ 63)) || decide (x ≥ 2 ^ 63)) = false) (c1 : (items.isEmpty || x == 1) = false) (c2 : (decide (x ≤ 0) || items.isEmpty) = true) :
    Meets (Builtin.«tuple.__mul__» ⟨[.ref l, .int x u], []⟩) (fun _ R s => s.heap.get? l = some { cls := .type "tuple", dict := dd, data := .seq items n, slots := sl } ∧
      R (.ok (.ret (Value.ref s.heap.objs.size))) { s with heap := s.heap.push { cls := Value.type "tuple", data := Data.seq #[] }, toks := s.toks }) :=
  .of_wp fun prog w A R s h => by
    obtain ⟨hp, g, d, tk, os⟩ := s
    obtain ⟨hl, h⟩ := h
    have f1 := AutoSeq1.idx_int
    wp_walk using wpAny_loadPart' hl
    repeat (first
      | (refine wpAny_ite_false (decide_eq_false (by rw [c0]; exact Bool.false_ne_true)) ?_; wp_walk using wpAny_loadPart' hl)
      | (refine wpAny_ite_false (decide_eq_false (by rw [c1]; exact Bool.false_ne_true)) ?_; wp_walk using wpAny_loadPart' hl)
      | (refine wpAny_ite_true (decide_eq_true (by rw [c2])) ?_; wp_walk using wpAny_loadPart' hl))
    exact ⟨_, rfl, h⟩
def rRepN (K : PySem.W.Frag) : R2 := fun x y H Q => ∃ l k xs, x = .ref l ∧ y = .int k ∧ SqT K H l xs ∧ xs ≠ [] ∧ -(2 ^ 62) ≤ k ∧ k ≤ 1 ∧ (k = 1 → Q (.ref l) H) ∧ (k ≤ 0 → ∀ p, H p = none → Q (.ref p) (upd H p (.tup [])))
theorem op_repN {X : Cx} : OpR X (binaryOp .Mult) (rRepN X.K) := by
  intro pins s σ H x y v u Q I rx ry h
  obtain ⟨l, k, xs, rfl, rfl, hT, hne, h1, h2, q1, q2⟩ := h
  cases rx
  obtain ⟨t, rfl⟩ := ry
  obtain ⟨its, r, ⟨⟨cls, dd, data, sl⟩, ho, hc, n, hd⟩, hs⟩ := I.tuple hT
  simp only at hc hd
  subst hc hd
  have c0 : (decide (k < -(2 ^ 63)) || decide (k ≥ 2 ^ 63)) = false := by
    rw [decide_eq_false (by omega), decide_eq_false (by omega)] <;> rfl
  by_cases hk : k = 1
  · have c1 : (its.toArray.isEmpty || k == 1) = true := by rw [hk]; simp
    refine wpAny_binaryOp_repeat_ref (T := "tuple") (U := "int") (by decide) ⟨_, ho, rfl⟩ (fun s' => typeIs_int s' k t) noFill_tuple_mul F.fills_int_mul F.slot_int_rmul repeat_tuple F.slot_int_index.lookup
      (call_meets F.slot_int_rmul (typeIs_int s k t) F.entry_int_rmul (F.args_int_rmul_2 _ _) (int_rmul_tuple k t l its.toArray n dd sl)
        ⟨ho, rfl, ⟨_, ho, rfl⟩, call_meets F.slot_tuple_mul ⟨_, ho, rfl⟩ F.entry_tuple_mul (F.args_tuple_mul_2 _ _) (tup_mul_one l its.toArray n dd sl k t c0 c1) ⟨ho, ?_⟩⟩)
    exact ⟨.ref l, H, I, rfl, q1 hk⟩
  · have hi : its.toArray.isEmpty = false := by
      cases its with
      | nil => exact absurd (List.eq_nil_of_length_eq_zero r.length) hne
      | cons a b => rfl
    have c1 : (its.toArray.isEmpty || k == 1) = false := by
      rw [hi, Bool.false_or]
      exact beq_eq_false_iff_ne.mpr hk
    have c2 : (decide (k ≤ 0) || its.toArray.isEmpty) = true := by
      rw [hi, Bool.or_false]
      exact decide_eq_true (by omega)
    refine wpAny_binaryOp_repeat_ref (T := "tuple") (U := "int") (by decide) ⟨_, ho, rfl⟩ (fun s' => typeIs_int s' k t) noFill_tuple_mul F.fills_int_mul F.slot_int_rmul repeat_tuple F.slot_int_index.lookup
      (call_meets F.slot_int_rmul (typeIs_int s k t) F.entry_int_rmul (F.args_int_rmul_2 _ _) (int_rmul_tuple k t l its.toArray n dd sl)
        ⟨ho, rfl, ⟨_, ho, rfl⟩, call_meets F.slot_tuple_mul ⟨_, ho, rfl⟩ F.entry_tuple_mul (F.args_tuple_mul_2 _ _) (tup_mul_none l its.toArray n dd sl k t c0 c1 c2) ⟨ho, ?_⟩⟩)
    refine ⟨.ref s.heap.objs.size, _, I.laid (t' := s.toks) (o := .tup []) (fun b ob q => Heap.get?_push_of_some _ q) (Nat.le_refl _) ?_, rfl, q2 (by omega) _ (I.hok.fresh (Nat.le_refl _))⟩
    exact ⟨by rw [sizeLine_eq]; simp, [], .nil, IsTup.new _ _⟩
end L2
/-! readings by value -/
namespace Bv
open PySem PySem.Spec PyProof.Rows L2

section
variable (n : Nm) (W : WX)
/-- the dict of an exception -/
def XD (c : Cf) (d : Option Addr) (fs : List (Str × D)) : Prop := ∃ dx vs, d = some dx ∧ c.H dx = some (.xd vs) ∧ IsF n c.F c.φ vs fs
def ExcP (c : Cf) (C : Str) (fs : List (Str × D)) (S' : S) : Prop :=
  ∀ (Ca : Addr) (d : Option Addr) (c' : Cf), c'.S = S' → c'.σ = c.σ → Stp c c' → Ok n c' → n.cA C = some Ca → XD n c' d fs → W (.ref Ca) d c'.σ c'.H
def Out {α γ : Type} (P : Cf → Cf → γ → α → Prop) (c : Cf) (r : Res α) (Q : γ → Hp → Prop) : Prop := match r with
  | .ok x S' => ∀ v c', c'.S = S' → c'.σ = c.σ → Stp c c' → Ok n c' → P c c' v x → Q v c'.H
  | .exc C fs S' => ExcP n W c C fs S'
  | .bad => False
def PX : Cf → Cf → V → D → Prop := fun _ c' v d => Is n c'.F c'.φ v d
structure RV (c c' : Cf) (v : V) (x : L) : Prop where
  is : OIs n c' v x
  own : x.own = true → ∀ a, v = .ref a → ¬ OwnA c' a ∧ (c.H a = none ∨ Mut c a)
def PB : Cf → Cf → V → L → Prop := fun _ c' v x => OIs n c' v x
/-- readings -/
def tV {α : Type} (P : Cf → Cf → V → α → Prop) (f : M α) : TE := fun σ H Q => ∃ c : Cf, c.σ = σ ∧ c.H = H ∧ Ok n c ∧ Out n W P c (f c.S) Q
def tX (f : M D) : TE := tV n W (PX n) f
def tO (f : M L) : TE := tV n W (RV n) f
def tW (f : M L) : TE := tV n W (PB n) f
/-- a test -/
def tT (f : M Bool) : TT := fun σ H Q => ∃ c : Cf, c.σ = σ ∧ c.H = H ∧ Ok n c ∧ Out n W (fun _ _ v b => v = b) c (f c.S) Q
/-- the P that may begin earlier -/
def Trans {α γ : Type} (P : Cf → Cf → γ → α → Prop) : Prop := ∀ c c1 c2 v x, Stp c c1 → P c1 c2 v x → P c c2 v x
end
variable {n : Nm} {W : WX}
theorem trX : Trans (PX n) := fun _ _ _ _ _ _ h => h
theorem trB : Trans (PB n) := fun _ _ _ _ _ _ h => h
theorem trO : Trans (RV n) := fun c c1 c2 v x s h => ⟨h.is, fun o a e => by
  obtain ⟨h1, h2⟩ := h.own o a e
  refine ⟨h1, ?_⟩
  rcases h2 with z | z
  · exact .inl (s.there a z)
  · rcases s.mono a z with z | z
    · exact .inr z
    · exact .inl z⟩
theorem trT {α : Type} : Trans (fun _ _ (v : α) (b : α) => v = b) := fun _ _ _ _ _ _ h => h

section
variable {α β γ γ1 : Type} {P : Cf → Cf → γ → α → Prop} {P1 : Cf → Cf → γ1 → β → Prop}
theorem ExcP.later {c c' : Cf} {C : Str} {fs : List (Str × D)} {S' : S} (h : ExcP n W c C fs S') (s : Stp c c') (e : c'.σ = c.σ) : ExcP n W c' C fs S' :=
  fun Ca d c2 h1 h2 h3 h4 h5 h6 => h Ca d c2 h1 (h2.trans e) (s.trans h3) h4 h5 h6
theorem Out.later {c c' : Cf} {r : Res α} {Q : γ → Hp → Prop} (tr : Trans P) (h : Out n W P c r Q) (s : Stp c c') (e : c'.σ = c.σ) : Out n W P c' r Q := by
  cases r with
  | ok x S' => exact fun v c2 h1 h2 h3 h4 h5 => h v c2 h1 (h2.trans e) (s.trans h3) h4 (tr _ _ _ _ _ s h5)
  | exc C fs S' => exact ExcP.later (n := n) (W := W) h s e
  | bad => exact h
theorem Out.bind {c : Cf} {m : M β} {k : β → M α} {Q : γ → Hp → Prop} {Q1 : γ1 → Hp → Prop} (tr : Trans P) (o : Out n W P c ((m >>= k) c.S) Q)
    (h : ∀ v c' a, c'.σ = c.σ → Stp c c' → Ok n c' → P1 c c' v a → Out n W P c' (k a c'.S) Q → Q1 v c'.H) : Out n W P1 c (m c.S) Q1 := by
  have o : Out n W P c (M.bind m k c.S) Q := o
  unfold M.bind at o
  cases e : m c.S with
  | ok a S' =>
    rw [e] at o
    exact fun v c' h1 h2 h3 h4 h5 => h v c' a h2 h3 h4 h5 (by rw [h1]; exact Out.later tr o h3 h2)
  | exc C fs S' => rw [e] at o; exact o
  | bad => rw [e] at o; exact o
theorem Out.imp {c : Cf} {r : Res α} {Q Q' : γ → Hp → Prop} (h : Out n W P c r Q) (q : ∀ v H, Q v H → Q' v H) : Out n W P c r Q' := by
  cases r with
  | ok x S' => exact fun v c2 h1 h2 h3 h4 h5 => q _ _ (h v c2 h1 h2 h3 h4 h5)
  | exc C fs S' => exact h
  | bad => exact h
/-- an outcome that is there -/
theorem Out.fin {c : Cf} {x : α} {v : γ} {Q : γ → Hp → Prop} (h : Out n W P c (.ok x c.S) Q) (k : Ok n c) (p : P c c v x) : Q v c.H := h v c rfl rfl (Stp.refl c) k p
theorem Out.to {c c' : Cf} {x : α} {S' : S} {v : γ} {Q : γ → Hp → Prop} (h : Out n W P c (.ok x S') Q) (e : c'.S = S') (eσ : c'.σ = c.σ) (s : Stp c c') (k : Ok n c') (p : P c c' v x) : Q v c'.H := h v c' e eσ s k p
theorem Out.not_bad {c : Cf} {Q : γ → Hp → Prop} {R : Prop} (h : Out n W P c .bad Q) : R := False.elim h
end
section
variable {X : Cx}
theorem _root_.L2.PE.imp {e : Expr} {t t' : TE} (h : PE X e t) (q : ∀ σ H Q, t' σ H Q → t σ H Q) : PE X e t' := ⟨fun pins s σ H Q I hw => h.run pins s σ H Q I (q σ H Q hw)⟩
theorem _root_.L2.PT.imp {e : Expr} {t t' : TT} (h : PT X e t) (q : ∀ σ H Q, t' σ H Q → t σ H Q) : PT X e t' := ⟨fun pins s σ H Q I hw => h.run pins s σ H Q I (q σ H Q hw)⟩
theorem _root_.L2.PS.imp {e : Stmt} {t t' : TS} (h : PS X e t) (q : ∀ D σ H, t' D σ H → t D σ H) : PS X e t' := ⟨fun pins s σ H D I hw => h.run pins s σ H D I (q D σ H hw)⟩
theorem _root_.L2.PSs.imp {e : List Stmt} {t t' : TS} (h : PSs X e t) (q : ∀ D σ H, t' D σ H → t D σ H) : PSs X e t' := ⟨fun pins s σ H D I hw => h.run pins s σ H D I (q D σ H hw)⟩
theorem _root_.L2.PA.imp {e : List Expr} {t t' : TA} (h : PA X e t) (q : ∀ σ H Q, t' σ H Q → t σ H Q) : PA X e t' := ⟨fun pos pins s σ H Q I hw => h.run pos pins s σ H Q I (q σ H Q hw)⟩

/-- own results are shared from here on -/
def dM (f : M L) : M D := do let x ← f; pure x.d
theorem OIs.freeze {c c' : Cf} {v : V} {x : L} (k : Ok n c') (s : Stp c c') (r : RV n c c' v x) : ∃ F', let c2 : Cf := { c' with F := F' }; Stp c c2 ∧ Ok n c2 ∧ Is n c2.F c2.φ v x.d := by
  obtain ⟨F', h1, h2, h3, h4⟩ := r.is.frozen k.sub
  have hm : ∀ a, Mut c' a → F' a = none := fun a m => by
    cases q : F' a with
    | none => rfl
    | some u =>
      rcases h4 a (by rw [q]; simp) with z | ⟨o, z⟩
      · rcases m with ⟨i, y, e1, e2, e3⟩ | m
        · obtain ⟨w, e4, e5⟩ := k.sl i y e1
          rw [e3] at e4; cases e4
          obtain ⟨_, ee, hf, _⟩ := e5.at e2
          cases ee
          exact absurd hf z
        · exact absurd (k.fφ a m) z
      · obtain ⟨n1, _⟩ := r.own o a z
        rcases m with m | m
        · exact absurd m n1
        · obtain ⟨_, ee, _, hn, _⟩ := r.is.at o
          rw [z] at ee; cases ee
          exact absurd m hn
  refine ⟨F', ?_, k.grow h1 h2 hm, h3⟩
  refine ⟨s.F.trans h1, s.H, fun b hb => ?_, fun b hb => s.mono b (by
    rcases hb with ⟨i, y, e1, e2, e3⟩ | m
    · exact .inl ⟨i, y, e1, e2, e3⟩
    · exact .inr m), s.there, s.φ, s.an⟩
  rcases h4 b hb with z | ⟨o, z⟩
  · exact s.new b z
  · obtain ⟨_, h⟩ := r.own o b z
    exact h.elim (fun z => .inr (.inl z)) fun z => .inr (.inr (.inl z))
theorem be_x {e : Expr} {f : M L} (h : PE X e (tO n W f)) : PE X e (tX n W (dM f)) := h.imp fun σ H Q ⟨c, e1, e2, k, o⟩ => by
  refine ⟨c, e1, e2, k, ?_⟩
  have o : Out n W (PX n) c (M.bind f (fun x => pure x.d) c.S) Q := o
  unfold M.bind at o
  cases q : f c.S with
  | ok x S' =>
    rw [q] at o
    exact fun v c' h1 h2 s k' r => by
      obtain ⟨F', s2, k2, i2⟩ := OIs.freeze k' s r
      exact o v { c' with F := F' } h1 h2 s2 k2 i2
  | exc C fs S' => rw [q] at o; exact o
  | bad => rw [q] at o; exact o
/-- a shared result, as one -/
def sM (f : M D) : M L := do let d ← f; pure (.sh d)
theorem OIs.sh {c : Cf} {v : V} {d : D} (h : Is n c.F c.φ v d) : OIs n c v (.sh d) := h
theorem be_o {e : Expr} {f : M D} (h : PE X e (tX n W f)) : PE X e (tO n W (sM f)) := h.imp fun σ H Q ⟨c, e1, e2, k, o⟩ =>
  ⟨c, e1, e2, k, Out.bind trO o fun v c' a hσ s k' r o' => o'.fin k' ⟨OIs.sh r, fun o => by cases o⟩⟩
theorem be_w {e : Expr} {f : M L} (h : PE X e (tO n W f)) : PE X e (tW n W f) := h.imp fun σ H Q ⟨c, e1, e2, k, o⟩ => by
  refine ⟨c, e1, e2, k, ?_⟩
  cases q : f c.S with
  | ok x S' => rw [q] at o; exact fun v c' h1 h2 s k' r => o v c' h1 h2 s k' r.is
  | exc C fs S' => rw [q] at o; exact o
  | bad => rw [q] at o; exact o
theorem be_xw {e : Expr} {f : M D} (h : PE X e (tX n W f)) : PE X e (tW n W (sM f)) := be_w (be_o h)

/-! ### names and constants -/
/-- a slot's value, shared from now on -/
def escN (i : Nat) : M D := fun s => match s.sl[i]? with
  | some (some x) => .ok x.d { s with sl := s.sl.set i (some (.sh x.d)) }
  | _ => .bad
/-- a slot as it is -/
def slN (i : Nat) : M L := fun s => match s.sl[i]? with
  | some (some x) => .ok x s
  | _ => .bad
section
variable {i : Nat} {x : Str} {pos : Pos}
theorem be_name (hN : X.N[i]? = some x) (hv : Vis X.env.scope x) (hd : (x == ("__debug__" : Str)) = false := by decide) (hcd : (x == ("__classdict__" : Str)) = false := by decide) : PE X (.Name x pos) (tX n W (escN i)) :=
  (pe_var hN hv hd hcd).imp fun σ H Q ⟨c, e1, e2, k, o⟩ => by
    subst e1 e2
    unfold escN at o
    cases e : c.S.sl[i]? with
    | none => rw [e] at o; exact o.not_bad
    | some y =>
      cases y with
      | none => rw [e] at o; exact o.not_bad
      | some y =>
        rw [e] at o
        obtain ⟨v, F', h1, h2, h3, h4⟩ := k.escape e
        exact ⟨v, h1, o v { c with S := { c.S with sl := c.S.sl.set i (some (.sh y.d)) }, F := F' } rfl rfl h2 h3 h4⟩
theorem be_nameW (hN : X.N[i]? = some x) (hv : Vis X.env.scope x) (hd : (x == ("__debug__" : Str)) = false := by decide) (hcd : (x == ("__classdict__" : Str)) = false := by decide) : PE X (.Name x pos) (tW n W (slN i)) :=
  (pe_var hN hv hd hcd).imp fun σ H Q ⟨c, e1, e2, k, o⟩ => by
    subst e1 e2
    unfold slN at o
    cases e : c.S.sl[i]? with
    | none => rw [e] at o; exact o.not_bad
    | some y =>
      cases y with
      | none => rw [e] at o; exact o.not_bad
      | some y =>
        rw [e] at o
        obtain ⟨v, h1, h2⟩ := k.sl i y e
        exact ⟨v, h1, o v c rfl rfl (Stp.refl c) k h2⟩
/-- a constant value -/
def isC (d : D) : V → Prop
  | .non => d = .non
  | .bl b => d = .bl b
  | .int i => d = .int i
  | .str x => d = .str x
  | _ => False
theorem be_c {e : Expr} {v : V} {d : D} (h : PE X e (tC v)) (i : ∀ F φ, Is n F φ v d) : PE X e (tX n W (pure d)) := h.imp fun σ H Q ⟨c, e1, e2, k, o⟩ => by
  subst e1 e2
  exact o.fin k (i _ _)
theorem be_int {z : Int} {j : Nat} : PE X (.Constant (.int z) j pos) (tX n W (pure (.int z))) := be_c pe_int fun _ _ => .int z
theorem be_bl {b : Bool} {j : Nat} : PE X (.Constant (.bool b) j pos) (tX n W (pure (.bl b))) := be_c pe_bl fun _ _ => .bl b
theorem be_non {j : Nat} : PE X (.Constant .none j pos) (tX n W (pure .non)) := be_c pe_non fun _ _ => .non
theorem be_str {z : Str} {j : Nat} : PE X (.Constant (.str z) j pos) (tX n W (pure (.str z))) := be_c pe_str fun _ _ => .str z
end

/-! ### operators -/
/-- g tells by value what r asks -/
def OpS (n : Nm) (W : WX) (r : R2) (g : D → D → M L) : Prop := ∀ (c : Cf) (x y : V) (d e : D) (Q : VK), Ok n c → Is n c.F c.φ x d → Is n c.F c.φ y e → Out n W (RV n) c (g d e c.S) Q → r x y c.H Q
def bin2 (fa fb : M D) (g : D → D → M L) : M L := do let x ← fa; let y ← fb; g x y
section
variable {a b : Expr} {fa fb : M D} {pos : Pos}
theorem be_tOp {r : R2} {g : D → D → M L} (h : OpS n W r g) {σ : L2.St} {H : Hp} {Q : VK} (o : tO n W (bin2 fa fb g) σ H Q) : tOp r (tX n W fa) (tX n W fb) σ H Q := by
  obtain ⟨c, rfl, rfl, k, o⟩ := o
  refine ⟨c, rfl, rfl, k, Out.bind (P1 := PX n) trO o fun x c1 d e1 s1 k1 i1 o1 => ?_⟩
  refine ⟨c1, e1, rfl, k1, Out.bind (P1 := PX n) trO o1 fun y c2 e e2 s2 k2 i2 o2 => ?_⟩
  exact h c2 x y d e Q k2 (s2.is i1) i2 o2
theorem be_op {op : Operator} {r : R2} {g : D → D → M L} (ho : OpR X (binaryOp op) r) (h : OpS n W r g) (ha : PE X a (tX n W fa)) (hb : PE X b (tX n W fb)) : PE X (.BinOp a op b pos) (tO n W (bin2 fa fb g)) :=
  (pe_op ho ha hb).imp fun _ _ _ o => be_tOp h o
theorem be_cmp {op : CmpOp} {r : R2} {g : D → D → M L} (ho : OpR X (compareOp op) r) (h : OpS n W r g) (ha : PE X a (tX n W fa)) (hb : PE X b (tX n W fb)) (hm : behindInMarks op b = false) : PE X (.Compare a [op] [b] pos) (tO n W (bin2 fa fb g)) :=
  (pe_cmpR ho ha hb hm).imp fun _ _ _ o => be_tOp h o
end
theorem is_int {F : Hp} {φ : List Addr} {x : V} {i : Int} (h : Is n F φ x (.int i)) : x = .int i := by cases h; rfl
theorem is_bl {F : Hp} {φ : List Addr} {x : V} {i : Bool} (h : Is n F φ x (.bl i)) : x = .bl i := by cases h; rfl
theorem is_str {F : Hp} {φ : List Addr} {x : V} {i : Str} (h : Is n F φ x (.str i)) : x = .str i := by cases h; rfl
theorem is_tup {F : Hp} {φ : List Addr} {x : V} {ds : List D} (h : Is n F φ x (.tup ds)) : ∃ a vs, x = .ref a ∧ SqT n.K F a vs ∧ IsL n F φ vs ds := by
  cases h with
  | tup h t => exact ⟨_, _, rfl, .of h, t⟩
theorem is_tupF {F : Hp} {φ : List Addr} {x : V} {ds : List D} (h : Is n F φ x (.tup ds)) : ∃ a vs, x = .ref a ∧ F a = some (.tup vs) ∧ IsL n F φ vs ds := by
  cases h with
  | tup h t => exact ⟨_, _, rfl, h, t⟩
theorem is_lst {F : Hp} {φ : List Addr} {x : V} {ds : List D} (h : Is n F φ x (.lst ds)) : ∃ a vs, x = .ref a ∧ F a = some (.lst vs) ∧ IsL n F φ vs ds := by
  cases h with
  | lst h t => exact ⟨_, _, rfl, h, t⟩
/-- a shared end -/
theorem Out.sh {c : Cf} {d : D} {v : V} {Q : VK} (h : Out n W (RV n) c (.ok (.sh d) c.S) Q) (k : Ok n c) (i : Is n c.F c.φ v d) : Q v c.H := h.fin k ⟨OIs.sh i, fun o => by cases o⟩
/-- an end that is a new tuple -/
theorem Out.newTup {c : Cf} {ds : List D} {vs : List V} {p : Addr} {Q : VK} (h : Out n W (RV n) c (.ok (.sh (.tup ds)) c.S) Q) (k : Ok n c) (i : IsL n c.F c.φ vs ds) (hp : c.H p = none) : Q (.ref p) (upd c.H p (.tup vs)) := by
  obtain ⟨k2, s2⟩ := k.allocF (o := .tup vs) hp
  exact h.to (c' := { c with H := upd c.H p (.tup vs), F := upd c.F p (.tup vs) }) rfl rfl s2 k2 ⟨OIs.sh (.tup upd_same (s2.isL i)), fun o => by cases o⟩
/-- an end that is a new list, own -/
theorem Out.newLst {c : Cf} {ds : List D} {vs : List V} {p : Addr} {Q : VK} (h : Out n W (RV n) c (.ok (.ol ds) c.S) Q) (k : Ok n c) (i : IsL n c.F c.φ vs ds) (hp : c.H p = none) : Q (.ref p) (upd c.H p (.lst vs)) := by
  obtain ⟨k2, s2, h1, h2, h3⟩ := k.alloc (o := .lst vs) hp
  refine h.to (c' := { c with H := upd c.H p (.lst vs) }) rfl rfl s2 k2 ⟨⟨p, vs, rfl, upd_same, h2, h1, s2.isL i⟩, fun _ a e => ?_⟩
  cases e
  exact ⟨fun ⟨j, y, a1, a2, a3⟩ => h3 ⟨j, y, a1, a2, a3⟩, .inl hp⟩

/-- whole numbers alone -/
def gI (C : Int → Int → Bool) (f : Int → Int → D) : D → D → M L
  | .int i, .int j => if C i j then pure (.sh (f i j)) else bad
  | _, _ => bad
theorem ops_I {r : R2} {C : Int → Int → Bool} {f : Int → Int → D} {C' : Int → Int → Prop} {f' : Int → Int → V} (hr : ∀ i j H Q, C' i j → Q (f' i j) H → r (.int i) (.int j) H Q) (hC : ∀ i j, C i j = true → C' i j) (hf : ∀ i j F φ, Is n F φ (f' i j) (f i j)) :
    OpS n W r (gI C f) := fun c x y d e Q k hi hj o => by
  unfold gI at o
  split at o
  · rename_i i j
    rw [is_int hi, is_int hj]
    split at o
    · rename_i hc
      exact hr i j _ _ (hC i j hc) (o.sh k (hf i j _ _))
    · exact o.not_bad
  · exact o.not_bad
def lineN : Nat := 16777216
theorem lineN_eq : sizeLine = lineN := sizeLine_eq
/-! #### + -/
def gAdd : D → D → M L
  | .int i, .int j => pure (.sh (.int (i + j)))
  | .tup xs, .tup ys => if xs.length + ys.length ≤ lineN then pure (.sh (.tup (xs ++ ys))) else bad
  | .lst xs, .lst ys => if xs.length + ys.length ≤ lineN then pure (.ol (xs ++ ys)) else bad
  | .str x, .str y => if x.length + y.length ≤ lineN then pure (.sh (.str (x ++ y))) else bad
  | _, _ => bad
def rAddA (K : PySem.W.Frag) : R2 := fun x y H Q => rI0 (fun i j => .int (i + j)) x y H Q ∨ rCatA K x y H Q ∨ rCat x y H Q ∨ ∃ i j, x = .str i ∧ y = .str j ∧ i.length + j.length ≤ sizeLine ∧ Q (.str (i ++ j)) H
theorem op_addA : OpR X (binaryOp .Add) (rAddA X.K) := op_add.or (op_catA.or (op_cat.or op_add_str))
theorem ops_add : OpS n W (rAddA n.K) gAdd := fun c x y d e Q k hi hj o => by
  unfold gAdd at o
  split at o
  · rw [is_int hi, is_int hj]
    exact .inl ⟨_, _, rfl, rfl, o.sh k (.int _)⟩
  · obtain ⟨a, vs, rfl, h1, h2⟩ := is_tup hi
    obtain ⟨b, ws, rfl, h3, h4⟩ := is_tup hj
    split at o
    · rename_i hz
      refine .inr (.inl ⟨a, b, vs, ws, rfl, rfl, k.sub.seqT h1, k.sub.seqT h3, by rw [h2.length, h4.length, lineN_eq]; exact hz, fun e => ?_, fun _ e => ?_, fun _ _ p hp => o.newTup k (h2.append h4) hp⟩)
      · subst e
        cases h2
        rw [List.nil_append] at o
        exact o.sh k hj
      · subst e
        cases h4
        rw [List.append_nil] at o
        exact o.sh k hi
    · exact o.not_bad
  · obtain ⟨a, vs, rfl, h1, h2⟩ := is_lst hi
    obtain ⟨b, ws, rfl, h3, h4⟩ := is_lst hj
    split at o
    · rename_i hz
      exact .inr (.inr (.inl ⟨a, b, vs, ws, rfl, rfl, k.sub _ _ h1, k.sub _ _ h3, by rw [h2.length, h4.length, lineN_eq]; exact hz, fun p hp => o.newLst k (h2.append h4) hp⟩))
    · exact o.not_bad
  · rw [is_str hi, is_str hj]
    split at o
    · rename_i hz
      exact .inr (.inr (.inr ⟨_, _, rfl, rfl, by rw [lineN_eq]; exact hz, o.sh k (.str _)⟩))
    · exact o.not_bad
  · exact o.not_bad
/-! #### -, *, //, %, ** -/
def gSub : D → D → M L := gI (fun _ _ => true) fun i j => .int (i - j)
theorem ops_sub : OpS n W (rI0 fun i j => .int (i - j)) gSub := ops_I (C' := fun _ _ => True) (fun i j _ _ _ q => ⟨i, j, rfl, rfl, q⟩) (fun _ _ _ => trivial) fun _ _ _ _ => .int _
def gMul : D → D → M L
  | .int i, .int j => if decide (-(2 ^ 64) < i) && decide (i < 2 ^ 64) || decide (-(2 ^ 64) < j) && decide (j < 2 ^ 64) then pure (.sh (.int (i * j))) else bad
  | .lst xs, .int j => if decide (-(2 ^ 63) ≤ j) && decide (j < 2 ^ 63) && decide (xs.length * j.toNat ≤ lineN) then pure (.ol (List.replicate j.toNat xs).flatten) else bad
  | .tup xs, .int j => if decide (0 < xs.length) && decide (-(2 ^ 62) ≤ j) && decide (j ≤ 1000) && decide (xs.length ≤ 1000) then pure (.sh (.tup (List.replicate j.toNat xs).flatten)) else bad
  | _, _ => bad
def rMulA (K : PySem.W.Frag) : R2 := fun x y H Q => rI CMul (fun i j => .int (i * j)) x y H Q ∨ rRep x y H Q ∨ rRepT K x y H Q ∨ rRepN K x y H Q
theorem op_mulA : OpR X (binaryOp .Mult) (rMulA X.K) := op_mul.or (op_rep.or (op_repT.or op_repN))
theorem IsL.rep {F : Hp} {φ : List Addr} {vs : List V} {ds : List D} (h : IsL n F φ vs ds) : ∀ k : Nat, IsL n F φ (List.replicate k vs).flatten (List.replicate k ds).flatten
  | 0 => .nil
  | k + 1 => by
    rw [List.replicate_succ, List.replicate_succ, List.flatten_cons, List.flatten_cons]
    exact h.append (IsL.rep h k)
theorem ops_mul : OpS n W (rMulA n.K) gMul := fun c x y d e Q k hi hj o => by
  unfold gMul at o
  split at o
  · rw [is_int hi, is_int hj]
    split at o
    · rename_i hz
      refine .inl ⟨_, _, rfl, rfl, ?_, o.sh k (.int _)⟩
      simpa [CMul, Bool.or_eq_true, Bool.and_eq_true] using hz
    · exact o.not_bad
  · obtain ⟨a, vs, rfl, h1, h2⟩ := is_lst hi
    rw [is_int hj]
    split at o
    · rename_i hz
      simp only [Bool.and_eq_true, decide_eq_true_eq] at hz
      exact .inr (.inl ⟨a, _, vs, rfl, rfl, k.sub _ _ h1, hz.1.1, hz.1.2, by rw [h2.length, lineN_eq]; exact hz.2, fun p hp => o.newLst k (h2.rep _) hp⟩)
    · exact o.not_bad
  · obtain ⟨a, vs, rfl, h1, h2⟩ := is_tupF hi
    rw [is_int hj]
    split at o
    · rename_i hz
      simp only [Bool.and_eq_true, decide_eq_true_eq] at hz
      have hvs : vs ≠ [] := fun z => by
        have := h2.length
        rw [z, List.length_nil] at this
        omega
      rename_i xs jj
      by_cases hj2 : 2 ≤ jj
      · exact .inr (.inr (.inl ⟨a, _, vs, rfl, rfl, k.sub.seqT (.of h1), hvs, hj2, hz.1.2, by rw [h2.length]; exact hz.2, fun p hp => o.newTup k (h2.rep _) hp⟩))
      · refine .inr (.inr (.inr ⟨a, _, vs, rfl, rfl, k.sub.seqT (.of h1), hvs, hz.1.1.2, by omega, fun e => ?_, fun e p hp => ?_⟩))
        · subst e
          simp only [Int.toNat_one, List.replicate_succ, List.replicate_zero, List.flatten_cons, List.flatten_nil, List.append_nil] at o
          exact o.sh k (.tup h1 h2)
        · rw [show jj.toNat = 0 by omega] at o
          exact o.newTup k .nil hp
    · exact o.not_bad
  · exact o.not_bad
def gFdv : D → D → M L := gI (fun _ j => decide (0 < j) && decide (j < 1073741824)) fun i j => .int (i / j)
theorem ops_fdv : OpS n W (rI CDiv fun i j => .int (i / j)) gFdv := ops_I (C' := CDiv) (fun i j _ _ c q => ⟨i, j, rfl, rfl, c, q⟩) (fun i j h => by
  simp only [Bool.and_eq_true, decide_eq_true_eq] at h
  exact h) fun _ _ _ _ => .int _
def gMod : D → D → M L := gI (fun _ j => decide (0 < j)) fun i j => .int (i % j)
theorem ops_mod : OpS n W (rI (fun _ j => 0 < j) fun i j => .int (i % j)) gMod := ops_I (C' := fun _ j => 0 < j) (fun i j _ _ c q => ⟨i, j, rfl, rfl, c, q⟩) (fun i j h => of_decide_eq_true h) fun _ _ _ _ => .int _
def gPow : D → D → M L := gI (fun i j => decide (0 ≤ j) && decide (j ≤ 1000000) && decide (i.natAbs < 2 ^ 64)) fun i j => .int (i ^ j.toNat)
theorem ops_pow : OpS n W (rI CPow fun i j => .int (i ^ j.toNat)) gPow := ops_I (C' := CPow) (fun i j _ _ c q => ⟨i, j, rfl, rfl, c, q⟩) (fun i j h => by
  simp only [Bool.and_eq_true, decide_eq_true_eq] at h
  exact ⟨h.1.1, h.1.2, h.2⟩) fun _ _ _ _ => .int _
/-! #### comparisons of numbers -/
def gCmp (p : Int → Int → Bool) : D → D → M L := gI (fun _ _ => true) fun i j => .bl (p i j)
theorem ops_cmp (p : Int → Int → Bool) : OpS n W (rI0 fun i j => .bl (p i j)) (gCmp p) := ops_I (C' := fun _ _ => True) (fun i j _ _ _ q => ⟨i, j, rfl, rfl, q⟩) (fun _ _ _ => trivial) fun _ _ _ _ => .bl _
end
end Bv

/-! data: ==, in, is -/
namespace Bv
open PySem PySem.Spec PyProof.Rows L2
mutual
/-- as plain data -/
def D.py : D → Option PyData
  | .non => some .none
  | .bl b => some (.bool b)
  | .int i => some (.int i)
  | .str x => some (.str x)
  | .lst xs => (pyL xs).map .list
  | .tup xs => (pyL xs).map .tuple
  | _ => none
def pyL : List D → Option (List PyData)
  | [] => some []
  | d :: ds => match D.py d, pyL ds with
    | some p, some ps => some (p :: ps)
    | _, _ => none
end
variable {n : Nm} {W : WX}
mutual
theorem Is.dp {F H : Hp} {φ : List Addr} (s : Sub F H) : ∀ {v : V} {d : D} {p : PyData}, Is n F φ v d → d.py = some p → Dp n.K H v p
  | _, _, _, .non, e => by cases e; exact .non
  | _, _, _, .bl b, e => by cases e; exact .bl b
  | _, _, _, .int i, e => by cases e; exact .int i
  | _, _, _, .str x, e => by cases e; exact .str x
  | _, .lst ds, p, .lst h t, e => by
    unfold D.py at e
    cases q : pyL ds with
    | none => rw [q] at e; cases e
    | some ps => rw [q] at e; cases e; exact .lst (.of (s _ _ h)) (IsL.dp s t q)
  | _, .tup ds, p, .tup h t, e => by
    unfold D.py at e
    cases q : pyL ds with
    | none => rw [q] at e; cases e
    | some ps => rw [q] at e; cases e; exact .tup (s.seqT (.of h)) (IsL.dp s t q)
  | _, _, _, .dicK _ _, e => by cases e
  | _, _, _, .dicT _ _, e => by cases e
  | _, _, _, .inst _ _ _, e => by cases e
  | _, _, _, .fn _, e => by cases e
  | _, _, _, .mref _, e => by cases e
  | _, _, _, .scr _ _, e => by cases e
theorem IsL.dp {F H : Hp} {φ : List Addr} (s : Sub F H) : ∀ {vs : List V} {ds : List D} {ps : List PyData}, IsL n F φ vs ds → pyL ds = some ps → DpAll n.K H vs ps
  | _, _, _, .nil, e => by cases e; exact .nil
  | _, d :: ds, ps, .cons h t, e => by
    unfold pyL at e
    cases q : D.py d with
    | none => rw [q] at e; cases e
    | some p =>
      cases q2 : pyL ds with
      | none => rw [q, q2] at e; cases e
      | some ps => rw [q, q2] at e; cases e; exact .cons (Is.dp s h q) (IsL.dp s t q2)
end
/-- == by value, None where it is not known -/
def eqD (d e : D) : Option Bool := match d.py, e.py with
  | some p, some q => if SeqAt.shaped p && SeqAt.shaped q then some (PyData.eqv p q) else none
  | _, _ => none
def gEq (d e : D) : M L := match eqD d e with
  | some b => pure (.sh (.bl b))
  | none => bad
def gNe (d e : D) : M L := match eqD d e with
  | some b => pure (.sh (.bl !b))
  | none => bad
theorem eqD_some {d e : D} {b : Bool} (h : eqD d e = some b) : ∃ p q, d.py = some p ∧ e.py = some q ∧ SeqAt.shaped p = true ∧ SeqAt.shaped q = true ∧ PyData.eqv p q = b := by
  unfold eqD at h
  split at h
  · rename_i p q h1 h2
    split at h
    · rename_i h3
      rw [Bool.and_eq_true] at h3
      exact ⟨p, q, h1, h2, h3.1, h3.2, Option.some.inj h⟩
    · cases h
  · cases h
theorem ops_eq : OpS n W (rEqD n.K) gEq := fun c x y d e Q k hi hj o => by
  unfold gEq at o
  cases hb : eqD d e with
  | some b =>
    rw [hb] at o
    obtain ⟨p, q, h1, h2, h3, h4, rfl⟩ := eqD_some hb
    exact ⟨p, q, hi.dp k.sub h1, hj.dp k.sub h2, h3, h4, o.sh k (.bl _)⟩
  | none => rw [hb] at o; exact o.not_bad
theorem ops_ne : OpS n W (rNeD n.K) gNe := fun c x y d e Q k hi hj o => by
  unfold gNe at o
  cases hb : eqD d e with
  | some b =>
    rw [hb] at o
    obtain ⟨p, q, h1, h2, h3, h4, rfl⟩ := eqD_some hb
    exact ⟨p, q, hi.dp k.sub h1, hj.dp k.sub h2, h3, h4, o.sh k (.bl _)⟩
  | none => rw [hb] at o; exact o.not_bad
/-- is there an equal one -/
def inD (d : D) : D → Option Bool
  | .lst es => (match d.py, pyL es with
    | some p, some qs => if SeqAt.shaped p && SeqAt.shaped (.list qs) then some (qs.any fun z => PyData.eqv z p) else none
    | _, _ => none)
  | .tup es => (match d.py, pyL es with
    | some p, some qs => if SeqAt.shaped p && SeqAt.shaped (.tuple qs) then some (qs.any fun z => PyData.eqv z p) else none
    | _, _ => none)
  | _ => none
/-- x in t, a tuple -/
def rInT (K : PySem.W.Frag) (neg : Bool) : R2 := fun x y H Q => ∃ d ds, Dp K H x d ∧ Dp K H y (.tuple ds) ∧ SeqAt.shaped d = true ∧ SeqAt.shaped (.tuple ds) = true ∧ Q (.bl (if neg then !ds.any fun z => PyData.eqv z d else ds.any fun z => PyData.eqv z d)) H
section
variable {X : Cx}
theorem op_inT (hu : X.A.units + 65 < cLine) : OpR X (compareOp .In) (rInT X.K false) := by
  intro pins s σ H x y v u Q I rx ry h
  obtain ⟨d, ds, hd, he, sd, se, q⟩ := h
  obtain ⟨as, r1⟩ := Dp.reads I d x v hd rx
  obtain ⟨bs, r2⟩ := Dp.reads I (.tuple ds) y u he ry
  exact SeqAt.in_tuple_reads r2 r1 (SeqAt.canLay_of_shaped se) (SeqAt.canLay_of_shaped sd) (room_in_shaped sd hu) ⟨.bl _, H, I, rfl, q⟩
theorem op_notInT (hu : X.A.units + 65 < cLine) : OpR X (compareOp .NotIn) (rInT X.K true) := by
  intro pins s σ H x y v u Q I rx ry h
  obtain ⟨d, ds, hd, he, sd, se, q⟩ := h
  obtain ⟨as, r1⟩ := Dp.reads I d x v hd rx
  obtain ⟨bs, r2⟩ := Dp.reads I (.tuple ds) y u he ry
  exact SeqAt.notIn_tuple_reads r2 r1 (SeqAt.canLay_of_shaped se) (SeqAt.canLay_of_shaped sd) (room_in_shaped sd hu) ⟨.bl _, H, I, rfl, q⟩
/-! ### is -/
def rIsP (neg : Bool) : R2 := fun x y H Q => (y = .non ∨ ∃ b, y = .bl b) ∧ Q (.bl (if neg then !decide (x = y) else decide (x = y))) H
theorem relV_isP {x y : V} {v u : Value} (hy : y = .non ∨ ∃ b, y = .bl b) (rx : RelV x v) (ry : RelV y u) : plainIs v u = true ∧ (v == u) = decide (x = y) := by
  rcases hy with rfl | ⟨b, rfl⟩
  · cases ry
    cases x <;> first
      | (cases rx; exact ⟨rfl, rfl⟩)
      | (obtain ⟨t, rfl⟩ := rx; exact ⟨rfl, rfl⟩)
  · cases ry
    cases x <;> first
      | (cases rx; exact ⟨rfl, rfl⟩)
      | (cases rx; exact ⟨rfl, by rw [dec_bl]; rename_i a; cases a <;> cases b <;> rfl⟩)
      | (obtain ⟨t, rfl⟩ := rx; exact ⟨rfl, rfl⟩)
theorem op_isP : OpR X (compareOp .Is) (rIsP false) := by
  intro pins s σ H x y v u Q I rx ry h
  obtain ⟨hy, q⟩ := h
  obtain ⟨h1, h2⟩ := relV_isP hy rx ry
  exact wpAny_is_plain h1 ⟨.bl _, H, I, by rw [h2]; rfl, q⟩
theorem op_isNotP : OpR X (compareOp .IsNot) (rIsP true) := by
  intro pins s σ H x y v u Q I rx ry h
  obtain ⟨hy, q⟩ := h
  obtain ⟨h1, h2⟩ := relV_isP hy rx ry
  exact wpAny_isNot_plain h1 ⟨.bl _, H, I, by rw [h2]; rfl, q⟩
end
def isD : D → D → Option Bool
  | .non, .non => some true
  | .bl a, .bl b => some (a == b)
  | _, .non => some false
  | _, .bl _ => some false
  | _, _ => none
def gIs (neg : Bool) (d e : D) : M L := match isD d e with
  | some b => pure (.sh (.bl (if neg then !b else b)))
  | none => bad
theorem isD_some {d e : D} {b : Bool} {F : Hp} {φ : List Addr} {x y : V} (h : isD d e = some b) (hx : Is n F φ x d) (hy : Is n F φ y e) : (y = .non ∨ ∃ b, y = .bl b) ∧ decide (x = y) = b := by
  unfold isD at h
  split at h
  · cases hx; cases hy; cases h; exact ⟨.inl rfl, rfl⟩
  · cases hx; cases hy; cases h; exact ⟨.inr ⟨_, rfl⟩, dec_bl⟩
  · cases hy
    cases h
    refine ⟨.inl rfl, decide_eq_false fun z => ?_⟩
    subst z
    cases hx
    simp_all
  · cases hy
    cases h
    refine ⟨.inr ⟨_, rfl⟩, decide_eq_false fun z => ?_⟩
    subst z
    cases hx
    simp_all
  · cases h
theorem ops_is (neg : Bool) : OpS n W (rIsP neg) (gIs neg) := fun c x y d e Q k hi hj o => by
  unfold gIs at o
  cases hb : isD d e with
  | some b =>
    rw [hb] at o
    obtain ⟨h1, h2⟩ := isD_some hb hi hj
    refine ⟨h1, ?_⟩
    rw [h2]
    exact o.sh k (.bl _)
  | none => rw [hb] at o; exact o.not_bad
def gIn (neg : Bool) (d e : D) : M L := match inD d e with
  | some b => pure (.sh (.bl (if neg then !b else b)))
  | none => bad
def rInA (K : PySem.W.Frag) (neg : Bool) : R2 := fun x y H Q => (if neg then rNotInD K x y H Q else rInD K x y H Q) ∨ rInT K neg x y H Q
theorem op_inA {X : Cx} (hu : X.A.units + 65 < cLine) : OpR X (compareOp .In) (rInA X.K false) := OpR.or (op_inD hu) (op_inT hu)
theorem op_notInA {X : Cx} (hu : X.A.units + 65 < cLine) : OpR X (compareOp .NotIn) (rInA X.K true) := OpR.or (op_notInD hu) (op_notInT hu)
theorem ops_in (neg : Bool) : OpS n W (rInA n.K neg) (gIn neg) := fun c x y d e Q k hi hj o => by
  unfold gIn at o
  cases hb : inD d e with
  | none => rw [hb] at o; exact o.not_bad
  | some b =>
    rw [hb] at o
    unfold inD at hb
    split at hb
    · rename_i es
      split at hb
      · rename_i p qs h1 h2
        split at hb
        · rename_i h3
          rw [Bool.and_eq_true] at h3
          cases hb
          have hl : (D.lst es).py = some (.list qs) := by unfold D.py; rw [h2]; rfl
          refine .inl ?_
          cases neg with
          | true => exact ⟨p, qs, hi.dp k.sub h1, hj.dp k.sub hl, h3.1, h3.2, o.sh k (.bl _)⟩
          | false => exact ⟨p, qs, hi.dp k.sub h1, hj.dp k.sub hl, h3.1, h3.2, o.sh k (.bl _)⟩
        · cases hb
      · cases hb
    · rename_i es
      split at hb
      · rename_i p qs h1 h2
        split at hb
        · rename_i h3
          rw [Bool.and_eq_true] at h3
          cases hb
          have hl : (D.tup es).py = some (.tuple qs) := by unfold D.py; rw [h2]; rfl
          refine .inr ⟨p, qs, hi.dp k.sub h1, hj.dp k.sub hl, h3.1, h3.2, ?_⟩
          cases neg with
          | true => exact o.sh k (.bl _)
          | false => exact o.sh k (.bl _)
        · cases hb
      · cases hb
    · cases hb
end Bv

/-! argument lists, displays, calls -/
namespace Bv
open PySem PySem.Spec PyProof.Rows L2
section
variable (n : Nm) (W : WX)
def PL : Cf → Cf → List V → List D → Prop := fun _ c' vs ds => IsL n c'.F c'.φ vs ds
def tA (f : M (List D)) : TA := fun σ H Q => ∃ c : Cf, c.σ = σ ∧ c.H = H ∧ Ok n c ∧ Out n W (PL n) c (f c.S) Q
end
variable {n : Nm} {W : WX} {X : Cx}
theorem trL : Trans (PL n) := fun _ _ _ _ _ _ h => h
def nilM : M (List D) := pure []
def consM (f : M D) (fs : M (List D)) : M (List D) := do let d ← f; let ds ← fs; pure (d :: ds)
theorem ba_nil : PA X [] (tA n W nilM) := pa_nil.imp fun σ H Q ⟨c, e1, e2, k, o⟩ => by
  subst e1 e2
  exact o [] c rfl rfl (Stp.refl c) k .nil
theorem ba_cons {e : Expr} {es : List Expr} {f : M D} {fs : M (List D)} (h : PE X e (tX n W f)) (hs : PA X es (tA n W fs)) (he : starEach (e :: es) X.env = (false, eval e X.env) :: starEach es X.env) : PA X (e :: es) (tA n W (consM f fs)) :=
  (pa_cons h hs he).imp fun σ H Q ⟨c, e1, e2, k, o⟩ => by
    subst e1 e2
    refine ⟨c, rfl, rfl, k, Out.bind (P1 := PX n) trL o fun x c1 d e1 s1 k1 i1 o1 => ?_⟩
    refine ⟨c1, e1, rfl, k1, Out.bind (P1 := PL n) trL o1 fun xs c2 ds e2 s2 k2 i2 o2 => ?_⟩
    exact o2 (x :: xs) c2 rfl rfl (Stp.refl c2) k2 (.cons (s2.is i1) i2)
/-- a tuple display -/
def gTup (ds : List D) : M L := if ds.length ≤ lineN then pure (.sh (.tup ds)) else bad
def gLst (ds : List D) : M L := if ds.length ≤ lineN then pure (.ol ds) else bad
def fnM (fs : M (List D)) (g : List D → M L) : M L := do let ds ← fs; g ds
theorem be_tup {es : List Expr} {k1 : Nat} {pos : Pos} {fs : M (List D)} (h : PA X es (tA n W fs)) : PE X (.Tuple es k1 pos) (tO n W (fnM fs gTup)) := (pe_tup h).imp fun σ H Q ⟨c, e1, e2, k, o⟩ => by
  subst e1 e2
  refine ⟨c, rfl, rfl, k, Out.bind (P1 := PL n) trO o fun vs c1 ds e1 s1 k1 i1 o1 => ?_⟩
  unfold gTup at o1
  split at o1
  · rename_i hz
    exact ⟨by rw [i1.length, lineN_eq]; exact hz, fun p hp => o1.newTup k1 i1 hp⟩
  · exact o1.not_bad
theorem be_lst {es : List Expr} {pos : Pos} {fs : M (List D)} (h : PA X es (tA n W fs)) : PE X (.List es pos) (tO n W (fnM fs gLst)) := (pe_lst h).imp fun σ H Q ⟨c, e1, e2, k, o⟩ => by
  subst e1 e2
  refine ⟨c, rfl, rfl, k, Out.bind (P1 := PL n) trO o fun vs c1 ds e1 s1 k1 i1 o1 => ?_⟩
  unfold gLst at o1
  split at o1
  · rename_i hz
    exact ⟨by rw [i1.length, lineN_eq]; exact hz, fun p hp => o1.newLst k1 i1 hp⟩
  · exact o1.not_bad
/-- a call's values -/
def CallS (n : Nm) (W : WX) (r : List V → Hp → VK → Prop) (g : List D → M L) : Prop := ∀ (c : Cf) (vs : List V) (ds : List D) (Q : VK), Ok n c → IsL n c.F c.φ vs ds → Out n W (RV n) c (g ds c.S) Q → r vs c.H Q
theorem be_tCB {r : List V → Hp → VK → Prop} {g : List D → M L} {fs : M (List D)} (h : CallS n W r g) {σ : L2.St} {H : Hp} {Q : VK} (o : tO n W (fnM fs g) σ H Q) : tCB r (tA n W fs) σ H Q := by
  obtain ⟨c, rfl, rfl, k, o⟩ := o
  exact ⟨c, rfl, rfl, k, Out.bind (P1 := PL n) trO o fun vs c1 ds e1 s1 k1 i1 o1 => h c1 vs ds Q k1 i1 o1⟩
section
variable {x : Str} {p pos : Pos} {e : Expr} {es : List Expr} {fs : M (List D)} {g : List D → M L} {r : List V → Hp → VK → Prop} {id T : String}
theorem be_callB (hc : CallR X (.builtin id) r) (h : CallS n W r g) (hg : Gl X x) (hm : X.mg x = none) (hv : bootBuiltins x = some (.builtin id)) (ha : PA X (e :: es) (tA n W fs)) (hn : x ≠ "__name__") (hdb : (x == ("__debug__" : Str)) = false)
    (he : starEach (e :: es) X.env = (false, eval e X.env) :: starEach es X.env) (hpl : (backTo pos (starEach es X.env)).any (·.1) = false) : PE X (.Call (.Name x p) (e :: es) [] pos) (tO n W (fnM fs g)) :=
  (pe_callB hc hg hm hv ha hn hdb he hpl).imp fun _ _ _ o => be_tCB h o
theorem be_callTy (hc : CallR X (.type T) r) (h : CallS n W r g) (hg : Gl X x) (hm : X.mg x = none) (hv : bootBuiltins x = some (.type T)) (ha : PA X (e :: es) (tA n W fs)) (hn : x ≠ "__name__") (hdb : (x == ("__debug__" : Str)) = false)
    (he : starEach (e :: es) X.env = (false, eval e X.env) :: starEach es X.env) (hpl : (backTo pos (starEach es X.env)).any (·.1) = false) : PE X (.Call (.Name x p) (e :: es) [] pos) (tO n W (fnM fs g)) :=
  (pe_callTy hc hg hm hv ha hn hdb he hpl).imp fun _ _ _ o => be_tCB h o
end

/-! ### defs of the text -/
abbrev FnS := List D → M L
/-- what a def by value promises: f tells the outcome from the arguments and the store -/
def OutF (n : Nm) (c : Cf) (r : Res L) (Q : VK) (E : XK) : Prop := match r with
  | .ok x S' => ∀ v c', c'.S = ⟨[], S'.st⟩ → c'.σ = [] → Stp c c' → Ok n c' → OIs n c' v x → (x.own = true → ∀ a, v = .ref a → c.H a = none) → Q v c'.H
  | .exc C fs S' => ∀ (Ca : Addr) (d : Option Addr) (c' : Cf), c'.S = ⟨[], S'.st⟩ → c'.σ = [] → Stp c c' → Ok n c' → n.cA C = some Ca → XD n c' d fs → E (.ref Ca) d c'.H
  | .bad => False
def spB (n : Nm) (m : Nat) (f : FnS) : Sp := fun vs H Q E => ∃ (c : Cf) (ds : List D), c.H = H ∧ c.σ = [] ∧ c.S.sl = [] ∧ Ok n c ∧ IsL n c.F c.φ vs ds ∧ vs.length = m ∧ OutF n c (f ds c.S) Q E

/-- the state without slots -/
def Cf.bare (c : Cf) : Cf := { c with S := ⟨[], c.S.st⟩, σ := [] }
theorem Ok.bare {c : Cf} (k : Ok n c) : Ok n c.bare where
  len := rfl
  sub := k.sub
  sl := fun i x e => by
    have e : ([] : List (Option L))[i]? = some (some x) := e
    simp at e
  dist := fun i j x y a _ e => by
    have e : ([] : List (Option L))[i]? = some (some x) := e
    simp at e
  nd := k.nd
  slen := k.slen
  st := fun j o a h1 h2 => by
    have := k.st j o a h1 h2
    cases o <;> exact this
  fφ := k.fφ
theorem mut_bare {c : Cf} {a : Addr} (m : Mut c.bare a) : a ∈ c.φ := by
  rcases m with ⟨i, x, e, _⟩ | m
  · have e : ([] : List (Option L))[i]? = some (some x) := e
    simp at e
  · exact m
/-- behind a call: the caller's slots again -/
theorem Ok.back {c c' : Cf} {st : List MO} (k : Ok n c) (s : Stp c.bare c') (k' : Ok n c') (e : c'.S = ⟨[], st⟩) : Ok n { c' with S := ⟨c.S.sl, st⟩, σ := c.σ } ∧ Stp c { c' with S := ⟨c.S.sl, st⟩, σ := c.σ } := by
  obtain ⟨ψ, hψ⟩ := s.φ
  have own : ∀ (i : Nat) (x : L), c.S.sl[i]? = some (some x) → x.own = true → ∀ a : Addr, c.σ[i]? = some (some (V.ref a)) → ¬ Mut c.bare a ∧ a ∉ c'.φ := fun i x e1 o a e2 => by
    obtain ⟨v, h1, h2⟩ := k.sl i x e1
    rw [e2] at h1; cases h1
    obtain ⟨_, ee, hf, hφ, u, hu, _⟩ := h2.at o
    cases ee
    refine ⟨fun m => hφ (mut_bare m), fun m => ?_⟩
    rcases s.mono a (.inr m) with z | z
    · exact hφ (mut_bare z)
    · have z : c.H a = none := z
      rw [hu] at z; cases z
  refine ⟨⟨k.len, k'.sub, fun i x e1 => ?_, k.dist, k'.nd, ?_, fun j o a h1 h2 => ?_, k'.fφ⟩, ⟨s.F, fun b o h m t => s.H b o h (fun z => m (.inr (mut_bare z))) t, fun b h => ?_, fun b h => ?_, s.there, ⟨ψ, hψ⟩, s.an⟩⟩
  · obtain ⟨v, h1, h2⟩ := k.sl i x e1
    refine ⟨v, h1, ?_⟩
    have h3 : OIs n c.bare v x := by cases x <;> exact h2
    have h4 := h3.step s fun o a ea => by subst ea; exact own i x e1 o a h1
    cases x <;> exact h4
  · have z := k'.slen
    rw [e] at z; exact z
  · have h1 : st[j]? = some o := h1
    have z := k'.st j o a (by rw [e]; exact h1) h2
    cases o <;> exact z
  · rcases s.new b h with z | z | z | z
    · exact .inl z
    · exact .inr (.inl z)
    · exact .inr (.inr (.inl (.inr (mut_bare z))))
    · exact .inr (.inr (.inr z))
  · rcases h with ⟨i, x, e1, e2, e3⟩ | h
    · exact .inl (.inl ⟨i, x, e1, e2, e3⟩)
    · rcases s.mono b (.inr h) with z | z
      · exact .inl (.inr (mut_bare z))
      · exact .inr z
/-- a call by value: the callee sees the store alone -/
def callM (f : FnS) (ds : List D) : M L := fun s => match f ds ⟨[], s.st⟩ with
  | .ok x s' => .ok x ⟨s.sl, s'.st⟩
  | .exc C fs s' => .exc C fs ⟨s.sl, s'.st⟩
  | .bad => .bad
theorem call_ok {f : FnS} {m : Nat} {c : Cf} {vs : List V} {ds : List D} {Q : VK} (k : Ok n c) (i : IsL n c.F c.φ vs ds) (hm : ds.length = m) (o : Out n W (RV n) c (callM f ds c.S) Q) : spB n m f vs c.H Q (fun cls d H' => W cls d c.σ H') := by
  refine ⟨c.bare, ds, rfl, rfl, rfl, k.bare, i, by rw [i.length]; exact hm, ?_⟩
  unfold callM at o
  show OutF n c.bare (f ds ⟨[], c.S.st⟩) Q _
  cases q : f ds ⟨[], c.S.st⟩ with
  | ok x S' =>
    rw [q] at o
    intro v c' e1 e2 s' k' r' own
    obtain ⟨k2, s2⟩ := k.back s' k' e1
    refine o.to (c' := { c' with S := ⟨c.S.sl, S'.st⟩, σ := c.σ }) rfl rfl s2 k2 ⟨by cases x <;> exact r', fun ox a ea => ?_⟩
    have hn : c.H a = none := own ox a ea
    refine ⟨fun ⟨j, y, a1, a2, a3⟩ => ?_, .inl hn⟩
    obtain ⟨w, b1, b2⟩ := k.sl j y a1
    have a3 : c.σ[j]? = some (some (V.ref a)) := a3
    rw [a3] at b1; cases b1
    obtain ⟨_, ee, _, _, u, hu, _⟩ := b2.at a2
    cases ee
    rw [hn] at hu; cases hu
  | exc C fs S' =>
    rw [q] at o
    intro Ca d c' e1 e2 s' k' hC hx
    obtain ⟨k2, s2⟩ := k.back s' k' e1
    have z := o Ca d { c' with S := ⟨c.S.sl, S'.st⟩, σ := c.σ } rfl rfl s2 k2 hC hx
    exact z
  | bad => rw [q] at o; exact o
def callN (m : Nat) (f : FnS) (ds : List D) : M L := if ds.length = m then callM f ds else bad
theorem be_call {x : Str} {p pos : Pos} {e : Expr} {es : List Expr} {fs : M (List D)} {f : FnS} {k m : Nat} {a : Addr} {fd : FuncData} {ps : List Str} (tk : Takes X W) (F : FnOk X.prog X.w X.K X.mg X.base (L2.CX X.prog X.w) k a fd ps (spB n m f)) (hr : Room k X.A) (hg : Gl X x) (hm : X.mg x = some (.ref a)) (hk : PySem.W.keepIn X.K (.ref a) = true)
    (hb : Binds X.K fd ps []) (ha : PA X (e :: es) (tA n W fs)) (hdb : (x == ("__debug__" : Str)) = false) (he : starEach (e :: es) X.env = (false, eval e X.env) :: starEach es X.env) (hpl : (backTo pos (starEach es X.env)).any (·.1) = false) :
    PE X (.Call (.Name x p) (e :: es) [] pos) (tO n W (fnM fs (callN m f))) :=
  (pe_callS F hr hg hm hk hb (fun σ => passAt tk σ) ha hdb he hpl).imp fun σ H Q ⟨c, e1, e2, kc, o⟩ => by
    subst e1 e2
    refine ⟨c, rfl, rfl, kc, Out.bind (P1 := PL n) trO o fun vs c1 ds e1 s1 k1 i1 o1 => ?_⟩
    unfold callN at o1
    split at o1
    · rename_i hl
      have z := call_ok (m := m) k1 i1 hl o1
      rw [e1] at z
      exact z
    · exact o1.not_bad
end Bv

/-! built-in functions -/
namespace Bv
open PySem PySem.Spec PyProof.Rows L2
variable {n : Nm} {W : WX} {X : Cx}
theorem OIs.lst {c : Cf} {v : V} {l : L} {ds : List D} (k : Ok n c) (h : OIs n c v l) (e : l.d = .lst ds) : ∃ a vs, v = .ref a ∧ c.H a = some (.lst vs) ∧ IsL n c.F c.φ vs ds := by
  cases l with
  | sh d =>
    have e : d = .lst ds := e
    subst e
    obtain ⟨a, vs, h1, h2, h3⟩ := is_lst h
    exact ⟨a, vs, h1, k.sub _ _ h2, h3⟩
  | ol es =>
    have e : D.lst es = .lst ds := e
    cases e
    obtain ⟨a, vs, h1, h2, _, _, h3⟩ := h
    exact ⟨a, vs, h1, h2, h3⟩
  | od kvs => cases e
  | oi b C fs => cases e
theorem OIs.plain {c : Cf} {v : V} {l : L} {d : D} (h : OIs n c v l) (e : l.d = d) (hd : ∀ ds kvs C fs, d ≠ .lst ds ∧ d ≠ .dic kvs ∧ d ≠ .inst C fs) : Is n c.F c.φ v d := by
  cases l with
  | sh d' =>
    have e : d' = d := e
    subst e; exact h
  | ol ds => exact absurd e.symm (hd ds [] "" []).1
  | od kvs => exact absurd e.symm (hd [] kvs "" []).2.1
  | oi b C fs => exact absurd e.symm (hd [] [] C fs).2.2
theorem OIs.tup {c : Cf} {v : V} {l : L} {ds : List D} (k : Ok n c) (h : OIs n c v l) (e : l.d = .tup ds) : ∃ a vs, v = .ref a ∧ SqT n.K c.H a vs ∧ IsL n c.F c.φ vs ds := by
  obtain ⟨a, vs, h1, h2, h3⟩ := is_tup (h.plain e fun _ _ _ _ => ⟨by simp, by simp, by simp⟩)
  exact ⟨a, vs, h1, k.sub.seqT h2, h3⟩
theorem OIs.int {c : Cf} {v : V} {l : L} {i : Int} (h : OIs n c v l) (e : l.d = .int i) : v = .int i := is_int (h.plain e fun _ _ _ _ => ⟨by simp, by simp, by simp⟩)
theorem OIs.bl {c : Cf} {v : V} {l : L} {i : Bool} (h : OIs n c v l) (e : l.d = .bl i) : v = .bl i := is_bl (h.plain e fun _ _ _ _ => ⟨by simp, by simp, by simp⟩)
theorem OIs.str {c : Cf} {v : V} {l : L} {i : Str} (h : OIs n c v l) (e : l.d = .str i) : v = .str i := is_str (h.plain e fun _ _ _ _ => ⟨by simp, by simp, by simp⟩)
theorem OIs.dic {c : Cf} {v : V} {l : L} {kvs : List (D × D)} (k : Ok n c) (h : OIs n c v l) (e : l.d = .dic kvs) : ∃ a, v = .ref a ∧ ((∃ vs, c.H a = some (.dK vs) ∧ IsK n c.F c.φ vs kvs) ∨ ∃ vs, c.H a = some (.dT vs) ∧ IsKT n c.F c.φ vs kvs) := by
  cases l with
  | sh d =>
    have e : d = .dic kvs := e
    subst e
    have h : Is n c.F c.φ v (.dic kvs) := h
    cases h with
    | dicK h1 t => exact ⟨_, rfl, .inl ⟨_, k.sub _ _ h1, t⟩⟩
    | dicT h1 t => exact ⟨_, rfl, .inr ⟨_, k.sub _ _ h1, t⟩⟩
  | ol es => cases e
  | od es =>
    have e : D.dic es = .dic kvs := e
    cases e
    obtain ⟨a, h1, _, _, h2⟩ := h
    exact ⟨a, h1, h2⟩
  | oi b C fs => cases e
/-- one borrowed argument -/
def CallW (n : Nm) (W : WX) (r : List V → Hp → VK → Prop) (g : L → M L) : Prop := ∀ (c : Cf) (x : V) (l : L) (Q : VK), Ok n c → OIs n c x l → Out n W (RV n) c (g l c.S) Q → r [x] c.H Q
def thM (f : M L) (g : L → M L) : M L := do let l ← f; g l
theorem ba_w {e : Expr} {f : M L} {g : L → M L} {r : List V → Hp → VK → Prop} (h : CallW n W r g) {σ : L2.St} {H : Hp} {Q : VK} (o : tO n W (thM f g) σ H Q) : tCB r (tCons (tW n W f) tNil) σ H Q := by
  obtain ⟨c, rfl, rfl, k, o⟩ := o
  exact ⟨c, rfl, rfl, k, Out.bind (P1 := PB n) trO o fun x c1 l e1 s1 k1 i1 o1 => h c1 x l Q k1 i1 o1⟩
section
variable {x : Str} {p pos : Pos} {e : Expr} {f : M L} {g : L → M L} {r : List V → Hp → VK → Prop} {id T : String}
theorem be_callB1 (hc : CallR X (.builtin id) r) (h : CallW n W r g) (hg : Gl X x) (hm : X.mg x = none) (hv : bootBuiltins x = some (.builtin id)) (ha : PE X e (tW n W f)) (hn : x ≠ "__name__") (hdb : (x == ("__debug__" : Str)) = false)
    (he : starEach (e :: []) X.env = (false, eval e X.env) :: starEach [] X.env) : PE X (.Call (.Name x p) [e] [] pos) (tO n W (thM f g)) :=
  (pe_callB hc hg hm hv (pa_cons ha pa_nil he) hn hdb he rfl).imp fun _ _ _ o => ba_w (e := e) h o
theorem be_callTy1 (hc : CallR X (.type T) r) (h : CallW n W r g) (hg : Gl X x) (hm : X.mg x = none) (hv : bootBuiltins x = some (.type T)) (ha : PE X e (tW n W f)) (hn : x ≠ "__name__") (hdb : (x == ("__debug__" : Str)) = false)
    (he : starEach (e :: []) X.env = (false, eval e X.env) :: starEach [] X.env) : PE X (.Call (.Name x p) [e] [] pos) (tO n W (thM f g)) :=
  (pe_callTy hc hg hm hv (pa_cons ha pa_nil he) hn hdb he rfl).imp fun _ _ _ o => ba_w (e := e) h o
end
/-! #### len -/
theorem IsK.length {F : Hp} {φ : List Addr} : ∀ {vs : List (Key × V)} {ds : List (D × D)}, IsK n F φ vs ds → vs.length = ds.length
  | _, _, .nil => rfl
  | _, _, .cons _ _ t => by rw [List.length_cons, List.length_cons, IsK.length t]
theorem IsKT.length {F : Hp} {φ : List Addr} : ∀ {vs : List (List Key × V)} {ds : List (D × D)}, IsKT n F φ vs ds → vs.length = ds.length
  | _, _, .one _ _ => rfl
  | _, _, .cons _ _ t => by rw [List.length_cons, List.length_cons, IsKT.length t]
theorem call_lenD : CallR X (.builtin "len") (fun xs H Q => ∃ (p : Addr) (kvs : List (Key × V)), xs = [.ref p] ∧ Rd H p (.dK kvs) ∧ Q (.int kvs.length) H) := by
  intro pins s σ H xs us Q I r h
  obtain ⟨p, kvs, rfl, e, q⟩ := h
  obtain ⟨u, rfl, rx⟩ := vals1 r
  cases rx
  exact d_len I e fun t s' I' => ⟨.int kvs.length, H, I', ⟨t, rfl⟩, q⟩
theorem call_lenA : CallR X (.builtin "len") (fun xs H Q => ((∃ p ys, xs = [.ref p] ∧ (SqL X.K H p ys ∨ SqT X.K H p ys) ∧ Q (.int ys.length) H) ∨ (∃ z, xs = [.str z] ∧ z.length ≤ sizeLine ∧ Q (.int z.length) H)) ∨ ((∃ (p : Addr) (kvs : List (Key × V)), xs = [.ref p] ∧ Rd H p (.dK kvs) ∧ Q (.int kvs.length) H) ∨ rLenT xs H Q)) := CallR.or (CallR.or call_len_seq call_len_str) (CallR.or call_lenD call_len_dT)
def lenW (l : L) : M L := match l.d with
    | .lst ds => pure (.sh (.int ds.length))
    | .tup ds => pure (.sh (.int ds.length))
    | .str x => if x.length ≤ lineN then pure (.sh (.int x.length)) else bad
    | .dic kvs => pure (.sh (.int kvs.length))
    | _ => bad
theorem calls_len : CallW n W (fun xs H Q => ((∃ p ys, xs = [.ref p] ∧ (SqL n.K H p ys ∨ SqT n.K H p ys) ∧ Q (.int ys.length) H) ∨ (∃ z, xs = [.str z] ∧ z.length ≤ sizeLine ∧ Q (.int z.length) H)) ∨ ((∃ (p : Addr) (kvs : List (Key × V)), xs = [.ref p] ∧ Rd H p (.dK kvs) ∧ Q (.int kvs.length) H) ∨ rLenT xs H Q)) lenW := fun c x l Q k i o => by
  unfold lenW at o
  cases e : l.d with
  | lst ds =>
    rw [e] at o
    obtain ⟨a, vs, rfl, h1, h2⟩ := i.lst k e
    exact .inl (.inl ⟨a, vs, rfl, .inl (.of h1), by rw [h2.length]; exact o.sh k (.int _)⟩)
  | tup ds =>
    rw [e] at o
    obtain ⟨a, vs, rfl, h1, h2⟩ := i.tup k e
    exact .inl (.inl ⟨a, vs, rfl, .inr h1, by rw [h2.length]; exact o.sh k (.int _)⟩)
  | dic kvs =>
    rw [e] at o
    obtain ⟨a, rfl, ⟨vs, h1, h2⟩ | ⟨vs, h1, h2⟩⟩ := i.dic k e
    · exact .inr (.inl ⟨a, vs, rfl, .inl h1, by rw [h2.length]; exact o.sh k (.int _)⟩)
    · exact .inr (.inr ⟨a, vs, rfl, h1, by rw [h2.length]; exact o.sh k (.int _)⟩)
  | str z =>
    rw [e] at o
    rw [i.str e]
    dsimp only at o
    split at o
    · rename_i hz
      exact .inl (.inr ⟨z, rfl, by rw [lineN_eq]; exact hz, o.sh k (.int _)⟩)
    · exact o.not_bad
  | _ => rw [e] at o; exact o.not_bad
/-! #### int, abs -/
def intW (l : L) : M L := match l.d with
  | .int i => pure (.sh (.int i))
  | .bl b => pure (.sh (.int (if b then 1 else 0)))
  | _ => bad
theorem calls_int : CallW n W (fun xs H Q => (∃ i, xs = [.int i] ∧ Q (.int i) H) ∨ ∃ k, xs = [.bl k] ∧ Q (.int (if k then 1 else 0)) H) intW := fun c x l Q k i o => by
  unfold intW at o
  cases e : l.d with
  | int j => rw [e] at o; rw [i.int e]; exact .inl ⟨_, rfl, o.sh k (.int _)⟩
  | bl b => rw [e] at o; rw [i.bl e]; exact .inr ⟨_, rfl, o.sh k (.int _)⟩
  | _ => rw [e] at o; exact o.not_bad
def absW (l : L) : M L := match l.d with
  | .int i => pure (.sh (.int (if i < 0 then -i else i)))
  | _ => bad
theorem calls_abs : CallW n W (fun xs H Q => ∃ i, xs = [.int i] ∧ Q (.int (if i < 0 then -i else i)) H) absW := fun c x l Q k i o => by
  unfold absW at o
  cases e : l.d with
  | int j => rw [e] at o; rw [i.int e]; exact ⟨_, rfl, o.sh k (.int _)⟩
  | _ => rw [e] at o; exact o.not_bad
/-! #### lists of numbers: sum, max, min, sorted; of bools: any, all -/
def intsOf : List D → Option (List Int)
  | [] => some []
  | .int i :: r => (intsOf r).map (i :: ·)
  | _ :: _ => none
theorem intsOf_some : ∀ {ds : List D} {ns : List Int}, intsOf ds = some ns → ds = ns.map D.int
  | [], _, h => by cases h; rfl
  | .int i :: r, ns, h => by
    unfold intsOf at h
    cases e : intsOf r with
    | none => rw [e] at h; cases h
    | some ms => rw [e] at h; cases h; rw [intsOf_some e]; rfl
  | .non :: _, _, h => by cases h
  | .bl _ :: _, _, h => by cases h
  | .str _ :: _, _, h => by cases h
  | .lst _ :: _, _, h => by cases h
  | .tup _ :: _, _, h => by cases h
  | .dic _ :: _, _, h => by cases h
  | .inst _ _ :: _, _, h => by cases h
  | .fn _ :: _, _, h => by cases h
  | .mref _ :: _, _, h => by cases h
  | .scr _ :: _, _, h => by cases h
theorem intsOf_map : ∀ ns : List Int, intsOf (ns.map D.int) = some ns
  | [] => rfl
  | i :: r => by show (intsOf (r.map D.int)).map (i :: ·) = _; rw [intsOf_map r]; rfl
def blsOf : List D → Option (List Bool)
  | [] => some []
  | .bl i :: r => (blsOf r).map (i :: ·)
  | _ :: _ => none
theorem blsOf_some : ∀ {ds : List D} {ns : List Bool}, blsOf ds = some ns → ds = ns.map D.bl
  | [], _, h => by cases h; rfl
  | .bl i :: r, ns, h => by
    unfold blsOf at h
    cases e : blsOf r with
    | none => rw [e] at h; cases h
    | some ms => rw [e] at h; cases h; rw [blsOf_some e]; rfl
  | .non :: _, _, h => by cases h
  | .int _ :: _, _, h => by cases h
  | .str _ :: _, _, h => by cases h
  | .lst _ :: _, _, h => by cases h
  | .tup _ :: _, _, h => by cases h
  | .dic _ :: _, _, h => by cases h
  | .inst _ _ :: _, _, h => by cases h
  | .fn _ :: _, _, h => by cases h
  | .mref _ :: _, _, h => by cases h
  | .scr _ :: _, _, h => by cases h
theorem blsOf_map : ∀ ns : List Bool, blsOf (ns.map D.bl) = some ns
  | [] => rfl
  | i :: r => by show (blsOf (r.map D.bl)).map (i :: ·) = _; rw [blsOf_map r]; rfl
theorem OIs.ints {c : Cf} {v : V} {l : L} {ds : List D} {ns : List Int} (k : Ok n c) (h : OIs n c v l) (e : l.d = .lst ds) (q : intsOf ds = some ns) : ∃ a, v = .ref a ∧ SqL n.K c.H a (ns.map V.int) := by
  obtain ⟨a, vs, rfl, h1, h2⟩ := h.lst k e
  rw [intsOf_some q] at h2
  rw [h2.ints] at h1
  exact ⟨a, rfl, .of h1⟩
theorem OIs.bls {c : Cf} {v : V} {l : L} {ds : List D} {ns : List Bool} (k : Ok n c) (h : OIs n c v l) (e : l.d = .lst ds) (q : blsOf ds = some ns) : ∃ a, v = .ref a ∧ SqL n.K c.H a (ns.map V.bl) := by
  obtain ⟨a, vs, rfl, h1, h2⟩ := h.lst k e
  rw [blsOf_some q] at h2
  rw [h2.bls] at h1
  exact ⟨a, rfl, .of h1⟩
def sumW (l : L) : M L := match l.d with
  | .lst ds => (match intsOf ds with | some ns => pure (.sh (.int ns.sum)) | none => bad)
  | _ => bad
theorem calls_sum : CallW n W (rSum n.K) sumW := fun c x l Q k i o => by
  unfold sumW at o
  cases e : l.d with
  | lst ds =>
    rw [e] at o
    dsimp only at o
    cases q : intsOf ds with
    | some ns =>
      rw [q] at o
      obtain ⟨a, rfl, h⟩ := i.ints k e q
      exact ⟨a, ns, rfl, h, o.sh k (.int _)⟩
    | none => rw [q] at o; exact o.not_bad
  | _ => rw [e] at o; exact o.not_bad
def maxI : List Int → Int
  | [] => 0
  | [x] => x
  | x :: y :: r => max x (maxI (y :: r))
def minI : List Int → Int
  | [] => 0
  | [x] => x
  | x :: y :: r => min x (minI (y :: r))
theorem maxI_mem : ∀ {ns : List Int}, ns ≠ [] → maxI ns ∈ ns
  | [], h => absurd rfl h
  | [x], _ => by simp [maxI]
  | x :: y :: r, _ => by
    have ih := maxI_mem (ns := y :: r) (by simp)
    show max x (maxI (y :: r)) ∈ _
    rcases Int.le_total x (maxI (y :: r)) with h | h
    · rw [Int.max_eq_right h]; exact List.mem_cons_of_mem _ ih
    · rw [Int.max_eq_left h]; exact List.mem_cons_self
theorem maxI_le : ∀ {ns : List Int} {z : Int}, z ∈ ns → z ≤ maxI ns
  | [x], z, h => by simp at h; subst h; exact Int.le_refl _
  | x :: y :: r, z, h => by
    show z ≤ max x (maxI (y :: r))
    rcases List.mem_cons.mp h with h | h
    · subst h; exact Int.le_max_left _ _
    · exact Int.le_trans (maxI_le h) (Int.le_max_right _ _)
theorem minI_mem : ∀ {ns : List Int}, ns ≠ [] → minI ns ∈ ns
  | [], h => absurd rfl h
  | [x], _ => by simp [minI]
  | x :: y :: r, _ => by
    have ih := minI_mem (ns := y :: r) (by simp)
    show min x (minI (y :: r)) ∈ _
    rcases Int.le_total x (minI (y :: r)) with h | h
    · rw [Int.min_eq_left h]; exact List.mem_cons_self
    · rw [Int.min_eq_right h]; exact List.mem_cons_of_mem _ ih
theorem minI_le : ∀ {ns : List Int} {z : Int}, z ∈ ns → minI ns ≤ z
  | [x], z, h => by simp at h; subst h; exact Int.le_refl _
  | x :: y :: r, z, h => by
    show min x (minI (y :: r)) ≤ z
    rcases List.mem_cons.mp h with h | h
    · subst h; exact Int.min_le_left _ _
    · exact Int.le_trans (Int.min_le_right _ _) (minI_le h)
theorem maxI_is {ns : List Int} {m : Int} (h1 : m ∈ ns) (h2 : ∀ y ∈ ns, y ≤ m) : m = maxI ns :=
  Int.le_antisymm (maxI_le h1) (h2 _ (maxI_mem fun z => by subst z; cases h1))
theorem minI_is {ns : List Int} {m : Int} (h1 : m ∈ ns) (h2 : ∀ y ∈ ns, m ≤ y) : m = minI ns :=
  Int.le_antisymm (h2 _ (minI_mem fun z => by subst z; cases h1)) (minI_le h1)
def bestW (f : List Int → Int) (l : L) : M L := match l.d with
  | .lst ds => (match intsOf ds with | some ns => if 0 < ns.length then pure (.sh (.int (f ns))) else bad | none => bad)
  | _ => bad
theorem calls_max : CallW n W (rMax n.K) (bestW maxI) := fun c x l Q k i o => by
  unfold bestW at o
  cases e : l.d with
  | lst ds =>
    rw [e] at o
    dsimp only at o
    cases q : intsOf ds with
    | some ns =>
      rw [q] at o
      dsimp only at o
      obtain ⟨a, rfl, h⟩ := i.ints k e q
      split at o
      · rename_i hz
        exact ⟨a, ns, rfl, h, hz, fun m h1 h2 => by rw [maxI_is h1 h2]; exact o.sh k (.int _)⟩
      · exact o.not_bad
    | none => rw [q] at o; exact o.not_bad
  | _ => rw [e] at o; exact o.not_bad
theorem calls_min : CallW n W (rMin n.K) (bestW minI) := fun c x l Q k i o => by
  unfold bestW at o
  cases e : l.d with
  | lst ds =>
    rw [e] at o
    dsimp only at o
    cases q : intsOf ds with
    | some ns =>
      rw [q] at o
      dsimp only at o
      obtain ⟨a, rfl, h⟩ := i.ints k e q
      split at o
      · rename_i hz
        exact ⟨a, ns, rfl, h, hz, fun m h1 h2 => by rw [minI_is h1 h2]; exact o.sh k (.int _)⟩
      · exact o.not_bad
    | none => rw [q] at o; exact o.not_bad
  | _ => rw [e] at o; exact o.not_bad
def boolsW (f : List Bool → Bool) (l : L) : M L := match l.d with
  | .lst ds => (match blsOf ds with | some ns => pure (.sh (.bl (f ns))) | none => bad)
  | _ => bad
theorem calls_any : CallW n W (rAny n.K) (boolsW fun bs => bs.any id) := fun c x l Q k i o => by
  unfold boolsW at o
  cases e : l.d with
  | lst ds =>
    rw [e] at o
    dsimp only at o
    cases q : blsOf ds with
    | some ns =>
      rw [q] at o
      obtain ⟨a, rfl, h⟩ := i.bls k e q
      exact ⟨a, ns, rfl, h, o.sh k (.bl _)⟩
    | none => rw [q] at o; exact o.not_bad
  | _ => rw [e] at o; exact o.not_bad
theorem calls_all : CallW n W (rAll n.K) (boolsW fun bs => bs.all id) := fun c x l Q k i o => by
  unfold boolsW at o
  cases e : l.d with
  | lst ds =>
    rw [e] at o
    dsimp only at o
    cases q : blsOf ds with
    | some ns =>
      rw [q] at o
      obtain ⟨a, rfl, h⟩ := i.bls k e q
      exact ⟨a, ns, rfl, h, o.sh k (.bl _)⟩
    | none => rw [q] at o; exact o.not_bad
  | _ => rw [e] at o; exact o.not_bad
def sortI (ns : List Int) : List Int := ns.mergeSort (fun a b => decide (a ≤ b))
theorem sortI_perm (ns : List Int) : (sortI ns).Perm ns := List.mergeSort_perm _ _
theorem sortI_le (ns : List Int) : (sortI ns).Pairwise (· ≤ ·) := by
  have h := List.pairwise_mergeSort (le := fun a b : Int => decide (a ≤ b)) (fun a b c h1 h2 => by simp only [decide_eq_true_eq] at *; omega) (fun a b => by
    rcases Int.le_total a b with h | h <;> simp [h]) ns
  exact h.imp fun h => by simpa using h
theorem sortI_is {ns ms : List Int} (h1 : ms.Perm ns) (h2 : ms.Pairwise (· ≤ ·)) : ms = sortI ns :=
  (h1.trans (sortI_perm ns).symm).eq_of_pairwise (fun a b _ _ h3 h4 => Int.le_antisymm h3 h4) h2 (sortI_le ns)
def sortW (l : L) : M L := match l.d with
  | .lst ds => (match intsOf ds with | some ns => pure (.ol ((sortI ns).map D.int)) | none => bad)
  | _ => bad
theorem isL_ints {F : Hp} {φ : List Addr} : ∀ ns : List Int, IsL n F φ (ns.map V.int) (ns.map D.int)
  | [] => .nil
  | i :: r => .cons (.int i) (isL_ints r)
theorem calls_sorted : CallW n W (rSortedI n.K) sortW := fun c x l Q k i o => by
  unfold sortW at o
  cases e : l.d with
  | lst ds =>
    rw [e] at o
    dsimp only at o
    cases q : intsOf ds with
    | some ns =>
      rw [q] at o
      obtain ⟨a, rfl, h⟩ := i.ints k e q
      exact ⟨a, ns, rfl, h, fun ms p h1 h2 hp => by rw [sortI_is h1 h2]; exact o.newLst k (isL_ints _) hp⟩
    | none => rw [q] at o; exact o.not_bad
  | _ => rw [e] at o; exact o.not_bad
/-! #### tuple, list -/
def tupW (l : L) : M L := match l.d with
  | .lst ds => pure (.sh (.tup ds))
  | .tup ds => pure (.sh (.tup ds))
  | _ => bad
theorem calls_tuple : CallW n W (fun xs H Q => ∃ p ys, xs = [.ref p] ∧ ((SqL n.K H p ys ∧ ∀ l, H l = none → Q (.ref l) (upd H l (.tup ys))) ∨ (SqT n.K H p ys ∧ Q (.ref p) H))) tupW := fun c x l Q k i o => by
  unfold tupW at o
  cases e : l.d with
  | lst ds =>
    rw [e] at o
    obtain ⟨a, vs, rfl, h1, h2⟩ := i.lst k e
    exact ⟨a, vs, rfl, .inl ⟨.of h1, fun p hp => o.newTup k h2 hp⟩⟩
  | tup ds =>
    rw [e] at o
    obtain ⟨a, vs, rfl, h1, h2⟩ := i.tup k e
    exact ⟨a, vs, rfl, .inr ⟨h1, o.sh k (i.plain e fun _ _ _ _ => ⟨by simp, by simp, by simp⟩)⟩⟩
  | _ => rw [e] at o; exact o.not_bad
def lstW (l : L) : M L := match l.d with
  | .lst ds => pure (.ol ds)
  | .scr ds => pure (.ol ds)
  | .tup ds => pure (.ol ds)
  | _ => bad
theorem calls_list : CallW n W (fun xs H Q => ∃ p ys, xs = [.ref p] ∧ (SqL n.K H p ys ∨ SqT n.K H p ys) ∧ ∀ l, H l = none → Q (.ref l) (upd H l (.lst ys))) lstW := fun c x l Q k i o => by
  unfold lstW at o
  cases e : l.d with
  | lst ds =>
    rw [e] at o
    obtain ⟨a, vs, rfl, h1, h2⟩ := i.lst k e
    exact ⟨a, vs, rfl, .inl (.of h1), fun p hp => o.newLst k h2 hp⟩
  | tup ds =>
    rw [e] at o
    obtain ⟨a, vs, rfl, h1, h2⟩ := i.tup k e
    exact ⟨a, vs, rfl, .inr h1, fun p hp => o.newLst k h2 hp⟩
  | scr ds =>
    rw [e] at o
    have z : Is n c.F c.φ x (.scr ds) := i.plain e fun _ _ _ _ => ⟨by simp, by simp, by simp⟩
    cases z with
    | scr h1 h2 => exact ⟨_, _, rfl, .inl (k.sub.seqL h1), fun p hp => o.newLst k h2 hp⟩
  | _ => rw [e] at o; exact o.not_bad
/-! #### max, min of two -/
def gMax2 (ds : List D) : M L := match ds with
  | [.int i, .int j] => pure (.sh (.int (if j > i then j else i)))
  | _ => bad
def gMin2 (ds : List D) : M L := match ds with
  | [.int i, .int j] => pure (.sh (.int (if j < i then j else i)))
  | _ => bad
theorem calls_max2 : CallS n W (fun xs H Q => ∃ i j, xs = [.int i, .int j] ∧ Q (.int (if j > i then j else i)) H) gMax2 := fun c vs ds Q k i o => by
  unfold gMax2 at o
  split at o
  · cases i with
    | cons h1 t =>
      cases t with
      | cons h2 t =>
        cases t
        rw [is_int h1, is_int h2]
        exact ⟨_, _, rfl, o.sh k (.int _)⟩
  · exact o.not_bad
theorem calls_min2 : CallS n W (fun xs H Q => ∃ i j, xs = [.int i, .int j] ∧ Q (.int (if j < i then j else i)) H) gMin2 := fun c vs ds Q k i o => by
  unfold gMin2 at o
  split at o
  · cases i with
    | cons h1 t =>
      cases t with
      | cons h2 t =>
        cases t
        rw [is_int h1, is_int h2]
        exact ⟨_, _, rfl, o.sh k (.int _)⟩
  · exact o.not_bad
end Bv

/-! dicts by value: what a key holds -/
namespace Bv
open PySem PySem.Spec PyProof.Rows L2
variable {n : Nm} {W : WX} {X : Cx}
def kyIs (d : D) (k : Key) : Bool := decide (keyOf d = some k)
def putQ (kvs : List (D × D)) (k : Key) (kd y : D) : List (D × D) :=
  if (kvs.any fun kv => kyIs kv.1 k) = true then kvs.map (fun kv => if kyIs kv.1 k = true then (kv.1, y) else kv) else kvs ++ [(kd, y)]
def valQ (kvs : List (D × D)) (k : Key) : Option D := (kvs.find? fun kv => kyIs kv.1 k).map (·.2)
section
variable {F : Hp} {φ : List Addr}
theorem IsK.any {k : Key} : ∀ {vs : List (Key × V)} {ds : List (D × D)}, IsK n F φ vs ds → (vs.any fun kv => decide (kv.1 = k)) = ds.any fun kv => kyIs kv.1 k
  | _, _, .nil => rfl
  | _, _, .cons (k := k') (kd := kd) hk h t => by
    rw [List.any_cons, List.any_cons, IsK.any t]
    congr 1
    show decide (k' = k) = kyIs kd k
    unfold kyIs
    rw [hk]
    by_cases e : k' = k
    · simp [e]
    · simp [e]
theorem IsK.mapP {k : Key} {v : V} {y : D} (i : Is n F φ v y) : ∀ {vs : List (Key × V)} {ds : List (D × D)}, IsK n F φ vs ds → IsK n F φ (vs.map fun kv => if kv.1 = k then (kv.1, v) else kv) (ds.map fun kv => if kyIs kv.1 k = true then (kv.1, y) else kv)
  | _, _, .nil => .nil
  | _, _, .cons (k := k') (kd := kd) hk h t => by
    rw [List.map_cons, List.map_cons]
    by_cases e : k' = k
    · have e2 : kyIs kd k = true := by unfold kyIs; rw [hk, e]; simp
      rw [if_pos e, if_pos e2]
      exact .cons hk i (IsK.mapP i t)
    · have e2 : ¬ kyIs kd k = true := by unfold kyIs; rw [hk]; simp [e]
      rw [if_neg e, if_neg e2]
      exact .cons hk h (IsK.mapP i t)
theorem IsK.app {k : Key} {v : V} {kd y : D} (hk : keyOf kd = some k) (i : Is n F φ v y) : ∀ {vs : List (Key × V)} {ds : List (D × D)}, IsK n F φ vs ds → IsK n F φ (vs ++ [(k, v)]) (ds ++ [(kd, y)])
  | _, _, .nil => .cons hk i .nil
  | _, _, .cons hk' h t => .cons hk' h (IsK.app hk i t)
theorem IsK.put {k : Key} {v : V} {kd y : D} {vs : List (Key × V)} {ds : List (D × D)} (hk : keyOf kd = some k) (i : Is n F φ v y) (h : IsK n F φ vs ds) : IsK n F φ (putK vs k v) (putQ ds k kd y) := by
  unfold putK putQ
  rw [h.any]
  split
  · exact h.mapP i
  · exact h.app hk i
theorem IsK.val {k : Key} : ∀ {vs : List (Key × V)} {ds : List (D × D)}, IsK n F φ vs ds → (valQ ds k = none ∧ valV vs k = none) ∨ ∃ v d, valQ ds k = some d ∧ valV vs k = some v ∧ Is n F φ v d
  | _, _, .nil => .inl ⟨rfl, rfl⟩
  | _, _, .cons (k := k') (v := v') (kd := kd) (d := d') hk h t => by
    by_cases e : k' = k
    · have e2 : kyIs kd k = true := by unfold kyIs; rw [hk, e]; simp
      refine .inr ⟨v', d', ?_, valV_pos e, h⟩
      unfold valQ
      rw [List.find?_cons, e2]
      rfl
    · have e2 : kyIs kd k = false := by unfold kyIs; rw [hk]; simp [e]
      rw [valV_neg e]
      unfold valQ
      rw [List.find?_cons, e2]
      exact IsK.val t
end
theorem key_is {F : Hp} {φ : List Addr} {x : V} {d : D} {k : Key} (h : Is n F φ x d) (e : keyOf d = some k) : x = kV k := by
  unfold keyOf at e
  split at e
  · cases e; rw [is_int h]; rfl
  · cases e; rw [is_str h]; rfl
  · cases e
/-- no tuple among the keys -/
def plainK (kvs : List (D × D)) : Bool := kvs.all fun kv => (keyOf kv.1).isSome
theorem plainK_T {F : Hp} {φ : List Addr} {vs : List (List Key × V)} {ds : List (D × D)} (h : IsKT n F φ vs ds) : plainK ds = false := by
  have key : ∀ {kd : D} {k : List Key}, tkeyOf kd = some k → (keyOf kd).isSome = false := fun {kd k} e => by
    cases kd <;> first | rfl | cases e
  cases h with
  | one hk h => unfold plainK; rw [List.all_cons, key hk]; rfl
  | cons hk h t => unfold plainK; rw [List.all_cons, key hk]; rfl
/-! ### keys that are tuples -/
def tkIs (d : D) (k : List Key) : Bool := decide (tkeyOf d = some k)
def putT (kvs : List (D × D)) (k : List Key) (kd y : D) : List (D × D) :=
  if (kvs.any fun kv => tkIs kv.1 k) = true then kvs.map (fun kv => if tkIs kv.1 k = true then (kv.1, y) else kv) else kvs ++ [(kd, y)]
def valT (kvs : List (D × D)) (k : List Key) : Option D := (kvs.find? fun kv => tkIs kv.1 k).map (·.2)
/-- tuples alone among the keys -/
def tupK (kvs : List (D × D)) : Bool := kvs.all fun kv => (tkeyOf kv.1).isSome
section
variable {F : Hp} {φ : List Addr}
theorem tkeyOf_key {kd : D} {k : Key} (h : keyOf kd = some k) : tkeyOf kd = none := by
  cases kd <;> first | rfl | cases h
theorem tupK_K {vs : List (Key × V)} {ds : List (D × D)} (h : IsK n F φ vs ds) (e : tupK ds = true) : ds = [] := by
  cases h with
  | nil => rfl
  | cons hk h t => unfold tupK at e; rw [List.all_cons, tkeyOf_key hk] at e; cases e
theorem IsKT.any {k : List Key} : ∀ {vs : List (List Key × V)} {ds : List (D × D)}, IsKT n F φ vs ds → (vs.any fun kv => decide (kv.1 = k)) = ds.any fun kv => tkIs kv.1 k
  | _, _, .one (k := k') (kd := kd) hk h => by
    rw [List.any_cons, List.any_cons]
    congr 1
    show decide (k' = k) = tkIs kd k
    unfold tkIs
    rw [hk]
    by_cases e : k' = k
    · simp [e]
    · simp [e]
  | _, _, .cons (k := k') (kd := kd) hk h t => by
    rw [List.any_cons, List.any_cons, IsKT.any t]
    congr 1
    show decide (k' = k) = tkIs kd k
    unfold tkIs
    rw [hk]
    by_cases e : k' = k
    · simp [e]
    · simp [e]
theorem IsKT.cns {k : List Key} {v : V} {kd d : D} (hk : tkeyOf kd = some k) (h : Is n F φ v d) {vs : List (List Key × V)} {ds : List (D × D)} (t : (vs = [] ∧ ds = []) ∨ IsKT n F φ vs ds) : IsKT n F φ ((k, v) :: vs) ((kd, d) :: ds) := by
  rcases t with ⟨rfl, rfl⟩ | t
  · exact .one hk h
  · exact .cons hk h t
theorem IsKT.cut : ∀ {vs : List (List Key × V)} {ds : List (D × D)}, IsKT n F φ vs ds → ∃ k v kd d vs' ds', vs = (k, v) :: vs' ∧ ds = (kd, d) :: ds' ∧ tkeyOf kd = some k ∧ Is n F φ v d ∧ ((vs' = [] ∧ ds' = []) ∨ IsKT n F φ vs' ds')
  | _, _, .one hk h => ⟨_, _, _, _, _, _, rfl, rfl, hk, h, .inl ⟨rfl, rfl⟩⟩
  | _, _, .cons hk h t => ⟨_, _, _, _, _, _, rfl, rfl, hk, h, .inr t⟩
theorem IsKT.mapP {k : List Key} {v : V} {y : D} (i : Is n F φ v y) : ∀ {vs : List (List Key × V)} {ds : List (D × D)}, IsKT n F φ vs ds → IsKT n F φ (vs.map fun kv => if kv.1 = k then (kv.1, v) else kv) (ds.map fun kv => if tkIs kv.1 k = true then (kv.1, y) else kv)
  | _, _, .one (k := k') (kd := kd) hk h => by
    rw [List.map_cons, List.map_cons, List.map_nil, List.map_nil]
    by_cases e : k' = k
    · have e2 : tkIs kd k = true := by unfold tkIs; rw [hk, e]; simp
      rw [if_pos e, if_pos e2]
      exact .one hk i
    · have e2 : ¬ tkIs kd k = true := by unfold tkIs; rw [hk]; simp [e]
      rw [if_neg e, if_neg e2]
      exact .one hk h
  | _, _, .cons (k := k') (kd := kd) hk h t => by
    rw [List.map_cons, List.map_cons]
    by_cases e : k' = k
    · have e2 : tkIs kd k = true := by unfold tkIs; rw [hk, e]; simp
      rw [if_pos e, if_pos e2]
      exact .cons hk i (IsKT.mapP i t)
    · have e2 : ¬ tkIs kd k = true := by unfold tkIs; rw [hk]; simp [e]
      rw [if_neg e, if_neg e2]
      exact .cons hk h (IsKT.mapP i t)
theorem IsKT.app {k : List Key} {v : V} {kd y : D} (hk : tkeyOf kd = some k) (i : Is n F φ v y) : ∀ {vs : List (List Key × V)} {ds : List (D × D)}, IsKT n F φ vs ds → IsKT n F φ (vs ++ [(k, v)]) (ds ++ [(kd, y)])
  | _, _, .one hk' h => .cons hk' h (.one hk i)
  | _, _, .cons hk' h t => .cons hk' h (IsKT.app hk i t)
theorem IsKT.put {k : List Key} {v : V} {kd y : D} {vs : List (List Key × V)} {ds : List (D × D)} (hk : tkeyOf kd = some k) (i : Is n F φ v y) (h : IsKT n F φ vs ds) : IsKT n F φ (putK vs k v) (putT ds k kd y) := by
  unfold putK putT
  rw [h.any]
  split
  · exact h.mapP i
  · exact h.app hk i
theorem IsKT.val {k : List Key} : ∀ {vs : List (List Key × V)} {ds : List (D × D)}, IsKT n F φ vs ds → (valT ds k = none ∧ valV vs k = none) ∨ ∃ v d, valT ds k = some d ∧ valV vs k = some v ∧ Is n F φ v d
  | _, _, .one (k := k') (v := v') (kd := kd) (d := d') hk h => by
    by_cases e : k' = k
    · have e2 : tkIs kd k = true := by unfold tkIs; rw [hk, e]; simp
      refine .inr ⟨v', d', ?_, valV_pos e, h⟩
      unfold valT
      rw [List.find?_cons, e2]
      rfl
    · have e2 : tkIs kd k = false := by unfold tkIs; rw [hk]; simp [e]
      rw [valV_neg e]
      unfold valT
      rw [List.find?_cons, e2]
      exact .inl ⟨rfl, rfl⟩
  | _, _, .cons (k := k') (v := v') (kd := kd) (d := d') hk h t => by
    by_cases e : k' = k
    · have e2 : tkIs kd k = true := by unfold tkIs; rw [hk, e]; simp
      refine .inr ⟨v', d', ?_, valV_pos e, h⟩
      unfold valT
      rw [List.find?_cons, e2]
      rfl
    · have e2 : tkIs kd k = false := by unfold tkIs; rw [hk]; simp [e]
      rw [valV_neg e]
      unfold valT
      rw [List.find?_cons, e2]
      exact IsKT.val t
/-- the plain items of a tuple that is a key -/
theorem keys_is : ∀ {vs : List V} {ds : List D} {ks : List Key}, IsL n F φ vs ds → keysOf ds = some ks → vs = ks.map kV
  | _, _, _, .nil, e => by cases e; rfl
  | _, d :: ds, ks, .cons h t, e => by
    unfold keysOf at e
    cases q1 : keyOf d with
    | none => rw [q1] at e; cases e
    | some k =>
      cases q2 : keysOf ds with
      | none => rw [q1, q2] at e; cases e
      | some ks' =>
        rw [q1, q2] at e
        cases e
        rw [List.map_cons, key_is h q1, keys_is t q2]
theorem tkey_is {x : V} {d : D} {k : List Key} (h : Is n F φ x d) (e : tkeyOf d = some k) : ∃ a, x = .ref a ∧ F a = some (.tup (k.map kV)) := by
  cases d with
  | tup ds =>
    obtain ⟨a, vs, rfl, h1, h2⟩ := is_tupF h
    exact ⟨a, rfl, by rw [h1, keys_is h2 e]⟩
  | _ => cases e
end
/-- what is held at a key -/
def atD (kvs : List (D × D)) (d : D) : Option (Option D) := match keyOf d with
  | some k => if plainK kvs then some (valQ kvs k) else none
  | none => match tkeyOf d with
    | some k => if tupK kvs && !kvs.isEmpty then some (valT kvs k) else none
    | none => none
/-- a dict at x by value: what DGet tells -/
theorem atD_get {c : Cf} {a : Addr} {y : V} {kvs : List (D × D)} {d : D} {r : Option D} (k : Ok n c) (hd : (∃ vs, Rd c.H a (.dK vs) ∧ IsK n c.F c.φ vs kvs) ∨ ∃ vs, Rd c.H a (.dT vs) ∧ IsKT n c.F c.φ vs kvs) (j : Is n c.F c.φ y d) (e : atD kvs d = some r) :
    ∃ o, DGet c.H a y o ∧ o.isSome = r.isSome ∧ ∀ u, r = some u → ∃ v, o = some v ∧ Is n c.F c.φ v u := by
  unfold atD at e
  split at e
  · rename_i key hk
    split at e
    · rename_i hp
      cases e
      rcases hd with ⟨vs, h, t⟩ | ⟨vs, h, t⟩
      · refine ⟨_, .inl ⟨_, key, h, key_is j hk, rfl⟩, ?_⟩
        rcases t.val (k := key) with ⟨z1, z2⟩ | ⟨v, d', z1, z2, z3⟩
        · rw [z1, z2]; exact ⟨rfl, fun u z => by cases z⟩
        · rw [z1, z2]; exact ⟨rfl, fun u z => by cases z; exact ⟨v, rfl, z3⟩⟩
      · rw [plainK_T t] at hp; cases hp
    · cases e
  · split at e
    · rename_i key hk
      split at e
      · rename_i hp
        cases e
        rw [Bool.and_eq_true] at hp
        rcases hd with ⟨vs, h, t⟩ | ⟨vs, h, t⟩
        · rw [tupK_K t hp.1] at hp; cases hp.2
        · obtain ⟨b, rfl, hb⟩ := tkey_is j hk
          refine ⟨_, .inr ⟨_, key, b, h, rfl, k.sub _ _ hb, rfl⟩, ?_⟩
          rcases t.val (k := key) with ⟨z1, z2⟩ | ⟨v, d', z1, z2, z3⟩
          · rw [z1, z2]; exact ⟨rfl, fun u z => by cases z⟩
          · rw [z1, z2]; exact ⟨rfl, fun u z => by cases z; exact ⟨v, rfl, z3⟩⟩
      · cases e
    · cases e
theorem OIs.dicR {c : Cf} {v : V} {l : L} {kvs : List (D × D)} (k : Ok n c) (h : OIs n c v l) (e : l.d = .dic kvs) : ∃ a, v = .ref a ∧ ((∃ vs, Rd c.H a (.dK vs) ∧ IsK n c.F c.φ vs kvs) ∨ ∃ vs, Rd c.H a (.dT vs) ∧ IsKT n c.F c.φ vs kvs) := by
  obtain ⟨a, rfl, ⟨vs, h1, h2⟩ | ⟨vs, h1, h2⟩⟩ := h.dic k e
  · exact ⟨a, rfl, .inl ⟨vs, .inl h1, h2⟩⟩
  · exact ⟨a, rfl, .inr ⟨vs, .inl h1, h2⟩⟩
def rDG : R2 := fun x y H Q => ∃ a v, x = .ref a ∧ DGet H a y (some v) ∧ Q v H
theorem ix_dict (hu : X.A.units + 1 < cLine) : IxR X rDG := by
  intro value slice pins s σ H x y v u Q I rx ry h hs
  obtain ⟨a, z, rfl, g, q⟩ := h
  obtain rfl : v = Value.ref a := rx
  exact tail_any (dict_typeIs I g) PySem.F.slot_dict_getitem.lookup (d_getItem hu I g ry fun w' s3 I3 rw' => ⟨z, H, I3, rw', q⟩) hs
end Bv

/-! places, slices, fields, tests -/
namespace Bv
open PySem PySem.Spec PyProof.Rows L2
variable {n : Nm} {W : WX} {X : Cx}
/-! ### places -/
theorem atI_is {F : Hp} {φ : List Addr} {vs : List V} {ds : List D} {i : Int} {d : D} (h : IsL n F φ vs ds) (e : atI ds i = some d) : ∃ v, atI vs i = some v ∧ Is n F φ v d := by
  unfold atI at e ⊢
  rw [h.length]
  cases q : ixN ds.length i with
  | none => rw [q] at e; cases e
  | some j =>
    rw [q] at e
    exact h.get e
def ixW (l : L) (e : D) : M L := match l.d, e with
  | .lst ds, .int i => (match atI ds i with | some d => pure (.sh d) | none => bad)
  | .tup ds, .int i => (match atI ds i with | some d => pure (.sh d) | none => bad)
  | .str z, .int i => if z.length ≤ lineN then (match atI z.cps.toList i with | some c => pure (.sh (.str ⟨#[c]⟩)) | none => bad) else bad
  | .dic kvs, e => (match atD kvs e with | some (some d) => pure (.sh d) | _ => bad)
  | _, _ => bad
theorem ix_ok {c : Cf} {x y : V} {l : L} {e : D} {Q : VK} (k : Ok n c) (i : OIs n c x l) (j : Is n c.F c.φ y e) (o : Out n W (RV n) c (ixW l e c.S) Q) : rIx n.K x y c.H Q ∨ rDG x y c.H Q := by
  unfold ixW at o
  cases q : l.d with
  | dic kvs =>
    rw [q] at o
    obtain ⟨a, rfl, hd⟩ := i.dicR k q
    have o : Out n W (RV n) c ((match atD kvs e with | some (some d) => (pure (.sh d) : M L) | _ => bad) c.S) Q := by cases e <;> exact o
    cases hd2 : atD kvs e with
    | none => rw [hd2] at o; exact o.not_bad
    | some od =>
      cases od with
      | none => rw [hd2] at o; exact o.not_bad
      | some d =>
        rw [hd2] at o
        obtain ⟨ov, g, _, g3⟩ := atD_get k hd j hd2
        obtain ⟨v, rfl, iv⟩ := g3 d rfl
        exact .inr ⟨a, v, rfl, g, o.sh k iv⟩
  | lst ds =>
    rw [q] at o
    cases e with
    | int z =>
      dsimp only at o
      obtain ⟨a, vs, rfl, h1, h2⟩ := i.lst k q
      cases q2 : atI ds z with
      | some d =>
        rw [q2] at o
        obtain ⟨v, h3, h4⟩ := atI_is h2 q2
        exact .inl (.inl ⟨a, vs, z, v, rfl, is_int j, .of h1, h3, o.sh k h4⟩)
      | none => rw [q2] at o; exact o.not_bad
    | _ => exact o.not_bad
  | tup ds =>
    rw [q] at o
    cases e with
    | int z =>
      dsimp only at o
      obtain ⟨a, vs, rfl, h1, h2⟩ := i.tup k q
      cases q2 : atI ds z with
      | some d =>
        rw [q2] at o
        obtain ⟨v, h3, h4⟩ := atI_is h2 q2
        exact .inl (.inr (.inl ⟨a, vs, z, v, rfl, is_int j, h1, h3, o.sh k h4⟩))
      | none => rw [q2] at o; exact o.not_bad
    | _ => exact o.not_bad
  | str u =>
    rw [q] at o
    cases e with
    | int z =>
      dsimp only at o
      split at o
      · rename_i hz
        cases q2 : atI u.cps.toList z with
        | some d =>
          rw [q2] at o
          exact .inl (.inr (.inr ⟨u, z, d, i.str q, is_int j, by rw [lineN_eq]; exact hz, q2, o.sh k (.str _)⟩))
        | none => rw [q2] at o; exact o.not_bad
      · exact o.not_bad
    | _ => exact o.not_bad
  | _ => rw [q] at o; exact o.not_bad
section
variable {a b : Expr} {fa fb : M D} {pos : Pos} {x : Str} {p : Pos} {i : Nat}
def ixM (fa fb : M D) : M L := do let d ← fa; let e ← fb; ixW (.sh d) e
theorem be_ix (hu : X.A.units + 65 < cLine) (ha : PE X a (tX n W fa)) (hb : PE X b (tX n W fb)) (hs : PlainIx b) (hK : X.K = n.K) : PE X (.Subscript a b pos) (tO n W (ixM fa fb)) := (pe_ix (ix_seq.or (ix_dict (by omega))) ha hb hs).imp fun σ H Q ⟨c, e1, e2, k, o⟩ => by
  subst e1 e2
  refine ⟨c, rfl, rfl, k, Out.bind (P1 := PX n) trO o fun x c1 d e1 s1 k1 i1 o1 => ?_⟩
  refine ⟨c1, e1, rfl, k1, Out.bind (P1 := PX n) trO o1 fun y c2 e e2 s2 k2 i2 o2 => ?_⟩
  rw [hK]
  exact ix_ok k2 (OIs.sh (s2.is i1)) i2 o2
/-- a name's place: the name is only read -/
def ixNM (i : Nat) (fb : M D) : M L := do let _ ← slN i; let e ← fb; let l ← slN i; ixW l e
theorem slN_some {c : Cf} {i : Nat} {α : Type} {k : L → M α} {γ : Type} {P : Cf → Cf → γ → α → Prop} {Q : γ → Hp → Prop} (o : Out n W P c ((slN i >>= k) c.S) Q) (ok : Ok n c) : ∃ l v, c.S.sl[i]? = some (some l) ∧ c.σ[i]? = some (some v) ∧ OIs n c v l ∧ Out n W P c (k l c.S) Q := by
  have o : Out n W P c (M.bind (slN i) k c.S) Q := o
  unfold M.bind slN at o
  cases e : c.S.sl[i]? with
  | none => rw [e] at o; exact o.not_bad
  | some y =>
    cases y with
    | none => rw [e] at o; exact o.not_bad
    | some l =>
      rw [e] at o
      obtain ⟨v, h1, h2⟩ := ok.sl i l e
      exact ⟨l, v, rfl, h1, h2, o⟩
theorem be_ixN (hu : X.A.units + 65 < cLine) (hN : X.N[i]? = some x) (hv : Vis X.env.scope x) (hd : (x == ("__debug__" : Str)) = false) (hcd : (x == ("__classdict__" : Str)) = false) (hb : PE X b (tX n W fb)) (hs : PlainIx b) (hK : X.K = n.K) : PE X (.Subscript (.Name x p) b pos) (tO n W (ixNM i fb)) :=
  (pe_ix (ix_seq.or (ix_dict (by omega))) (pe_var hN hv hd hcd) hb hs).imp fun σ H Q ⟨c, e1, e2, k, o⟩ => by
    subst e1 e2
    obtain ⟨l, v, h1, h2, h3, o⟩ := slN_some o k
    refine ⟨v, h2, c, rfl, rfl, k, Out.bind (P1 := PX n) trO o fun y c1 e e1 s1 k1 i1 o1 => ?_⟩
    obtain ⟨l', v', h4, h5, h6, o2⟩ := slN_some o1 k1
    rw [e1, h2] at h5
    cases h5
    rw [hK]
    exact ix_ok k1 h6 i1 o2
end
/-! ### slices -/
def tP (n : Nm) (W : WX) (f : M (Option Int)) : TO := fun σ H Q => ∃ c : Cf, c.σ = σ ∧ c.H = H ∧ Ok n c ∧ Out n W (fun _ _ v b => v = b) c (f c.S) Q
def noP : M (Option Int) := pure none
def soP (f : M D) : M (Option Int) := do
  let d ← f
  match d with
  | .int i => pure (some i)
  | _ => bad
theorem bp_none : PO X none (tP n W noP) := ⟨fun pins s σ H Q I ⟨c, e1, e2, k, o⟩ => by
  subst e1 e2
  exact po_none.run pins s c.σ c.H Q I (show Q none c.H from o none c rfl rfl (Stp.refl c) k rfl)⟩
theorem bp_some {e : Expr} {f : M D} (h : PE X e (tX n W f)) : PO X (some e) (tP n W (soP f)) := ⟨fun pins s σ H Q I ⟨c, e1, e2, k, o⟩ => by
  subst e1 e2
  refine (po_some h).run pins s c.σ c.H Q I ?_
  refine ⟨c, rfl, rfl, k, Out.bind (P1 := PX n) trT o fun x c1 d e1 s1 k1 i1 o1 => ?_⟩
  cases d with
  | int i => exact ⟨i, is_int i1, o1.fin k1 rfl⟩
  | _ => exact o1.not_bad⟩
def cutD (xs : List D) (lo hi : Option Int) : List D := (xs.drop (HT.sIx xs.length 0 lo)).take (HT.sIx xs.length xs.length hi - HT.sIx xs.length 0 lo)
theorem IsL.cut {F : Hp} {φ : List Addr} {vs : List V} {ds : List D} (h : IsL n F φ vs ds) (lo hi : Option Int) : IsL n F φ (cutV vs lo hi) (cutD ds lo hi) := by
  unfold cutV cutD
  rw [h.length]
  exact (h.drop _).take _
def slW (l : L) (lo hi : Option Int) : M L := match l.d with
  | .lst ds => pure (.ol (cutD ds lo hi))
  | .tup ds => pure (.sh (.tup (cutD ds lo hi)))
  | _ => bad
def rSlA2 (K : PySem.W.Frag) : V → Option Int → Option Int → Hp → VK → Prop := fun x lo hi H Q => rSlL K x lo hi H Q ∨ rSlA K x lo hi H Q
theorem cutD_whole {xs : List D} {lo hi : Option Int} (h : HT.sIx xs.length 0 lo = 0 ∧ HT.sIx xs.length xs.length hi = xs.length) : cutD xs lo hi = xs := by
  unfold cutD
  rw [h.1, h.2]
  simp
theorem sl_ok {c : Cf} {x : V} {l : L} {lo hi : Option Int} {Q : VK} (k : Ok n c) (i : OIs n c x l) (o : Out n W (RV n) c (slW l lo hi c.S) Q) : rSlA2 n.K x lo hi c.H Q := by
  unfold slW at o
  cases q : l.d with
  | lst ds =>
    rw [q] at o
    obtain ⟨a, vs, rfl, h1, h2⟩ := i.lst k q
    exact .inl ⟨a, vs, rfl, .of h1, fun p hp => o.newLst k (h2.cut lo hi) hp⟩
  | tup ds =>
    rw [q] at o
    obtain ⟨a, vs, rfl, h1, h2⟩ := i.tup k q
    refine .inr ⟨a, vs, rfl, h1, fun z => ?_, fun _ p hp => o.newTup k (h2.cut lo hi) hp⟩
    rw [h2.length] at z
    have o : Out n W (RV n) c (.ok (.sh (.tup (cutD ds lo hi))) c.S) Q := o
    rw [cutD_whole z] at o
    exact o.sh k (i.plain q fun _ _ _ _ => ⟨by simp, by simp, by simp⟩)
  | _ => rw [q] at o; exact o.not_bad
section
variable {a : Expr} {lo hi : Option Expr} {fa : M D} {fl fh : M (Option Int)} {pos p2 : Pos} {x : Str} {p : Pos} {i : Nat}
def slM (fa : M D) (fl fh : M (Option Int)) : M L := do let d ← fa; let l ← fl; let h ← fh; slW (.sh d) l h
theorem be_sl (ha : PE X a (tX n W fa)) (hl : PO X lo (tP n W fl)) (hh : PO X hi (tP n W fh)) (hK : X.K = n.K) : PE X (.Subscript a (.Slice lo hi none p2) pos) (tO n W (slM fa fl fh)) :=
  (pe_slice (SlR.or sl_list sl_tupA) ha hl hh).imp fun σ H Q ⟨c, e1, e2, k, o⟩ => by
    subst e1 e2
    refine ⟨c, rfl, rfl, k, Out.bind (P1 := PX n) trO o fun x c1 d e1 s1 k1 i1 o1 => ?_⟩
    refine ⟨c1, e1, rfl, k1, Out.bind (P1 := fun _ _ v b => v = b) trO o1 fun y c2 e e2 s2 k2 i2 o2 => ?_⟩
    refine ⟨c2, e2.trans e1, rfl, k2, Out.bind (P1 := fun _ _ v b => v = b) trO o2 fun z c3 f e3 s3 k3 i3 o3 => ?_⟩
    subst i2 i3
    rw [hK]
    exact sl_ok k3 (OIs.sh (s3.is (s2.is i1))) o3
def slNM (i : Nat) (fl fh : M (Option Int)) : M L := do let _ ← slN i; let l ← fl; let h ← fh; let x ← slN i; slW x l h
theorem be_slN (hN : X.N[i]? = some x) (hv : Vis X.env.scope x) (hd : (x == ("__debug__" : Str)) = false) (hcd : (x == ("__classdict__" : Str)) = false) (hl : PO X lo (tP n W fl)) (hh : PO X hi (tP n W fh)) (hK : X.K = n.K) : PE X (.Subscript (.Name x p) (.Slice lo hi none p2) pos) (tO n W (slNM i fl fh)) :=
  (pe_slice (SlR.or sl_list sl_tupA) (pe_var hN hv hd hcd) hl hh).imp fun σ H Q ⟨c, e1, e2, k, o⟩ => by
    subst e1 e2
    obtain ⟨l, v, h1, h2, h3, o⟩ := slN_some o k
    refine ⟨v, h2, c, rfl, rfl, k, Out.bind (P1 := fun _ _ v b => v = b) trO o fun y c2 e e2 s2 k2 i2 o2 => ?_⟩
    refine ⟨c2, e2, rfl, k2, Out.bind (P1 := fun _ _ v b => v = b) trO o2 fun z c3 f e3 s3 k3 i3 o3 => ?_⟩
    subst i2 i3
    obtain ⟨l', v', h4, h5, h6, o4⟩ := slN_some o3 k3
    rw [e3, e2, h2] at h5
    cases h5
    rw [hK]
    exact sl_ok k3 h6 o4
end
/-! ### fields -/
/-- what is known of a class: its instances' fields are read and stored plainly -/
structure ClsI (K : PySem.W.Frag) (C : Addr) : Prop where
  cl : Cls K C
  ha : PySem.W.findIn K (.ref C) "__class__" = some (some (.builtin "object.__class__"))
  hn : PySem.W.specialIn K (.builtin "object.__class__") "__get__" = some (some (.builtin "getset_descriptor.__get__"))
  htk : PySem.W.takesIn K (.builtin "object.__class__") = some true
  hm : PySem.W.mroIn K C (.type "object") = some true
def fldW (f : Str) (l : L) : M L := match l with
  | .sh (.inst _ fs) => (match fs.lookup f with | some d => pure (.sh d) | none => bad)
  | .oi _ _ fs => (match fs.lookup f with | some d => pure (.sh d) | none => bad)
  | _ => bad
/-- the classes have no attribute of their own of these names -/
def NoAt (n : Nm) (f : Str) : Prop := ∀ x C, n.cA x = some C → ClsI n.K C ∧ NoAttr n.K C f
theorem fld_ok {c : Cf} {x : V} {l : L} {f : Str} {Q : VK} (hf : NoAt n f) (k : Ok n c) (i : OIs n c x l) (o : Out n W (RV n) c (fldW f l c.S) Q) : ∃ a C dx fs v, x = .ref a ∧ c.H a = some (.ins C dx fs) ∧ Cls n.K C ∧ NoAttr n.K C f ∧ fs.lookup f = some v ∧ Q v c.H := by
  cases l with
  | sh d =>
    cases d with
    | inst y fs =>
      have o : Out n W (RV n) c ((match fs.lookup f with | some d => (pure (.sh d) : M L) | none => bad) c.S) Q := o
      have i : Is n c.F c.φ x (.inst y fs) := i
      cases q : fs.lookup f with
      | some d =>
        rw [q] at o
        cases i with
        | inst hC hF t =>
          obtain ⟨v, h1, h2⟩ := t.look q
          exact ⟨_, _, _, _, v, rfl, k.sub _ _ hF, (hf _ _ hC).1.cl, (hf _ _ hC).2, h1, o.sh k h2⟩
      | none => rw [q] at o; exact o.not_bad
    | _ => exact Out.not_bad (n := n) (W := W) (P := RV n) (c := c) (Q := Q) o
  | oi b y fs =>
    have o : Out n W (RV n) c ((match fs.lookup f with | some d => (pure (.sh d) : M L) | none => bad) c.S) Q := o
    cases q : fs.lookup f with
    | some d =>
      rw [q] at o
      obtain ⟨a, C, dx, vs, rfl, _, hC, h1, _, _, t⟩ := i
      obtain ⟨v, h2, h3⟩ := t.look q
      exact ⟨_, _, _, _, v, rfl, h1, (hf _ _ hC).1.cl, (hf _ _ hC).2, h2, o.sh k h3⟩
    | none => rw [q] at o; exact o.not_bad
  | ol ds => exact Out.not_bad (n := n) (W := W) (P := RV n) (c := c) (Q := Q) o
  | od ds => exact Out.not_bad (n := n) (W := W) (P := RV n) (c := c) (Q := Q) o
theorem be_fld {e : Expr} {f : Str} {g : M L} {pos : Pos} (he : PE X e (tW n W g)) (hb : attributeBase e f X.env (eval e X.env) = eval e X.env) (hf : NoAt n f) (hK : X.K = n.K) : PE X (.Attribute e f pos) (tO n W (thM g (fldW f))) :=
  (pe_fld he hb).imp fun σ H Q ⟨c, e1, e2, k, o⟩ => by
    subst e1 e2
    refine ⟨c, rfl, rfl, k, Out.bind (P1 := PB n) trO o fun x c1 l e1 s1 k1 i1 o1 => ?_⟩
    rw [hK]
    exact fld_ok hf k1 i1 o1
/-! ### tests -/
section
variable {a b : Expr} {rest : List Expr} {pos : Pos}
def cmpT (fa fb : M D) (g : D → D → M L) : M Bool := bin2 fa fb g >>= fun x => match x with | .sh (.bl b) => (pure b : M Bool) | _ => bad
theorem Out.isBl {c : Cf} {m : M L} {Q : Bool → Hp → Prop} (o : Out n W (fun _ _ v b => v = b) c ((m >>= fun x => match x with | .sh (.bl b) => (pure b : M Bool) | _ => bad) c.S) Q) :
    Out n W (RV n) c (m c.S) (fun v H' => ∃ k, v = .bl k ∧ Q k H') :=
  Out.bind (P1 := RV n) trT o fun v c1 x e1 s1 k1 r1 o1 => by
    cases x with
    | sh d =>
      cases d with
      | bl b => exact ⟨b, is_bl r1.is, o1.fin k1 rfl⟩
      | _ => exact o1.not_bad
    | _ => exact o1.not_bad
theorem bt_cmp {op : CmpOp} {r : R2} {g : D → D → M L} {fa fb : M D} (ho : OpR X (compareOp op) r) (h : OpS n W r g) (ha : PE X a (tX n W fa)) (hb : PE X b (tX n W fb)) (hm : behindInMarks op b = false) : PT X (.Compare a [op] [b] pos) (tT n W (cmpT fa fb g)) :=
  (pt_cmpR ho ha hb hm).imp fun σ H Q ⟨c, e1, e2, k, o⟩ => be_tOp h (fa := fa) (fb := fb) ⟨c, e1, e2, k, Out.isBl o⟩
def truD : L → Option Bool := fun l => match l.d with
  | .non => some false
  | .bl b => some b
  | .int i => some (i != 0)
  | .str y => if y.length ≤ lineN then some ((y.length : Int) != 0) else none
  | .lst ds => some (!ds.isEmpty)
  | .tup ds => some (!ds.isEmpty)
  | _ => none
def truT (f : M L) : M Bool := do
  let x ← f
  match truD x with
  | some b => pure b
  | none => bad
theorem isEmpty_is {F : Hp} {φ : List Addr} {vs : List V} {ds : List D} (h : IsL n F φ vs ds) : (!vs.isEmpty) = !ds.isEmpty := by
  cases h <;> rfl
theorem truD_ok {c1 : Cf} {v : V} {l : L} {b : Bool} (k1 : Ok n c1) (i1 : OIs n c1 v l) (q : truD l = some b) : TruV n.K v c1.H b := by
  unfold truD at q
  cases e : l.d with
  | non => rw [e] at q; cases q; cases i1.plain e (fun _ _ _ _ => ⟨by simp, by simp, by simp⟩); rfl
  | bl z => rw [e] at q; cases q; rw [i1.bl e]; rfl
  | int z => rw [e] at q; cases q; rw [i1.int e]; rfl
  | str z =>
    rw [e] at q
    dsimp only at q
    split at q
    · rename_i hz
      cases q; rw [i1.str e]; exact ⟨by rw [lineN_eq]; exact hz, rfl⟩
    · cases q
  | lst ds =>
    rw [e] at q; cases q
    obtain ⟨p, vs, rfl, h1, h2⟩ := i1.lst k1 e
    exact .inl ⟨vs, .of h1, (isEmpty_is h2).symm⟩
  | tup ds =>
    rw [e] at q; cases q
    obtain ⟨p, vs, rfl, h1, h2⟩ := i1.tup k1 e
    exact .inr (.inl ⟨vs, h1, (isEmpty_is h2).symm⟩)
  | _ => rw [e] at q; cases q
theorem bt_tru {f : M L} (ha : PE X a (tW n W f)) (he : ∀ whole, isTrue a X.env whole = (do let v ← whole; standAt a.pos; holding [v] (truthy v))) (hK : X.K = n.K) : PT X a (tT n W (truT f)) :=
  (pt_truth ha he).imp fun σ H Q ⟨c, e1, e2, k, o⟩ => by
    subst e1 e2
    refine ⟨c, rfl, rfl, k, Out.bind (P1 := PB n) trT o fun v c1 l e1 s1 k1 i1 o1 => ?_⟩
    rw [hK]
    cases q : truD l with
    | none => rw [q] at o1; exact o1.not_bad
    | some b =>
      rw [q] at o1
      exact ⟨b, truD_ok k1 i1 q, o1.fin k1 rfl⟩
def notT (f : M Bool) : M Bool := do let b ← f; pure !b
def andT (f g : M Bool) : M Bool := do let b ← f; if b then g else pure false
def orT (f g : M Bool) : M Bool := do let b ← f; if b then pure true else g
theorem bt_not {f : M Bool} (ha : PT X a (tT n W f)) : PT X (.UnaryOp .Not a pos) (tT n W (notT f)) := (pt_not ha).imp fun σ H Q ⟨c, e1, e2, k, o⟩ => by
  subst e1 e2
  exact ⟨c, rfl, rfl, k, Out.bind (P1 := fun _ _ v b => v = b) trT o fun v c1 b e1 s1 k1 i1 o1 => by subst i1; exact o1.fin k1 rfl⟩
theorem _root_.L2.PW.imp {e : Expr} {t t' : TT} (h : PW X e t) (q : ∀ σ H Q, t' σ H Q → t σ H Q) : PW X e t' := ⟨fun whole pins s σ H Q I hw => h.run whole pins s σ H Q I (q σ H Q hw)⟩
theorem bw_and1 {f : M Bool} (ha : PT X a (tT n W f)) : PW X (.BoolOp .And [a] pos) (tT n W f) := pw_and1 ha
theorem bw_or1 {f : M Bool} (ha : PT X a (tT n W f)) : PW X (.BoolOp .Or [a] pos) (tT n W f) := pw_or1 ha
theorem bw_and {f g : M Bool} (ha : PT X a (tT n W f)) (hb : PW X (.BoolOp .And (b :: rest) pos) (tT n W g)) : PW X (.BoolOp .And (a :: b :: rest) pos) (tT n W (andT f g)) := (pw_and ha hb).imp fun σ H Q ⟨c, e1, e2, k, o⟩ => by
  subst e1 e2
  refine ⟨c, rfl, rfl, k, Out.bind (P1 := fun _ _ v b => v = b) trT o fun v c1 b e1 s1 k1 i1 o1 => ?_⟩
  subst i1
  cases v with
  | true => exact iteT ⟨c1, e1, rfl, k1, o1⟩
  | false => exact iteF (o1.fin k1 rfl)
theorem bw_or {f g : M Bool} (ha : PT X a (tT n W f)) (hb : PW X (.BoolOp .Or (b :: rest) pos) (tT n W g)) : PW X (.BoolOp .Or (a :: b :: rest) pos) (tT n W (orT f g)) := (pw_or ha hb).imp fun σ H Q ⟨c, e1, e2, k, o⟩ => by
  subst e1 e2
  refine ⟨c, rfl, rfl, k, Out.bind (P1 := fun _ _ v b => v = b) trT o fun v c1 b e1 s1 k1 i1 o1 => ?_⟩
  subst i1
  cases v with
  | true => exact iteT (o1.fin k1 rfl)
  | false => exact iteF ⟨c1, e1, rfl, k1, o1⟩
/-! ### and, or, not, if as values -/
def blM (f : M Bool) : M L := do let b ← f; pure (.sh (.bl b))
def andM (f : M D) (g : M L) : M L := do
  let d ← f
  match d with
  | .bl b => if b then g else pure (.sh (.bl false))
  | _ => bad
def orM (f : M D) (g : M L) : M L := do
  let d ← f
  match d with
  | .bl b => if b then pure (.sh (.bl true)) else g
  | _ => bad
def notM (f : M D) : M L := do
  let d ← f
  match truD (.sh d) with
  | some b => pure (.sh (.bl !b))
  | none => bad
theorem be_one {op : BoolOp} {f : M L} (h : PE X a (tO n W f)) : PE X (.BoolOp op [a] pos) (tO n W f) := pe_one h
theorem be_and {f : M D} {g : M L} (ha : PE X a (tX n W f)) (hb : PE X (.BoolOp .And (b :: rest) pos) (tO n W g)) : PE X (.BoolOp .And (a :: b :: rest) pos) (tO n W (andM f g)) := (pe_and ha hb).imp fun σ H Q ⟨c, e1, e2, k, o⟩ => by
  subst e1 e2
  refine ⟨c, rfl, rfl, k, Out.bind (P1 := PX n) trO o fun v c1 d e1 s1 k1 i1 o1 => ?_⟩
  cases d with
  | bl b =>
    refine ⟨b, is_bl i1, ?_⟩
    cases b with
    | true => exact iteT ⟨c1, e1, rfl, k1, o1⟩
    | false => exact iteF (o1.sh k1 (.bl _))
  | _ => exact o1.not_bad
theorem be_or {f : M D} {g : M L} (ha : PE X a (tX n W f)) (hb : PE X (.BoolOp .Or (b :: rest) pos) (tO n W g)) : PE X (.BoolOp .Or (a :: b :: rest) pos) (tO n W (orM f g)) := (pe_or ha hb).imp fun σ H Q ⟨c, e1, e2, k, o⟩ => by
  subst e1 e2
  refine ⟨c, rfl, rfl, k, Out.bind (P1 := PX n) trO o fun v c1 d e1 s1 k1 i1 o1 => ?_⟩
  cases d with
  | bl b =>
    refine ⟨b, is_bl i1, ?_⟩
    cases b with
    | true => exact iteT (o1.sh k1 (.bl _))
    | false => exact iteF ⟨c1, e1, rfl, k1, o1⟩
  | _ => exact o1.not_bad
theorem be_not {f : M D} (ha : PE X a (tX n W f)) (hK : X.K = n.K) : PE X (.UnaryOp .Not a pos) (tO n W (notM f)) := (pe_notT ha).imp fun σ H Q ⟨c, e1, e2, k, o⟩ => by
  subst e1 e2
  refine ⟨c, rfl, rfl, k, Out.bind (P1 := PX n) trO o fun v c1 d e1 s1 k1 i1 o1 => ?_⟩
  rw [hK]
  cases q : truD (.sh d) with
  | none => rw [q] at o1; exact o1.not_bad
  | some b =>
    rw [q] at o1
    exact ⟨b, truD_ok k1 (show OIs n c1 v (.sh d) from i1) q, o1.sh k1 (.bl _)⟩
def ifM (t : M Bool) (f g : M L) : M L := do let b ← t; if b then f else g
theorem be_if {e : Expr} {t : M Bool} {f g : M L} (ht : PT X e (tT n W t)) (ha : PE X a (tO n W f)) (hb : PE X b (tO n W g)) : PE X (.IfExp e a b pos) (tO n W (ifM t f g)) := (pe_ifExp ht ha hb).imp fun σ H Q ⟨c, e1, e2, k, o⟩ => by
  subst e1 e2
  refine ⟨c, rfl, rfl, k, Out.bind (P1 := fun _ _ v b => v = b) trO o fun v c1 b e1 s1 k1 i1 o1 => ?_⟩
  subst i1
  cases v with
  | true => exact iteT ⟨c1, e1, rfl, k1, o1⟩
  | false => exact iteF ⟨c1, e1, rfl, k1, o1⟩
def negM (f : M D) : M L := do
  let d ← f
  match d with
  | .int i => pure (.sh (.int (-i)))
  | _ => bad
theorem be_neg {f : M D} (ha : PE X a (tX n W f)) : PE X (.UnaryOp .USub a pos) (tO n W (negM f)) := (pe_un un_neg ha).imp fun σ H Q ⟨c, e1, e2, k, o⟩ => by
  subst e1 e2
  refine ⟨c, rfl, rfl, k, Out.bind (P1 := PX n) trO o fun v c1 d e1 s1 k1 i1 o1 => ?_⟩
  cases d with
  | int z => exact ⟨z, is_int i1, o1.sh k1 (.int _)⟩
  | _ => exact o1.not_bad
/-! ### chains -/
def chK (fc : M D) (g' : D → D → M L) (y : D) (r : L) : M L := match r with
  | .sh (.bl b) => if b then (do let z ← fc; g' y z) else pure (.sh (.bl false))
  | _ => bad
def chM (fa fb fc : M D) (g g' : D → D → M L) : M L := do
  let x ← fa
  let y ← fb
  let r ← g x y
  chK fc g' y r
def blT (f : M L) : M Bool := f >>= fun x => match x with | .sh (.bl b) => (pure b : M Bool) | _ => bad
variable {op op' : CmpOp} {r r' : R2} {g g' : D → D → M L} {fa fb fc : M D} {e : Expr}
theorem be_tChain (h : OpS n W r g) (h' : OpS n W r' g') {σ : L2.St} {H : Hp} {Q : VK} (o : tO n W (chM fa fb fc g g') σ H Q) : tChain r r' (tX n W fa) (tX n W fb) (tX n W fc) σ H Q := by
  obtain ⟨c, rfl, rfl, k, o⟩ := o
  refine ⟨c, rfl, rfl, k, Out.bind (P1 := PX n) trO o fun x c1 d e1 s1 k1 i1 o1 => ?_⟩
  refine ⟨c1, e1, rfl, k1, Out.bind (P1 := PX n) trO o1 fun y c2 e e2 s2 k2 i2 o2 => ?_⟩
  refine h c2 x y d e _ k2 (s2.is i1) i2 (Out.bind (P1 := RV n) trO o2 fun v c3 l e3 s3 k3 r3 o3 => ?_)
  cases l with
  | sh w =>
    cases w with
    | bl b =>
      refine ⟨b, is_bl r3.is, ?_⟩
      cases b with
      | true =>
        have o3 : Out n W (RV n) c3 ((fc >>= fun z => g' e z) c3.S) Q := o3
        refine iteT ⟨c3, e3.trans (e2.trans e1), rfl, k3, Out.bind (P1 := PX n) trO o3 fun z c4 f e4 s4 k4 i4 o4 => ?_⟩
        exact h' c4 y z e f Q k4 (s4.is (s3.is i2)) i4 o4
      | false =>
        have o3 : Out n W (RV n) c3 (.ok (.sh (.bl false)) c3.S) Q := o3
        exact iteF (o3.sh k3 (.bl _))
    | _ => exact Out.not_bad (n := n) (W := W) (P := RV n) (c := c3) (Q := Q) o3
  | _ => exact Out.not_bad (n := n) (W := W) (P := RV n) (c := c3) (Q := Q) o3
theorem be_chain (ho : OpR X (compareOp op) r) (ho' : OpR X (compareOp op') r') (h : OpS n W r g) (h' : OpS n W r' g') (ha : PE X a (tX n W fa)) (hb : PE X b (tX n W fb)) (hc : PE X e (tX n W fc)) (hm : lastMarks [op, op'] [b, e] = false) :
    PE X (.Compare a [op, op'] [b, e] pos) (tO n W (chM fa fb fc g g')) := (pe_chain ho ho' ha hb hc hm).imp fun _ _ _ o => be_tChain h h' o
theorem bt_chain (ho : OpR X (compareOp op) r) (ho' : OpR X (compareOp op') r') (h : OpS n W r g) (h' : OpS n W r' g') (ha : PE X a (tX n W fa)) (hb : PE X b (tX n W fb)) (hc : PE X e (tX n W fc)) (hm : lastMarks [op, op'] [b, e] = false) :
    PT X (.Compare a [op, op'] [b, e] pos) (tT n W (blT (chM fa fb fc g g'))) := (pt_chain ho ho' ha hb hc hm).imp fun σ H Q ⟨c, e1, e2, k, o⟩ => be_tChain h h' ⟨c, e1, e2, k, Out.isBl o⟩
end
end Bv

/-! statements -/
namespace Bv
open PySem PySem.Spec PyProof.Rows L2
section
variable (n : Nm) (W : WX)
def ExcS (c : Cf) (C : Str) (fs : List (Str × D)) (S' : S) : Prop :=
  ∀ (Ca : Addr) (d : Option Addr) (c' : Cf), c'.S = S' → Stp c c' → Ok n c' → n.cA C = some Ca → XD n c' d fs → W (.ref Ca) d c'.σ c'.H
def OutS (c : Cf) (r : Fl) (E : Ends) : Prop := match r with
  | .nx S' => ∀ c', c'.S = S' → Stp c c' → Ok n c' → E.nx c'.σ c'.H
  | .rt l S' => ∀ v c', c'.S = S' → Stp c c' → Ok n c' → RV n c c' v l → E.rt v c'.H
  | .bk S' => ∀ c', c'.S = S' → Stp c c' → Ok n c' → E.bk c'.σ c'.H
  | .ct S' => ∀ c', c'.S = S' → Stp c c' → Ok n c' → E.ct c'.σ c'.H
  | .exc C fs S' => ExcS n W c C fs S'
  | .bad => False
def tS (f : MS) : TS := fun E σ H => ∃ c : Cf, c.σ = σ ∧ c.H = H ∧ Ok n c ∧ OutS n W c (f c.S) E
/-- m first, in a statement -/
def thS {α : Type} (m : M α) (k : α → MS) : MS := fun s => match m s with
  | .ok a s' => k a s'
  | .exc C fs s' => .exc C fs s'
  | .bad => .bad
end
variable {n : Nm} {W : WX} {X : Cx}
theorem OutS.later {c c' : Cf} {r : Fl} {E : Ends} (h : OutS n W c r E) (s : Stp c c') : OutS n W c' r E := by
  cases r with
  | nx S' => exact fun c2 h1 h2 h3 => h c2 h1 (s.trans h2) h3
  | rt l S' => exact fun v c2 h1 h2 h3 h4 => h v c2 h1 (s.trans h2) h3 (trO _ _ _ _ _ s h4)
  | bk S' => exact fun c2 h1 h2 h3 => h c2 h1 (s.trans h2) h3
  | ct S' => exact fun c2 h1 h2 h3 => h c2 h1 (s.trans h2) h3
  | exc C fs S' => exact fun Ca d c2 h1 h2 h3 h4 h5 => h Ca d c2 h1 (s.trans h2) h3 h4 h5
  | bad => exact h
theorem OutS.bind {α γ : Type} {P : Cf → Cf → γ → α → Prop} {c : Cf} {m : M α} {k : α → MS} {E : Ends} {Q1 : γ → Hp → Prop} (o : OutS n W c (thS m k c.S) E)
    (h : ∀ v c' a, c'.σ = c.σ → Stp c c' → Ok n c' → P c c' v a → OutS n W c' (k a c'.S) E → Q1 v c'.H) : Out n W P c (m c.S) Q1 := by
  unfold thS at o
  cases e : m c.S with
  | ok a S' =>
    rw [e] at o
    exact fun v c' h1 h2 h3 h4 h5 => h v c' a h2 h3 h4 h5 (by rw [h1]; exact o.later h3)
  | exc C fs S' => rw [e] at o; exact fun Ca d c' h1 h2 h3 h4 h5 h6 => o Ca d c' h1 h3 h4 h5 h6
  | bad => rw [e] at o; exact o
/-- what follows -/
def seqS (f g : MS) : MS := fun s => match f s with
  | .nx s' => g s'
  | r => r
theorem OutS.seq {c : Cf} {f g : MS} {E : Ends} (o : OutS n W c (seqS f g c.S) E) : OutS n W c (f c.S) { E with nx := tS n W g E } := by
  unfold seqS at o
  cases e : f c.S with
  | nx S' =>
    rw [e] at o
    exact fun c' h1 h2 h3 => ⟨c', rfl, rfl, h3, by rw [h1]; exact o.later h2⟩
  | rt l S' => rw [e] at o; exact o
  | bk S' => rw [e] at o; exact o
  | ct S' => rw [e] at o; exact o
  | exc C fs S' => rw [e] at o; exact o
  | bad => rw [e] at o; exact o
def nilS : MS := fun s => .nx s
section
variable {st : Stmt} {rest : List Stmt} {f g : MS}
theorem bss_nil : PSs X [] (tS n W nilS) := pss_nil.imp fun E σ H ⟨c, e1, e2, k, o⟩ => by
  subst e1 e2
  exact o c rfl (Stp.refl c) k
theorem bss_cons (h : PS X st (tS n W f)) (hs : PSs X rest (tS n W g)) : PSs X (st :: rest) (tS n W (seqS f g)) := (pss_cons h hs).imp fun E σ H ⟨c, e1, e2, k, o⟩ => ⟨c, e1, e2, k, o.seq⟩
theorem bs_pass {pos : Pos} : PS X (.Pass pos) (tS n W nilS) := ps_pass.imp fun E σ H ⟨c, e1, e2, k, o⟩ => by
  subst e1 e2
  exact o c rfl (Stp.refl c) k
theorem bs_break {pos : Pos} : PS X (.Break pos) (tS n W fun s => .bk s) := ps_break.imp fun E σ H ⟨c, e1, e2, k, o⟩ => by
  subst e1 e2
  exact o c rfl (Stp.refl c) k
theorem bs_continue {pos : Pos} : PS X (.Continue pos) (tS n W fun s => .ct s) := ps_continue.imp fun E σ H ⟨c, e1, e2, k, o⟩ => by
  subst e1 e2
  exact o c rfl (Stp.refl c) k
end
/-- an expression alone -/
def exS (f : M L) : MS := thS f fun _ s => .nx s
theorem bs_expr {e : Expr} {f : M L} {pos : Pos} (he : PE X e (tO n W f)) (hs : swapsWith e none pos.line X.env = pure false) : PS X (.Expr e pos) (tS n W (exS f)) := (ps_expr he hs).imp fun E σ H ⟨c, e1, e2, k, o⟩ => by
  subst e1 e2
  exact ⟨c, rfl, rfl, k, OutS.bind o fun v c1 a e1 s1 k1 r1 o1 => by rw [← e1]; exact o1 c1 rfl (Stp.refl c1) k1⟩
/-- return -/
def rtS (f : M L) : MS := thS f fun x s => .rt x s
theorem bs_ret {e : Expr} {f : M L} {pos : Pos} (he : PE X e (tO n W f)) : PS X (.Return (some e) pos) (tS n W (rtS f)) := (ps_ret he).imp fun E σ H ⟨c, e1, e2, k, o⟩ => by
  subst e1 e2
  refine ⟨c, rfl, rfl, k, ?_⟩
  unfold rtS thS at o
  cases q : f c.S with
  | ok x S' => rw [q] at o; exact fun v c' h1 h2 h3 h4 h5 => o v c' h1 h3 h4 h5
  | exc C fs S' => rw [q] at o; exact fun Ca d c' h1 h2 h3 h4 h5 h6 => o Ca d c' h1 h3 h4 h5 h6
  | bad => rw [q] at o; exact o
def rnS : MS := fun s => .rt (.sh .non) s
theorem bs_retN {pos : Pos} : PS X (.Return none pos) (tS n W rnS) := ps_retN.imp fun E σ H ⟨c, e1, e2, k, o⟩ => by
  subst e1 e2
  exact o .non c rfl (Stp.refl c) k ⟨.non, fun o => by cases o⟩
/-- a name handed back: an own object stays own -/
def mvN (i : Nat) : M L := fun s => match s.sl[i]? with
  | some (some x) => .ok x { s with sl := s.sl.set i none }
  | _ => .bad
theorem be_mv {i : Nat} {x : Str} {pos : Pos} (hN : X.N[i]? = some x) (hv : Vis X.env.scope x) (hd : (x == ("__debug__" : Str)) = false) (hcd : (x == ("__classdict__" : Str)) = false) : PE X (.Name x pos) (tO n W (mvN i)) :=
  (pe_var hN hv hd hcd).imp fun σ H Q ⟨c, e1, e2, k, o⟩ => by
    subst e1 e2
    unfold mvN at o
    cases e : c.S.sl[i]? with
    | none => rw [e] at o; exact o.not_bad
    | some y =>
      cases y with
      | none => rw [e] at o; exact o.not_bad
      | some y =>
        rw [e] at o
        obtain ⟨v, h1, h2⟩ := k.sl i y e
        have k2 : Ok n { c with S := { c.S with sl := c.S.sl.set i none } } := k.unown (fun d z => by cases z)
        refine ⟨v, h1, o v { c with S := { c.S with sl := c.S.sl.set i none } } rfl rfl ⟨Sub.refl _, fun _ _ h _ _ => h, fun _ h => .inl h, fun b h => .inl (unown_mut (c := c) (i := i) (y := none) (fun d z => by cases z) h), fun _ h => h, ⟨[], by simp⟩, rfl⟩ k2 ⟨by cases y <;> exact h2, fun oy a ea => ⟨?_, .inr (.inl ⟨i, y, e, oy, by rw [h1, ea]⟩)⟩⟩⟩
        rintro ⟨j, z, z1, z2, z3⟩
        by_cases hij : i = j
        · subst hij
          have z1 : (c.S.sl.set i none)[i]? = some (some z) := z1
          rw [List.getElem?_set_self', e] at z1
          cases z1
        · have z1 : (c.S.sl.set i none)[j]? = some (some z) := z1
          rw [List.getElem?_set_ne hij] at z1
          subst ea
          exact k.dist i j y z a hij e z1 oy z2 h1 z3
/-- if -/
def ifS (t : M Bool) (f g : MS) : MS := thS t fun b => if b then f else g
theorem bs_if {e : Expr} {a b : List Stmt} {t : M Bool} {f g : MS} {pos : Pos} (ht : PT X e (tT n W t)) (ha : PSs X a (tS n W f)) (hb : PSs X b (tS n W g)) : PS X (.If e a b pos) (tS n W (ifS t f g)) := (ps_if ht ha hb).imp fun E σ H ⟨c, e1, e2, k, o⟩ => by
  subst e1 e2
  refine ⟨c, rfl, rfl, k, OutS.bind o fun v c1 b e1 s1 k1 i1 o1 => ?_⟩
  have i1 : v = b := i1
  subst i1
  cases v with
  | true => exact iteT ⟨c1, e1, rfl, k1, o1⟩
  | false => exact iteF ⟨c1, e1, rfl, k1, o1⟩

/-! ### targets -/
/-- a slot gets a value -/
theorem Ok.put {c0 c : Cf} {v : V} {l : L} {i : Nat} (k : Ok n c) (s : Stp c0 c) (r : RV n c0 c v l) : Ok n { c with S := { c.S with sl := c.S.sl.set i (some l) }, σ := c.σ.set i (some v) } ∧ Stp c0 { c with S := { c.S with sl := c.S.sl.set i (some l) }, σ := c.σ.set i (some v) } := by
  have old : ∀ (j : Nat) (x : L), (c.S.sl.set i (some l))[j]? = some (some x) → (j = i ∧ x = l ∧ i < c.S.sl.length) ∨ (j ≠ i ∧ c.S.sl[j]? = some (some x)) := fun j x e => by
    by_cases hij : i = j
    · subst hij
      rw [List.getElem?_set_self'] at e
      cases q : c.S.sl[i]? with
      | none => rw [q] at e; cases e
      | some w =>
        rw [q] at e
        have e : some l = some x := by simpa using e
        exact .inl ⟨rfl, (Option.some.inj e).symm, (List.getElem?_eq_some_iff.mp q).1⟩
    · rw [List.getElem?_set_ne hij] at e
      exact .inr ⟨fun z => hij z.symm, e⟩
  have vals : ∀ (j : Nat), j ≠ i → (c.σ.set i (some v))[j]? = c.σ[j]? := fun j hj => List.getElem?_set_ne (fun z => hj z.symm)
  have valI : i < c.S.sl.length → (c.σ.set i (some v))[i]? = some (some v) := fun h => by rw [List.getElem?_set_self (by rw [← k.len]; exact h)]
  refine ⟨⟨by simp [k.len], k.sub, fun j x e => ?_, fun j1 j2 x y a hj h1 h2 o1 o2 s1 s2 => ?_, k.nd, k.slen, fun j o a h1 h2 => ?_, k.fφ⟩, ⟨s.F, s.H, s.new, fun b h => ?_, s.there, s.φ, s.an⟩⟩
  · rcases old j x e with ⟨rfl, rfl, hl⟩ | ⟨hj, e⟩
    · exact ⟨v, valI hl, by have := r.is; cases x <;> exact this⟩
    · obtain ⟨w, h1, h2⟩ := k.sl j x e
      exact ⟨w, (vals j hj).trans h1, by cases x <;> exact h2⟩
  · have h1 : (c.S.sl.set i (some l))[j1]? = some (some x) := h1
    have h2 : (c.S.sl.set i (some l))[j2]? = some (some y) := h2
    have s1 : (c.σ.set i (some v))[j1]? = some (some (V.ref a)) := s1
    have s2 : (c.σ.set i (some v))[j2]? = some (some (V.ref a)) := s2
    rcases old j1 x h1 with ⟨rfl, rfl, hl⟩ | ⟨hj1, e1⟩
    · rcases old j2 y h2 with ⟨rfl, _, _⟩ | ⟨hj2, e2⟩
      · exact hj rfl
      · rw [valI hl] at s1
        cases s1
        rw [vals j2 hj2] at s2
        exact (r.own o1 a rfl).1 ⟨j2, y, e2, o2, s2⟩
    · have t1 : c.σ[j1]? = some (some (V.ref a)) := (vals j1 hj1).symm.trans s1
      rcases old j2 y h2 with ⟨rfl, rfl, hl⟩ | ⟨hj2, e2⟩
      · rw [valI hl] at s2
        have s2 : v = V.ref a := Option.some.inj (Option.some.inj s2)
        exact (r.own o2 a s2).1 ⟨j1, x, e1, o1, t1⟩
      · rw [vals j2 hj2] at s2
        exact k.dist j1 j2 x y a hj e1 e2 o1 o2 t1 s2
  · have z := k.st j o a h1 h2
    cases o <;> exact z
  · rcases h with ⟨j, x, e1, o1, e3⟩ | h
    · have e1 : (c.S.sl.set i (some l))[j]? = some (some x) := e1
      have e3 : (c.σ.set i (some v))[j]? = some (some (V.ref b)) := e3
      rcases old j x e1 with ⟨rfl, rfl, hl⟩ | ⟨hj, e1⟩
      · rw [valI hl] at e3
        cases e3
        rcases (r.own o1 b rfl).2 with z | z
        · exact .inr z
        · exact .inl z
      · rw [vals j hj] at e3
        exact s.mono b (.inl ⟨j, x, e1, o1, e3⟩)
    · exact s.mono b (.inr h)
/-- a target by value -/
abbrev AS := L → S → Option S
structure Agr (ix : List Nat) (σ σ' : List (Option V)) : Prop where
  len : σ'.length = σ.length
  get : ∀ j : Nat, j ∉ ix → σ'[j]? = σ[j]?
def tG (n : Nm) (ix : List Nat) (a : AS) : TG := fun v σ H Q => ∃ (c0 c : Cf) (l : L), c.σ = σ ∧ c.H = H ∧ Stp c0 c ∧ Ok n c ∧ RV n c0 c v l ∧ ∃ S', a l c.S = some S' ∧ ∀ c', c'.S = S' → Stp c0 c' → Ok n c' → Agr ix c.σ c'.σ → Q c'.σ c'.H
theorem _root_.L2.PG.imp {e : Expr} {t t' : TG} (h : PG X e t) (q : ∀ v σ H Q, t' v σ H Q → t v σ H Q) : PG X e t' := ⟨fun pins s σ H v u Q I r hw => h.run pins s σ H v u Q I r (q v σ H Q hw)⟩
def asN (i : Nat) : AS := fun l s => some { s with sl := s.sl.set i (some l) }
theorem bg_name {i : Nat} {x : Str} {pos : Pos} (hN : X.N.Nodup) (hi : X.N[i]? = some x) (hx : Loc X.env.scope x) (hf : X.fn x = true ∨ X.env.scope.names.lookup x = some .local) : PG X (.Name x pos) (tG n [i] (asN i)) := (pg_name hN hi hx hf).imp fun v σ H Q ⟨c0, c, l, e1, e2, s, k, r, S', e3, q⟩ => by
  subst e1 e2
  cases e3
  obtain ⟨k2, s2⟩ := k.put (i := i) s r
  exact q { c with S := { c.S with sl := c.S.sl.set i (some l) }, σ := c.σ.set i (some v) } rfl s2 k2 ⟨List.length_set, fun j hj => List.getElem?_set_ne (fun z => hj (by simp [z]))⟩
/-- several targets, from the left -/
def asL : List AS → List D → S → Option S
  | [], [], s => some s
  | a :: as, d :: ds, s => match a (.sh d) s with
    | some s' => asL as ds s'
    | none => none
  | _, _, _ => none
def tGs (n : Nm) (ix : List Nat) (as : List AS) : TGs := fun vs σ H Q => ∃ (c0 c : Cf) (ds : List D), c.σ = σ ∧ c.H = H ∧ Stp c0 c ∧ Ok n c ∧ IsL n c.F c.φ vs ds ∧ ∃ S', asL as ds c.S = some S' ∧ ∀ c', c'.S = S' → Stp c0 c' → Ok n c' → Agr ix c.σ c'.σ → Q c'.σ c'.H
theorem Agr.refl (ix : List Nat) (σ : List (Option V)) : Agr ix σ σ := ⟨rfl, fun _ _ => rfl⟩
theorem Agr.trans {ix iy : List Nat} {σ σ1 σ2 : List (Option V)} (a : Agr ix σ σ1) (b : Agr iy σ1 σ2) : Agr (ix ++ iy) σ σ2 := ⟨b.len.trans a.len, fun j hj => by
  simp only [List.mem_append, not_or] at hj
  exact (b.get j hj.2).trans (a.get j hj.1)⟩
theorem _root_.L2.PGs.imp {e : List Expr} {t t' : TGs} (h : PGs X e t) (q : ∀ v σ H Q, t' v σ H Q → t v σ H Q) : PGs X e t' := ⟨fun pins s σ H v u Q I r hw => h.run pins s σ H v u Q I r (q v σ H Q hw)⟩
theorem bgs_nil : PGs X [] (tGs n [] []) := pgs_nil.imp fun vs σ H Q ⟨c0, c, ds, e1, e2, s, k, i, S', e3, q⟩ => by
  subst e1 e2
  cases ds with
  | nil =>
    cases i
    cases e3
    exact ⟨rfl, q c rfl s k (Agr.refl _ _)⟩
  | cons d ds => cases e3
theorem bgs_cons {e : Expr} {es : List Expr} {a : AS} {as : List AS} {ix iy : List Nat} (h : PG X e (tG n ix a)) (hs : PGs X es (tGs n iy as)) (he : (assignEach (e :: es) X.env).map (·.2) = assign e X.env :: (assignEach es X.env).map (·.2)) : PGs X (e :: es) (tGs n (ix ++ iy) (a :: as)) := (pgs_cons h hs he).imp fun vs σ H Q ⟨c0, c, ds, e1, e2, s, k, i, S', e3, q⟩ => by
  subst e1 e2
  cases ds with
  | nil => cases e3
  | cons d ds =>
    cases vs with
    | nil => cases i
    | cons v vs =>
      obtain ⟨h1, t⟩ : Is n c.F c.φ v d ∧ IsL n c.F c.φ vs ds := by cases i with | cons h t => exact ⟨h, t⟩
      unfold asL at e3
      cases q1 : a (.sh d) c.S with
      | none => rw [q1] at e3; cases e3
      | some S1 =>
        rw [q1] at e3
        exact ⟨v, vs, rfl, c, c, .sh d, rfl, rfl, Stp.refl c, k, ⟨OIs.sh h1, fun o => by cases o⟩, S1, q1, fun c1 h2 s1 k1 g1 => ⟨c0, c1, ds, rfl, rfl, s.trans s1, k1, s1.isL t, S', by rw [h2]; exact e3, fun c2 h3 s2 k2 g2 => q c2 h3 s2 k2 (g1.trans g2)⟩⟩
def asT (as : List AS) : AS := fun l s => match l with
  | .sh (.tup ds) => asL as ds s
  | _ => none
theorem bg_tup {es : List Expr} {k1 : Nat} {as : List AS} {pos : Pos} {ix : List Nat} (hc : X.calm = true) (hK : X.K = n.K) (hl : (assignEach es X.env).length = as.length) (hst : (assignEach es X.env).findIdx? (·.1) = none) (h : PGs X es (tGs n ix as)) : PG X (.Tuple es k1 pos) (tG n ix (asT as)) := (pg_tup (n := as.length) hc h hl hst).imp fun v σ H Q ⟨c0, c, l, e1, e2, s, k, r, S', e3, q⟩ => by
  subst e1 e2
  cases l with
  | sh d =>
    cases d with
    | tup ds =>
      have e3 : asL as ds c.S = some S' := e3
      have ri : Is n c.F c.φ v (.tup ds) := r.is
      obtain ⟨a, vs, rfl, h1, h2⟩ := is_tup ri
      refine ⟨a, vs, rfl, by rw [hK]; exact k.sub.seqT h1, ?_, c0, c, ds, rfl, rfl, s, k, h2, S', e3, q⟩
      rw [h2.length]
      have key : ∀ (as : List AS) (ds : List D) (s s' : S), asL as ds s = some s' → ds.length = as.length := by
        intro as
        induction as with
        | nil => intro ds s s' h; cases ds with
          | nil => rfl
          | cons d ds => cases h
        | cons a as ih => intro ds s s' h; cases ds with
          | nil => cases h
          | cons d ds =>
            unfold asL at h
            cases q : a (.sh d) s with
            | none => rw [q] at h; cases h
            | some s1 => rw [q] at h; rw [List.length_cons, List.length_cons, ih ds s1 s' h]
      exact key as ds c.S S' e3
    | _ => cases e3
  | _ => cases e3
/-! ### assignments -/
def agS (f : M L) (a : AS) : MS := thS f fun x s => match a x s with
  | some s' => .nx s'
  | none => .bad
theorem as_ok {c c1 : Cf} {v : V} {x : L} {a : AS} {E : Ends} {ix : List Nat} (s1 : Stp c c1) (k1 : Ok n c1) (r1 : RV n c c1 v x) (o1 : OutS n W c (match a x c1.S with | some s' => .nx s' | none => .bad) E) : tG n ix a v c1.σ c1.H E.nx := by
  cases q : a x c1.S with
  | none => rw [q] at o1; exact False.elim o1
  | some S' =>
    rw [q] at o1
    exact ⟨c, c1, x, rfl, rfl, s1, k1, r1, S', q, fun c' h1 h2 h3 _ => o1 c' h1 h2 h3⟩
theorem OutS.asg {c : Cf} {f : M L} {a : AS} {E : Ends} {ix : List Nat} (o : OutS n W c (agS f a c.S) E) : Out n W (RV n) c (f c.S) (fun v H' => tG n ix a v c.σ H' E.nx) := by
  unfold agS thS at o
  cases e : f c.S with
  | ok x S' =>
    rw [e] at o
    intro v c' h1 h2 h3 h4 h5
    rw [← h2]
    exact as_ok h3 h4 h5 (by rw [h1]; exact o)
  | exc C fs S' => rw [e] at o; exact fun Ca d c' h1 h2 h3 h4 h5 h6 => o Ca d c' h1 h3 h4 h5 h6
  | bad => rw [e] at o; exact o
theorem bs_asg {tg e : Expr} {f : M L} {a : AS} {pos : Pos} {ix : List Nat} (he : PE X e (tO n W f)) (hg : PG X tg (tG n ix a)) (hs : swapsWithSole [tg] e pos.line X.env = pure false) (hw : swappedStores [tg] e X.env = pure none) (h1 : (assignEach [tg] X.env).map (·.2) = [assign tg X.env]) : PS X (.Assign [tg] e pos) (tS n W (agS f a)) := (ps_asg he hg hs hw h1).imp fun E σ H ⟨c, e1, e2, k, o⟩ => by
  subst e1 e2
  exact ⟨c, rfl, rfl, k, o.asg⟩
end Bv

/-! loops -/
namespace Bv
open PySem PySem.Spec PyProof.Rows L2
variable {n : Nm} {W : WX} {X : Cx}
structure Fwd (c c' : Cf) : Prop where
  F : Sub c.F c'.F
  φ : ∃ ψ, c'.φ = c.φ ++ ψ
theorem Fwd.refl (c : Cf) : Fwd c c := ⟨Sub.refl _, [], by simp⟩
theorem Fwd.step {c c' c'' : Cf} (a : Fwd c c') (s : Stp c' c'') : Fwd c c'' := ⟨a.F.trans s.F, by
  obtain ⟨p, e⟩ := a.φ
  obtain ⟨q, f⟩ := s.φ
  exact ⟨p ++ q, by rw [f, e, List.append_assoc]⟩⟩
theorem Fwd.is {c c' : Cf} (s : Fwd c c') {v : V} {d : D} (h : Is n c.F c.φ v d) : Is n c'.F c'.φ v d := by
  obtain ⟨ψ, e⟩ := s.φ
  rw [e]; exact h.mono s.F
/-- what is walked: at each turn the next of ds -/
structure Wk (n : Nm) (c1 : Cf) (J : It) (ds : List D) : Prop where
  go : ∀ (i : Nat) (c : Cf), i < ds.length → Ok n c → Fwd c1 c → J.go i c.H
  yld : ∀ (i : Nat) (c : Cf) (x : V) (H' : Hp), i < ds.length → Ok n c → Fwd c1 c → J.yld i c.H x H' → ∃ (c2 : Cf) (d : D), c2.S = c.S ∧ c2.σ = c.σ ∧ c2.H = H' ∧ Stp c c2 ∧ Ok n c2 ∧ ds[i]? = some d ∧ Is n c2.F c2.φ x d
  stop : ∀ (c : Cf), Ok n c → Fwd c1 c → J.stop ds.length c.H
def tI (n : Nm) (W : WX) (f : M (List D)) : TI := fun σ H R => ∃ c : Cf, c.σ = σ ∧ c.H = H ∧ Ok n c ∧ Out n W (fun _ c' J ds => Wk n c' J ds) c (f c.S) R
theorem trI : Trans (fun (_ : Cf) c' (J : It) ds => Wk n c' J ds) := fun _ _ _ _ _ _ h => h
theorem _root_.L2.PI.imp {tg e : Expr} {t t' : TI} (h : PI X tg e t) (q : ∀ σ H Q, t' σ H Q → t σ H Q) : PI X tg e t' := ⟨fun pins s σ H Q I hw => h.run pins s σ H Q I (q σ H Q hw)⟩
theorem _root_.L2.PI.or {tg e : Expr} {t t' : TI} (h : PI X tg e t) (h' : PI X tg e t') : PI X tg e (fun σ H R => t σ H R ∨ t' σ H R) := ⟨fun pins s σ H Q I hw => by
  rcases hw with hw | hw
  · exact h.run pins s σ H Q I hw
  · exact h'.run pins s σ H Q I hw⟩
/-- over a list or a tuple -/
theorem wk_list {c1 : Cf} {a : Addr} {vs : List V} {ds : List D} (h : c1.F a = some (.lst vs)) (i : IsL n c1.F c1.φ vs ds) : Wk n c1 (Itl n.K a) ds where
  go := fun j c hj k f => by
    have q : SqL n.K c.H a vs := .of (k.sub _ _ (f.F _ _ h))
    exact ⟨vs, vs[j]'(by rw [i.length]; exact hj), q, List.getElem?_eq_getElem _⟩
  yld := fun j c x H' hj k f y => by
    have q : SqL n.K c.H a vs := .of (k.sub _ _ (f.F _ _ h))
    obtain ⟨e, y⟩ := y
    subst e
    obtain ⟨d, h1, h2⟩ := i.getV (y vs q)
    exact ⟨c, d, rfl, rfl, rfl, Stp.refl c, k, h1, f.is h2⟩
  stop := fun c k f => ⟨vs, .of (k.sub _ _ (f.F _ _ h)), by rw [i.length]; exact Nat.le_refl _⟩
theorem wk_scr {c1 : Cf} {a : Addr} {vs : List V} {ds : List D} (h : SqL n.K c1.F a vs) (i : IsL n c1.F c1.φ vs ds) : Wk n c1 (Itl n.K a) ds where
  go := fun j c hj k f => by
    have q : SqL n.K c.H a vs := k.sub.seqL (f.F.seqL h)
    exact ⟨vs, vs[j]'(by rw [i.length]; exact hj), q, List.getElem?_eq_getElem _⟩
  yld := fun j c x H' hj k f y => by
    have q : SqL n.K c.H a vs := k.sub.seqL (f.F.seqL h)
    obtain ⟨e, y⟩ := y
    subst e
    obtain ⟨d, h1, h2⟩ := i.getV (y vs q)
    exact ⟨c, d, rfl, rfl, rfl, Stp.refl c, k, h1, f.is h2⟩
  stop := fun c k f => ⟨vs, k.sub.seqL (f.F.seqL h), by rw [i.length]; exact Nat.le_refl _⟩
theorem wk_tup {c1 : Cf} {a : Addr} {vs : List V} {ds : List D} (h : SqT n.K c1.F a vs) (i : IsL n c1.F c1.φ vs ds) : Wk n c1 (Itt n.K a) ds where
  go := fun j c hj k f => by
    have q : SqT n.K c.H a vs := k.sub.seqT (f.F.seqT h)
    exact ⟨vs, vs[j]'(by rw [i.length]; exact hj), q, List.getElem?_eq_getElem _⟩
  yld := fun j c x H' hj k f y => by
    have q : SqT n.K c.H a vs := k.sub.seqT (f.F.seqT h)
    obtain ⟨e, y⟩ := y
    subst e
    obtain ⟨d, h1, h2⟩ := i.getV (y vs q)
    exact ⟨c, d, rfl, rfl, rfl, Stp.refl c, k, h1, f.is h2⟩
  stop := fun c k f => ⟨vs, k.sub.seqT (f.F.seqT h), by rw [i.length]; exact Nat.le_refl _⟩
theorem wk_str {c1 : Cf} (z : Str) : Wk n c1 (Its z) (z.cps.toList.map fun c => D.str ⟨#[c]⟩) where
  go := fun j c hj k f => by
    have : j < z.cps.size := by simpa using hj
    exact this
  yld := fun j c x H' hj k f y => by
    obtain ⟨e, ch, h1, rfl⟩ := y
    subst e
    refine ⟨c, .str ⟨#[ch]⟩, rfl, rfl, rfl, Stp.refl c, k, ?_, .str _⟩
    rw [List.getElem?_map, Array.getElem?_toList, h1]
    rfl
  stop := fun c k f => by
    show z.cps.size ≤ _
    simp
def itD (d : D) : M (List D) := match d with
  | .lst ds => pure ds
  | .scr ds => pure ds
  | .tup ds => pure ds
  | .str x => pure (x.cps.toList.map fun c => .str ⟨#[c]⟩)
  | _ => bad
def itM (f : M D) : M (List D) := do let d ← f; itD d
theorem bi_seq {tg e : Expr} {f : M D} (h : PE X e (tX n W f)) (hK : X.K = n.K) : PI X tg e (tI n W (itM f)) := (PI.or (PI.or (pi_list h) (pi_tup h)) (pi_str h)).imp fun σ H R ⟨c, e1, e2, k, o⟩ => by
  subst e1 e2
  -- which of the two is told by the value at the end of the run: both readings begin with the same run
  unfold itM at o
  have o : Out n W (fun _ c' J ds => Wk n c' J ds) c (M.bind f itD c.S) R := o
  unfold M.bind at o
  cases q : f c.S with
  | ok d S' =>
    rw [q] at o
    cases d with
    | lst ds =>
      refine .inl (.inl ⟨c, rfl, rfl, k, ?_⟩)
      rw [q]
      intro x c1 h1 h2 h3 h4 h5
      obtain ⟨a, vs, rfl, h6, h7⟩ := is_lst h5
      refine ⟨a, rfl, ⟨vs, .of (h4.sub _ _ h6)⟩, ?_⟩
      rw [hK]
      exact o (Itl n.K a) c1 h1 h2 h3 h4 (wk_list h6 h7)
    | scr ds =>
      refine .inl (.inl ⟨c, rfl, rfl, k, ?_⟩)
      rw [q]
      intro x c1 h1 h2 h3 h4 h5
      have h5 : Is n c1.F c1.φ x (.scr ds) := h5
      cases h5 with
      | scr h6 h7 =>
        refine ⟨_, rfl, ⟨_, by rw [hK]; exact h4.sub.seqL h6⟩, ?_⟩
        rw [hK]
        exact o (Itl n.K _) c1 h1 h2 h3 h4 (wk_scr h6 h7)
    | tup ds =>
      refine .inl (.inr ⟨c, rfl, rfl, k, ?_⟩)
      rw [q]
      intro x c1 h1 h2 h3 h4 h5
      obtain ⟨a, vs, rfl, h6, h7⟩ := is_tup h5
      refine ⟨a, rfl, ⟨vs, by rw [hK]; exact h4.sub.seqT h6⟩, ?_⟩
      rw [hK]
      exact o (Itt n.K a) c1 h1 h2 h3 h4 (wk_tup h6 h7)
    | str z =>
      refine .inr ⟨c, rfl, rfl, k, ?_⟩
      rw [q]
      intro x c1 h1 h2 h3 h4 h5
      exact ⟨z, is_str h5, o (Its z) c1 h1 h2 h3 h4 (wk_str z)⟩
    | _ => exact o.not_bad
  | exc C fs S' =>
    rw [q] at o
    refine .inl (.inl ⟨c, rfl, rfl, k, ?_⟩)
    rw [q]; exact o
  | bad => rw [q] at o; exact o.not_bad
/-- over a range -/
def rgD (a : Int) (m : Nat) : List D := (List.range m).map fun i => .int (a + (i : Nat))
def rg1W (ds : List D) : M (List D) := match ds with
  | [.int j] => if decide (-(2 ^ 62) ≤ j) && decide (j < 2 ^ 62) then pure (rgD 0 j.toNat) else bad
  | _ => bad
def rg2W (ds : List D) : M (List D) := match ds with
  | [.int i, .int j] => if decide (-(2 ^ 62) ≤ i) && decide (i < 2 ^ 62) && decide (-(2 ^ 62) ≤ j) && decide (j < 2 ^ 62) then pure (rgD i (j - i).toNat) else bad
  | _ => bad
def rgC (a c : Int) (m : Nat) : List D := (List.range m).map fun i => .int (a + (i : Nat) * c)
def rg3W (ds : List D) : M (List D) := match ds with
  | [.int i, .int j, .int c] => if decide (c ≠ 0) && decide (c.natAbs < 1073741824) && Builtin.Range.small i j c then pure (rgC i c (Builtin.Range.rangeSize i j c).toNat) else bad
  | _ => bad
def rgM (fs : M (List D)) (g : List D → M (List D)) : M (List D) := do let ds ← fs; g ds
theorem rgD_get {a : Int} {m i : Nat} (h : i < (rgD a m).length) : (rgD a m)[i]? = some (.int (a + (i : Nat))) := by
  unfold rgD at h ⊢
  rw [List.length_map, List.length_range] at h
  rw [List.getElem?_map, List.getElem?_range h]
  rfl
theorem wk_range {c1 : Cf} {a : Int} {m : Nat} : Wk n c1 (Itr a m) (rgD a m) where
  go := fun j c hj k f => by
    show j < m
    have : (rgD a m).length = m := by unfold rgD; rw [List.length_map, List.length_range]
    rw [this] at hj; exact hj
  yld := fun j c x H' hj k f y => by
    obtain ⟨e, y⟩ := y
    subst e y
    exact ⟨c, _, rfl, rfl, rfl, Stp.refl c, k, rgD_get hj, .int _⟩
  stop := fun c k f => by
    have : (rgD a m).length = m := by unfold rgD; rw [List.length_map, List.length_range]
    rw [this]
    exact Nat.le_refl _
theorem bi_range1 {tg a : Expr} {p pos : Pos} {fs : M (List D)} (hg : Gl X "range") (hm : X.mg "range" = none) (ha : PA X [a] (tA n W fs)) (hs : starEach [a] X.env = [(false, eval a X.env)]) : PI X tg (.Call (.Name "range" p) [a] [] pos) (tI n W (rgM fs rg1W)) := (pi_range1 hg hm ha hs).imp fun σ H R ⟨c, e1, e2, k, o⟩ => by
  subst e1 e2
  refine ⟨c, rfl, rfl, k, Out.bind (P1 := PL n) trI o fun vs c1 ds e1 s1 k1 i1 o1 => ?_⟩
  unfold rg1W at o1
  split at o1
  · rename_i j
    split at o1
    · rename_i hz
      simp only [Bool.and_eq_true, decide_eq_true_eq] at hz
      obtain ⟨v, rfl, hv⟩ : ∃ v, vs = [v] ∧ Is n c1.F c1.φ v (.int j) := by
        cases i1 with
        | cons h t => cases t; exact ⟨_, rfl, h⟩
      rw [is_int hv]
      exact ⟨j, rfl, hz.1, hz.2, o1.fin k1 wk_range⟩
    · exact o1.not_bad
  · exact o1.not_bad
theorem bi_range2 {tg a b : Expr} {p pos : Pos} {fs : M (List D)} (hg : Gl X "range") (hm : X.mg "range" = none) (ha : PA X [a, b] (tA n W fs)) (hs : starEach [a, b] X.env = [(false, eval a X.env), (false, eval b X.env)]) (hs2 : starEach [b] X.env = [(false, eval b X.env)]) : PI X tg (.Call (.Name "range" p) [a, b] [] pos) (tI n W (rgM fs rg2W)) := (pi_range2 hg hm ha hs hs2).imp fun σ H R ⟨c, e1, e2, k, o⟩ => by
  subst e1 e2
  refine ⟨c, rfl, rfl, k, Out.bind (P1 := PL n) trI o fun vs c1 ds e1 s1 k1 i1 o1 => ?_⟩
  unfold rg2W at o1
  split at o1
  · rename_i i j
    split at o1
    · rename_i hz
      simp only [Bool.and_eq_true, decide_eq_true_eq] at hz
      obtain ⟨v, w, rfl, hv, hw⟩ : ∃ v w, vs = [v, w] ∧ Is n c1.F c1.φ v (.int i) ∧ Is n c1.F c1.φ w (.int j) := by
        cases i1 with
        | cons h t =>
          cases t with
          | cons h2 t => cases t; exact ⟨_, _, rfl, h, h2⟩
      rw [is_int hv, is_int hw]
      exact ⟨i, j, rfl, ⟨hz.1.1.1, hz.1.1.2, hz.1.2, hz.2⟩, o1.fin k1 wk_range⟩
    · exact o1.not_bad
  · exact o1.not_bad
/-! ### for -/
def asg1 (a : AS) (d : D) (s : S) : Option S := a (.sh d) s
def forB (a : AS) (f : MS) : List D → MS
  | [], s => .nx s
  | d :: ds, s => match a (.sh d) s with
    | none => .bad
    | some s1 => (match f s1 with
      | .nx s2 => forB a f ds s2
      | .ct s2 => forB a f ds s2
      | .bk s2 => .nx s2
      | r => r)
def forS (m : M (List D)) (a : AS) (f : MS) : MS := thS m fun ds => forB a f ds
theorem bs_for {tg iter : Expr} {body : List Stmt} {m : M (List D)} {a : AS} {f : MS} {pos : Pos} {ix : List Nat} (hp : PassesOwn (model X.prog X.w) X.A X.env X.xe) (hc : X.calm = true) (hi : PI X tg iter (tI n W m)) (hg : PG X tg (tG n ix a)) (hb : PSs X body (tS n W f))
    (hs : ∀ x, foldedSetIterable iter X.env x = pure x) : PS X (.For tg iter body [] pos) (tS n W (forS m a f)) := (ps_for hp hc hi hg hb hs).imp fun E σ H ⟨c, e1, e2, k, o⟩ => by
  subst e1 e2
  refine ⟨c, rfl, rfl, k, OutS.bind o fun J c1 ds e1 s1 k1 w1 o1 => ?_⟩
  refine ⟨fun i m σ H => m = ds.length - i ∧ i ≤ ds.length ∧ ∃ c2 : Cf, c2.σ = σ ∧ c2.H = H ∧ Ok n c2 ∧ Fwd c1 c2 ∧ OutS n W c2 (forB a f (ds.drop i) c2.S) E, ⟨ds.length, by simp, Nat.zero_le _, c1, e1, rfl, k1, Fwd.refl c1, o1⟩, ?_⟩
  rintro i m σ H ⟨rfl, hi, c2, rfl, rfl, k2, f2, o2⟩
  by_cases hlt : i < ds.length
  · refine .inr ⟨w1.go i c2 hlt k2 f2, fun σ' H' => ∃ c4 : Cf, c4.σ = σ' ∧ c4.H = H' ∧ Ok n c4 ∧ Fwd c1 c4 ∧ OutS n W c4 (forB a f (ds.drop (i + 1)) c4.S) E, fun σ' H' hN => ⟨ds.length - (i + 1), by omega, rfl, hlt, hN⟩, fun x H' y => ?_⟩
    obtain ⟨c3, d, h1, h2, h3, s3, k3, h4, h5⟩ := w1.yld i c2 x H' hlt k2 f2 y
    subst h3
    have hd : ds.drop i = d :: ds.drop (i + 1) := by
      rw [List.getElem?_eq_getElem hlt] at h4
      rw [List.drop_eq_getElem_cons hlt]
      have := Option.some.inj h4
      rw [this]
    rw [hd] at o2
    unfold forB at o2
    rw [← h1] at o2
    cases q : a (.sh d) c3.S with
    | none => rw [q] at o2; exact o2.elim
    | some S1 =>
      rw [q] at o2
      dsimp only at o2
      have o3 := o2.later s3
      refine ⟨c3, c3, .sh d, h2, rfl, Stp.refl c3, k3, ⟨OIs.sh h5, fun z => by cases z⟩, S1, q, fun c4 h6 s4 k4 _ => ⟨c4, rfl, rfl, k4, ?_⟩⟩
      have o4 := o3.later s4
      rw [h6]
      have f4 : Fwd c1 c4 := (f2.step s3).step s4
      cases q2 : f S1 with
      | nx S2 => rw [q2] at o4; exact fun c5 h7 s5 k5 => ⟨c5, rfl, rfl, k5, f4.step s5, by rw [h7]; exact o4.later s5⟩
      | ct S2 => rw [q2] at o4; exact fun c5 h7 s5 k5 => ⟨c5, rfl, rfl, k5, f4.step s5, by rw [h7]; exact o4.later s5⟩
      | bk S2 => rw [q2] at o4; exact o4
      | rt l S2 => rw [q2] at o4; exact o4
      | exc C fs S2 => rw [q2] at o4; exact o4
      | bad => rw [q2] at o4; exact o4
  · have e : i = ds.length := by omega
    subst e
    rw [List.drop_length] at o2
    exact .inl ⟨w1.stop c2 k2 f2, o2 c2 rfl (Stp.refl c2) k2⟩
/-! ### while, a number of turns at most -/
def whB (t : M Bool) (f : MS) : Nat → MS
  | 0, _ => .bad
  | m + 1, s => match t s with
    | .ok true s1 => (match f s1 with
      | .nx s2 => whB t f m s2
      | .ct s2 => whB t f m s2
      | .bk s2 => .nx s2
      | r => r)
    | .ok false s1 => .nx s1
    | .exc C fs s1 => .exc C fs s1
    | .bad => .bad
theorem bs_while {e : Expr} {body : List Stmt} {t : M Bool} {f : MS} {pos : Pos} (m : Nat) (hp : PassesOwn (model X.prog X.w) X.A X.env X.xe) (ht : PT X e (tT n W t)) (hb : PSs X body (tS n W f)) : PS X (.While e body [] pos) (tS n W (whB t f m)) := (ps_while hp ht hb).imp fun E σ H ⟨c, e1, e2, k, o⟩ => by
  subst e1 e2
  refine ⟨fun m σ H => ∃ c2 : Cf, c2.σ = σ ∧ c2.H = H ∧ Ok n c2 ∧ OutS n W c2 (whB t f m c2.S) E, ⟨m, c, rfl, rfl, k, o⟩, ?_⟩
  rintro m σ H ⟨c2, rfl, rfl, k2, o2⟩
  refine ⟨c2, rfl, rfl, k2, ?_⟩
  cases m with
  | zero => exact o2.elim
  | succ m =>
    unfold whB at o2
    cases q : t c2.S with
    | bad => rw [q] at o2; exact o2.elim
    | exc C fs S1 => rw [q] at o2; exact fun Ca d c' h1 h2 h3 h4 h5 h6 => o2 Ca d c' h1 h3 h4 h5 h6
    | ok b S1 =>
      rw [q] at o2
      intro v c3 h1 h2 s3 k3 h3
      have h3 : v = b := h3
      subst h3
      cases v with
      | false => exact iteF (by rw [← h2]; exact o2 c3 h1 s3 k3)
      | true =>
        refine iteT ⟨fun σ' H' => ∃ c4 : Cf, c4.σ = σ' ∧ c4.H = H' ∧ Ok n c4 ∧ OutS n W c4 (whB t f m c4.S) E, fun σ' H' hN => ⟨m, Nat.lt_succ_self m, hN⟩, c3, h2, rfl, k3, ?_⟩
        rw [h1]
        dsimp only at o2
        have o3 := o2.later s3
        cases q2 : f S1 with
        | nx S2 => rw [q2] at o3; exact fun c5 h7 s5 k5 => ⟨c5, rfl, rfl, k5, by rw [h7]; exact o3.later s5⟩
        | ct S2 => rw [q2] at o3; exact fun c5 h7 s5 k5 => ⟨c5, rfl, rfl, k5, by rw [h7]; exact o3.later s5⟩
        | bk S2 => rw [q2] at o3; exact o3
        | rt l S2 => rw [q2] at o3; exact o3
        | exc C fs S2 => rw [q2] at o3; exact o3
        | bad => rw [q2] at o3; exact o3
end Bv

/-! comprehensions -/
namespace Bv
open PySem PySem.Spec PyProof.Rows L2
variable {n : Nm} {W : WX} {X : Cx}
/-- nothing is raised within a block -/
def WF : WX := fun _ _ _ _ => False
def wipeS (s : S) : List Nat → S
  | [] => s
  | v :: vs => { wipeS s vs with sl := (wipeS s vs).sl.set v none }
theorem wipeS_len (s : S) : ∀ vs : List Nat, (wipeS s vs).sl.length = s.sl.length
  | [] => rfl
  | v :: vs => by
    show ((wipeS s vs).sl.set v none).length = _
    rw [List.length_set, wipeS_len s vs]
theorem wipeS_st (s : S) : ∀ vs : List Nat, (wipeS s vs).st = s.st
  | [] => rfl
  | v :: vs => wipeS_st s vs
theorem wipeS_some {s : S} {i : Nat} {x : L} : ∀ {vs : List Nat}, (wipeS s vs).sl[i]? = some (some x) → s.sl[i]? = some (some x) ∧ i ∉ vs
  | [], h => ⟨h, by simp⟩
  | v :: vs, h => by
    have h : ((wipeS s vs).sl.set v none)[i]? = some (some x) := h
    by_cases hi : v = i
    · subst hi
      rw [List.getElem?_set_self'] at h
      cases q : (wipeS s vs).sl[v]? with
      | none => rw [q] at h; cases h
      | some w => rw [q] at h; cases h
    · rw [List.getElem?_set_ne hi] at h
      obtain ⟨h1, h2⟩ := wipeS_some h
      exact ⟨h1, by simp only [List.mem_cons, not_or]; exact ⟨fun e => hi e.symm, h2⟩⟩
theorem wipe_get {σ : L2.St} {i : Nat} : ∀ {vs : List Nat}, i ∉ vs → (wipe σ vs)[i]? = σ[i]?
  | [], _ => rfl
  | v :: vs, h => by
    simp only [List.mem_cons, not_or] at h
    show ((wipe σ vs).set v none)[i]? = _
    rw [List.getElem?_set_ne (fun e => h.1 e.symm)]
    exact wipe_get h.2
/-- the block's own slots as they were ahead -/
def restS (s0 s : S) (vs : List Nat) : S := { s with sl := (List.range s.sl.length).map fun i => if i ∈ vs then (s0.sl[i]?).getD none else (s.sl[i]?).getD none }
theorem restS_len (s0 s : S) (vs : List Nat) : (restS s0 s vs).sl.length = s.sl.length := by
  show ((List.range s.sl.length).map _).length = _
  rw [List.length_map, List.length_range]
theorem restS_get {s0 s : S} {vs : List Nat} {i : Nat} {x : L} (h : (restS s0 s vs).sl[i]? = some (some x)) : (i ∈ vs ∧ s0.sl[i]? = some (some x)) ∨ (i ∉ vs ∧ s.sl[i]? = some (some x)) := by
  have h : ((List.range s.sl.length).map fun i => if i ∈ vs then (s0.sl[i]?).getD none else (s.sl[i]?).getD none)[i]? = some (some x) := h
  rw [List.getElem?_map] at h
  by_cases hl : i < s.sl.length
  · rw [List.getElem?_range hl] at h
    have h : (if i ∈ vs then (s0.sl[i]?).getD none else (s.sl[i]?).getD none) = some x := by simpa using h
    split at h
    · rename_i hi
      cases q : s0.sl[i]? with
      | none => rw [q] at h; cases h
      | some w => rw [q] at h; have h : w = some x := h; exact .inl ⟨hi, by rw [h]⟩
    · rename_i hi
      cases q : s.sl[i]? with
      | none => rw [q] at h; cases h
      | some w => rw [q] at h; have h : w = some x := h; exact .inr ⟨hi, by rw [h]⟩
  · rw [List.getElem?_eq_none (by rw [List.length_range]; omega)] at h
    cases h
/-- the block's configuration -/
def Cf.wipe (c : Cf) (vs : List Nat) : Cf := { c with S := wipeS c.S vs, σ := L2.wipe c.σ vs }
theorem own_wipe {c : Cf} {vs : List Nat} {a : Addr} (h : OwnA (c.wipe vs) a) : ∃ (i : Nat) (x : L), i ∉ vs ∧ c.S.sl[i]? = some (some x) ∧ x.own = true ∧ c.σ[i]? = some (some (V.ref a)) := by
  obtain ⟨i, x, h1, h2, h3⟩ := h
  obtain ⟨h4, h5⟩ := wipeS_some h1
  have h3 : (L2.wipe c.σ vs)[i]? = some (some (V.ref a)) := h3
  rw [wipe_get h5] at h3
  exact ⟨i, x, h5, h4, h2, h3⟩
theorem mut_wipe {c : Cf} {vs : List Nat} {a : Addr} (h : Mut (c.wipe vs) a) : Mut c a := by
  rcases h with h | h
  · obtain ⟨i, x, _, h1, h2, h3⟩ := own_wipe h
    exact .inl ⟨i, x, h1, h2, h3⟩
  · exact .inr h
theorem Ok.wipe {c : Cf} (k : Ok n c) (vs : List Nat) : Ok n (c.wipe vs) where
  len := by
    show (wipeS c.S vs).sl.length = (L2.wipe c.σ vs).length
    rw [wipeS_len, wipe_length, k.len]
  sub := k.sub
  sl := fun i x e => by
    obtain ⟨h1, h2⟩ := wipeS_some e
    obtain ⟨v, h3, h4⟩ := k.sl i x h1
    exact ⟨v, (wipe_get h2).trans h3, by cases x <;> exact h4⟩
  dist := fun i j x y a hij h1 h2 o1 o2 s1 s2 => by
    obtain ⟨a1, a2⟩ := wipeS_some h1
    obtain ⟨b1, b2⟩ := wipeS_some h2
    have s1 : (L2.wipe c.σ vs)[i]? = some (some (V.ref a)) := s1
    have s2 : (L2.wipe c.σ vs)[j]? = some (some (V.ref a)) := s2
    rw [wipe_get a2] at s1
    rw [wipe_get b2] at s2
    exact k.dist i j x y a hij a1 b1 o1 o2 s1 s2
  nd := k.nd
  slen := by show (wipeS c.S vs).st.length = _; rw [wipeS_st]; exact k.slen
  st := fun j o a h1 h2 => by
    have h1 : (wipeS c.S vs).st[j]? = some o := h1
    rw [wipeS_st] at h1
    have := k.st j o a h1 h2
    cases o <;> exact this
  fφ := k.fφ
/-- the turns of a comprehension -/
def lcB (vs : List Nat) (a : AS) (t : M Bool) (e : M D) : List D → List D → S → Res (List D)
  | [], acc, s => .ok acc s
  | d :: ds, acc, s => match a (.sh d) (wipeS s vs) with
    | none => .bad
    | some s1 => match t s1 with
      | .ok true s2 => (match e s2 with
        | .ok y s3 => if acc.length < lineN then lcB vs a t e ds (acc ++ [y]) s3 else .bad
        | _ => .bad)
      | .ok false s2 => lcB vs a t e ds acc s2
      | _ => .bad
def lcM (m : M (List D)) (vs : List Nat) (a : AS) (t : M Bool) (e : M D) : M L := fun s => match m s with
  | .ok ds s1 => (match lcB vs a t e ds [] (wipeS s1 vs) with
    | .ok ys s2 => .ok (.ol ys) (restS s1 s2 vs)
    | _ => .bad)
  | .exc C fs s1 => .exc C fs s1
  | .bad => .bad
/-- a turn's configuration: the list so far at d -/
structure LcI (n : Nm) (c1 : Cf) (vs : List Nat) (d : Addr) (acc : List D) (c : Cf) : Prop where
  ok : Ok n c
  st : Stp (c1.wipe vs) c
  sg : L2.wipe c.σ vs = L2.wipe c1.σ vs
  hd : ∃ ys, c.H d = some (.lst ys) ∧ IsL n c.F c.φ ys acc
  nf : c.F d = none
  nm : ¬ Mut c d
theorem LcI.step {c1 c c' : Cf} {vs : List Nat} {d : Addr} {acc : List D} (h : LcI n c1 vs d acc c) (s : Stp c c') (k : Ok n c') (e : L2.wipe c'.σ vs = L2.wipe c1.σ vs) : LcI n c1 vs d acc c' := by
  obtain ⟨ys, h1, h2⟩ := h.hd
  refine ⟨k, h.st.trans s, e, ⟨ys, s.H d _ h1 h.nm (fun _ z => by cases z), s.isL h2⟩, ?_, fun m => ?_⟩
  · cases q : c'.F d with
    | none => rfl
    | some u =>
      rcases s.new d (by rw [q]; simp) with z | z | z | ⟨xs, z⟩
      · exact absurd h.nf z
      · rw [h1] at z; cases z
      · exact absurd z h.nm
      · rw [s.H d _ h1 h.nm (fun _ z => by cases z)] at z; cases z
  · rcases s.mono d m with z | z
    · exact h.nm z
    · rw [h1] at z; cases z
/-- the list grows -/
theorem LcI.grow {c1 c : Cf} {vs : List Nat} {d : Addr} {acc : List D} {y : V} {e : D} {ys : List V} (h : LcI n c1 vs d acc c) (hd0 : c1.H d = none) (i : Is n c.F c.φ y e) (hh : c.H d = some (.lst ys)) : LcI n c1 vs d (acc ++ [e]) { c with H := upd c.H d (.lst (ys ++ [y])) } := by
  obtain ⟨zs, h1, h2⟩ := h.hd
  rw [hh] at h1; cases h1
  have ne : ∀ {b : Addr}, b ≠ d → upd c.H d (.lst (ys ++ [y])) b = c.H b := fun hb => upd_ne hb
  have keep : ∀ {b : Addr} {o : HO}, (∀ xs, o ≠ .lst xs) ∨ b ≠ d → c.H b = some o → upd c.H d (.lst (ys ++ [y])) b = some o := fun {b o} hb e => by
    by_cases z : b = d
    · subst z
      rcases hb with hb | hb
      · rw [hh] at e; exact absurd (Option.some.inj e).symm (hb ys)
      · exact absurd rfl hb
    · rw [ne z]; exact e
  refine ⟨⟨h.ok.len, fun b u e => ?_, fun j x e => ?_, h.ok.dist, h.ok.nd, h.ok.slen, fun j o a e1 e2 => ?_, h.ok.fφ⟩, ⟨h.st.F, fun b o e m t => ?_, fun b hb => (h.st.new b hb).imp_right fun z => z.imp_right fun z => z.imp_right fun ⟨xs, z⟩ => ⟨xs, keep (.inl fun _ q => by cases q) z⟩, h.st.mono, fun b e => ?_, h.st.φ, h.st.an⟩, h.sg, ⟨ys ++ [y], upd_same, h2.append (.cons i .nil)⟩, h.nf, h.nm⟩
  · have hb : b ≠ d := fun z => by
      subst z
      have := h.nf
      rw [e] at this; cases this
    show upd c.H d (.lst (ys ++ [y])) b = some u
    rw [ne hb]; exact h.ok.sub _ _ e
  · obtain ⟨v, h3, h4⟩ := h.ok.sl j x e
    refine ⟨v, h3, ?_⟩
    have hv : x.own = true → ∀ a, v = .ref a → a ≠ d := fun o a ea z => by
      subst z ea
      exact h.nm (.inl ⟨j, x, e, o, h3⟩)
    cases x with
    | sh w => exact h4
    | ol ds => obtain ⟨a, us, ea, h5, h6, h7, h8⟩ := h4; exact ⟨a, us, ea, keep (.inr (hv rfl a ea)) h5, h6, h7, h8⟩
    | od kvs =>
      obtain ⟨a, ea, h6, h7, ⟨us, h5, h8⟩ | ⟨us, h5, h8⟩⟩ := h4
      · exact ⟨a, ea, h6, h7, .inl ⟨us, keep (.inr (hv rfl a ea)) h5, h8⟩⟩
      · exact ⟨a, ea, h6, h7, .inr ⟨us, keep (.inr (hv rfl a ea)) h5, h8⟩⟩
    | oi b C fs => obtain ⟨a, C, dx, us, ea, hb, hC, h5, h6, h7, h8⟩ := h4; exact ⟨a, C, dx, us, ea, hb, hC, keep (.inr (hv rfl a ea)) h5, h6, h7, h8⟩
  · have z := h.ok.st j o a e1 e2
    cases o with
    | dic p => obtain ⟨lc, h3, h4⟩ := z; exact ⟨lc, keep (.inl fun _ q => by cases q) h3, h4⟩
    | inst C fs => obtain ⟨C, dx, us, h3, h4, h5⟩ := z; exact ⟨C, dx, us, h3, keep (.inl fun _ q => by cases q) h4, h5⟩
  · have hb : b ≠ d := fun z => by
      subst z
      have e : c1.H b = some o := e
      rw [hd0] at e; cases e
    show upd c.H d (.lst (ys ++ [y])) b = some o
    rw [ne hb]; exact h.st.H b o e m t
  · exact h.st.there b (upd_none' e).2
/-- behind the block -/
theorem LcI.rest {c1 c : Cf} {vs : List Nat} {d : Addr} {acc : List D} (h : LcI n c1 vs d acc c) (k1 : Ok n c1) (hd0 : c1.H d = none) : let c2 : Cf := { c with S := restS c1.S c.S vs, σ := c1.σ }; Ok n c2 ∧ Stp c1 c2 ∧ RV n c1 c2 (.ref d) (.ol acc) := by
  have σ_eq : ∀ (i : Nat), i ∉ vs → c.σ[i]? = c1.σ[i]? := fun i hi => by rw [← wipe_get (σ := c.σ) hi, h.sg, wipe_get hi]
  have lens : c.σ.length = c1.σ.length := by
    have z := congrArg List.length h.sg
    rw [wipe_length, wipe_length] at z
    exact z
  -- a hidden own object
  have hid : ∀ (i : Nat) (x : L), i ∈ vs → c1.S.sl[i]? = some (some x) → x.own = true → ∀ a : Addr, c1.σ[i]? = some (some (V.ref a)) → ¬ Mut (c1.wipe vs) a ∧ a ∉ c.φ ∧ ¬ Mut c a := fun i x hi e o a ea => by
    obtain ⟨v, e1, e2⟩ := k1.sl i x e
    rw [ea] at e1; cases e1
    obtain ⟨_, ee, hf, hφ, u, hu, _⟩ := e2.at o
    cases ee
    have m1 : ¬ Mut (c1.wipe vs) a := fun m => by
      rcases m with m | m
      · obtain ⟨j, y, hj, f1, f2, f3⟩ := own_wipe m
        exact k1.dist i j x y a (fun z => hj (z ▸ hi)) e f1 o f2 ea f3
      · exact hφ m
    have m2 : ¬ Mut c a := fun m => by
      rcases h.st.mono a m with z | z
      · exact m1 z
      · have z : c1.H a = none := z
        rw [hu] at z; cases z
    exact ⟨m1, fun m => m2 (.inr m), m2⟩
  have mutS : ∀ b, Mut { c with S := restS c1.S c.S vs, σ := c1.σ } b → Mut c1 b ∨ c1.H b = none := fun b m => by
    rcases m with ⟨i, x, e, o, s⟩ | m
    · have s : c1.σ[i]? = some (some (V.ref b)) := s
      rcases restS_get e with ⟨hi, e⟩ | ⟨hi, e⟩
      · exact .inl (.inl ⟨i, x, e, o, s⟩)
      · rcases h.st.mono b (.inl ⟨i, x, e, o, (σ_eq i hi).trans s⟩) with z | z
        · exact .inl (mut_wipe z)
        · exact .inr z
    · rcases h.st.mono b (.inr m) with z | z
      · exact .inl (mut_wipe z)
      · exact .inr z
  obtain ⟨ys, h1, h2⟩ := h.hd
  refine ⟨⟨?_, h.ok.sub, fun i x e => ?_, fun i j x y a hij e1 e2 o1 o2 s1 s2 => ?_, h.ok.nd, h.ok.slen, fun j o a e1 e2 => ?_, h.ok.fφ⟩, ⟨h.st.F, fun b o e m t => h.st.H b o e (fun z => m (mut_wipe z)) t, fun b e => ?_, mutS, h.st.there, h.st.φ, h.st.an⟩, ⟨⟨d, ys, rfl, h1, h.nf, fun m => h.nm (.inr m), h2⟩, fun _ a ea => ?_⟩⟩
  · show (restS c1.S c.S vs).sl.length = c1.σ.length
    rw [restS_len, h.ok.len, lens]
  · rcases restS_get e with ⟨hi, e⟩ | ⟨hi, e⟩
    · obtain ⟨v, e1, e2⟩ := k1.sl i x e
      refine ⟨v, e1, ?_⟩
      have e3 : OIs n (c1.wipe vs) v x := by cases x <;> exact e2
      have e4 := e3.step h.st fun o a ea => by
        subst ea
        obtain ⟨m1, m2, _⟩ := hid i x hi e o a e1
        exact ⟨m1, m2⟩
      cases x <;> exact e4
    · obtain ⟨v, e1, e2⟩ := h.ok.sl i x e
      exact ⟨v, (σ_eq i hi).symm.trans e1, by cases x <;> exact e2⟩
  · have s1 : c1.σ[i]? = some (some (V.ref a)) := s1
    have s2 : c1.σ[j]? = some (some (V.ref a)) := s2
    rcases restS_get e1 with ⟨hi, e1⟩ | ⟨hi, e1⟩
    · rcases restS_get e2 with ⟨hj, e2⟩ | ⟨hj, e2⟩
      · exact k1.dist i j x y a hij e1 e2 o1 o2 s1 s2
      · exact (hid i x hi e1 o1 a s1).2.2 (.inl ⟨j, y, e2, o2, (σ_eq j hj).trans s2⟩)
    · rcases restS_get e2 with ⟨hj, e2⟩ | ⟨hj, e2⟩
      · exact (hid j y hj e2 o2 a s2).2.2 (.inl ⟨i, x, e1, o1, (σ_eq i hi).trans s1⟩)
      · exact h.ok.dist i j x y a hij e1 e2 o1 o2 ((σ_eq i hi).trans s1) ((σ_eq j hj).trans s2)
  · have e1 : c.S.st[j]? = some o := e1
    have z := h.ok.st j o a e1 e2
    cases o <;> exact z
  · rcases h.st.new b e with z | z | z | z
    · exact .inl z
    · exact .inr (.inl z)
    · exact .inr (.inr (.inl (mut_wipe z)))
    · exact .inr (.inr (.inr z))
  · cases ea
    refine ⟨fun ⟨i, x, e, o, s⟩ => ?_, .inl hd0⟩
    have s : c1.σ[i]? = some (some (V.ref d)) := s
    rcases restS_get e with ⟨hi, e⟩ | ⟨hi, e⟩
    · obtain ⟨v, e1, e2⟩ := k1.sl i x e
      rw [s] at e1; cases e1
      obtain ⟨_, ee, _, _, u, hu, _⟩ := e2.at o
      cases ee
      rw [hd0] at hu; cases hu
    · exact h.nm (.inl ⟨i, x, e, o, (σ_eq i hi).trans s⟩)
theorem wipe_in {σ : L2.St} {i : Nat} : ∀ {vs : List Nat}, i ∈ vs → i < σ.length → (wipe σ vs)[i]? = some none
  | v :: vs, h, hl => by
    show ((wipe σ vs).set v none)[i]? = _
    by_cases e : v = i
    · subst e
      rw [List.getElem?_set_self (by rw [wipe_length]; exact hl)]
    · rw [List.getElem?_set_ne e]
      exact wipe_in ((List.mem_cons.mp h).resolve_left (fun z => e z.symm)) hl
theorem wipe_agr {σ σ' : L2.St} {ix vs : List Nat} (a : Agr ix σ σ') (h : ∀ i ∈ ix, i ∈ vs) : wipe σ' vs = wipe σ vs := by
  apply List.ext_getElem?
  intro i
  by_cases hi : i ∈ vs
  · by_cases hl : i < σ.length
    · rw [wipe_in hi (by rw [a.len]; exact hl), wipe_in hi hl]
    · rw [List.getElem?_eq_none (by rw [wipe_length, a.len]; omega), List.getElem?_eq_none (by rw [wipe_length]; omega)]
  · rw [wipe_get hi, wipe_get hi]
    exact a.get i (fun z => hi (h i z))
theorem wipe_wipe {σ : L2.St} (vs : List Nat) : wipe (wipe σ vs) vs = wipe σ vs := by
  apply List.ext_getElem?
  intro i
  by_cases hi : i ∈ vs
  · by_cases hl : i < σ.length
    · rw [wipe_in hi (by rw [wipe_length]; exact hl), wipe_in hi hl]
    · rw [List.getElem?_eq_none (by rw [wipe_length, wipe_length]; omega), List.getElem?_eq_none (by rw [wipe_length]; omega)]
  · rw [wipe_get hi]
theorem Stp.wiped {c : Cf} (vs : List Nat) : Stp c (c.wipe vs) := ⟨Sub.refl _, fun _ _ h _ _ => h, fun _ h => .inl h, fun _ h => .inl (mut_wipe h), fun _ h => h, ⟨[], by simp [Cf.wipe]⟩, rfl⟩
theorem Stp.of_wiped {c c' : Cf} {vs : List Nat} (s : Stp (c.wipe vs) c') : Stp c c' := (Stp.wiped vs).trans s
/-- the reading of a comprehension -/
theorem lc_read {m : M (List D)} {vs ix : List Nat} {a : AS} {t : M Bool} {e : M D} (hix : ∀ i ∈ ix, i ∈ vs) {σ : L2.St} {H : Hp} {Q : VK} (o : tO n W (lcM m vs a t e) σ H Q) : tLc (tI n W m) (tG n ix a) (tT n WF t) (tX n WF e) vs σ H Q := by
  obtain ⟨c, rfl, rfl, k, o⟩ := o
  refine ⟨c, rfl, rfl, k, ?_⟩
  unfold lcM at o
  cases q : m c.S with
  | bad => rw [q] at o; exact o
  | exc C fs S1 => rw [q] at o; exact o
  | ok ds S1 =>
    rw [q] at o
    dsimp only at o
    intro J c1 h1 h2 s1 k1 w1 D hD
    cases q1 : lcB vs a t e ds [] (wipeS S1 vs) with
    | bad => rw [q1] at o; exact o.elim
    | exc C fs S2 => rw [q1] at o; exact o.elim
    | ok ys0 S2 =>
      rw [q1] at o
      dsimp only at o
      -- the first configuration
      have kw := k1.wipe (n := n) vs
      obtain ⟨ka, sa, na, nf, no⟩ := kw.alloc (o := .lst []) (show (c1.wipe vs).H D = none from hD)
      have I0 : LcI n c1 vs D [] { c1.wipe vs with H := upd c1.H D (.lst []) } := ⟨ka, sa, wipe_wipe vs, ⟨[], upd_same, .nil⟩, nf, fun mm => by
        rcases mm with mm | mm
        · exact no mm
        · exact na mm⟩
      refine ⟨fun i m H => m = ds.length - i ∧ i ≤ ds.length ∧ ∃ (c2 : Cf) (acc : List Bv.D), c2.H = H ∧ LcI n c1 vs D acc c2 ∧ lcB vs a t e (ds.drop i) acc c2.S = .ok ys0 S2, ⟨ds.length, by simp, Nat.zero_le _, _, _, rfl, I0, by rw [List.drop_zero, ← q1, ← h1]; rfl⟩, ?_⟩
      rintro i m H ⟨rfl, hi, c2, acc, rfl, I2, e2⟩
      have I2w : LcI n c1 vs D acc (c2.wipe vs) := I2.step (Stp.wiped vs) (I2.ok.wipe vs) ((wipe_wipe vs).trans I2.sg)
      have fw : ∀ {c3 : Cf}, LcI n c1 vs D acc c3 → Fwd c1 c3 := fun I => ⟨I.st.F, I.st.φ⟩
      by_cases hlt : i < ds.length
      · refine .inr ⟨w1.go i c2 hlt I2.ok (fw I2), fun H' => ∃ (c4 : Cf) (acc' : List Bv.D), c4.H = H' ∧ LcI n c1 vs D acc' c4 ∧ lcB vs a t e (ds.drop (i + 1)) acc' c4.S = .ok ys0 S2, fun H' hN => ⟨ds.length - (i + 1), by omega, rfl, hlt, hN⟩, fun x H' y => ?_⟩
        obtain ⟨c3, d, f1, f2, rfl, s3, k3, f4, f5⟩ := w1.yld i (c2.wipe vs) x H' hlt I2w.ok (fw I2w) y
        have hd : ds.drop i = d :: ds.drop (i + 1) := by
          rw [List.getElem?_eq_getElem hlt] at f4
          rw [List.drop_eq_getElem_cons hlt]
          rw [Option.some.inj f4]
        rw [hd] at e2
        unfold lcB at e2
        have f1 : c3.S = wipeS c2.S vs := f1
        have f2 : c3.σ = L2.wipe c2.σ vs := f2
        have I3 : LcI n c1 vs D acc c3 := I2w.step s3 k3 (by rw [f2, wipe_wipe, I2.sg])
        rw [← f1] at e2
        cases q3 : a (.sh d) c3.S with
        | none => rw [q3] at e2; cases e2
        | some S3 =>
          rw [q3] at e2
          dsimp only at e2
          have eσ : c3.σ = L2.wipe c.σ vs := by rw [f2, I2.sg, h2]
          refine ⟨c3, c3, .sh d, eσ, rfl, Stp.refl c3, k3, ⟨OIs.sh f5, fun z => by cases z⟩, S3, q3, fun c4 g1 s4 k4 g4 => ?_⟩
          have w4 : L2.wipe c4.σ vs = L2.wipe c3.σ vs := wipe_agr g4 hix
          have w4' : L2.wipe c4.σ vs = L2.wipe c.σ vs := by rw [w4, eσ, wipe_wipe]
          have I4 : LcI n c1 vs D acc c4 := I3.step s4 k4 (by rw [w4', h2])
          refine ⟨w4', c4, rfl, rfl, k4, ?_⟩
          rw [g1]
          cases q4 : t S3 with
          | bad => rw [q4] at e2; cases e2
          | exc C fs S4 => rw [q4] at e2; cases e2
          | ok b S4 =>
            rw [q4] at e2
            intro v c5 g5 g6 s5 k5 g7
            have g7 : v = b := g7
            subst g7
            have I5 : LcI n c1 vs D acc c5 := I4.step s5 k5 (by rw [g6, w4', h2])
            cases v with
            | false =>
              dsimp only at e2
              exact iteF ⟨c5, acc, rfl, I5, by rw [g5]; exact e2⟩
            | true =>
              dsimp only at e2
              refine iteT ⟨c5, g6, rfl, k5, ?_⟩
              rw [g5]
              cases q5 : e S4 with
              | bad => rw [q5] at e2; cases e2
              | exc C fs S5 => rw [q5] at e2; cases e2
              | ok y5 S5 =>
                rw [q5] at e2
                dsimp only at e2
                intro v c6 j1 j2 s6 k6 j3
                have I6 : LcI n c1 vs D acc c6 := I5.step s6 k6 (by rw [j2, g6, w4', h2])
                obtain ⟨zs, z1, z2⟩ := I6.hd
                split at e2
                · rename_i hz
                  exact ⟨zs, z1, by rw [z2.length, lineN_eq]; exact hz, { c6 with H := upd c6.H D (.lst (zs ++ [v])) }, acc ++ [y5], rfl, I6.grow hD j3 z1, by rw [← e2, ← j1]⟩
                · cases e2
      · have e : i = ds.length := by omega
        subst e
        rw [List.drop_length] at e2
        unfold lcB at e2
        have ea : acc = ys0 := by injection e2
        have es : c2.S = S2 := by injection e2
        subst ea es
        obtain ⟨kr, sr, rr⟩ := I2.rest k1 hD
        refine .inl ⟨w1.stop c2 I2.ok (fw I2), ?_⟩
        have z := o.later trO s1 h2
        exact z (.ref D) { c2 with S := restS c1.S c2.S vs, σ := c1.σ } (by rw [h1]) rfl sr kr rr
end Bv

/-! own objects changed; defs by their bodies -/
namespace Bv
open PySem PySem.Spec PyProof.Rows L2
variable {n : Nm} {W : WX} {X : Cx}
/-- shared at once, where the name is never changed -/
def fzM (b : Bool) (m : M L) : M L := if b then m else sM (dM m)
theorem fz_ok {b : Bool} {f : M L} {σ : L2.St} {H : Hp} {Q : VK} (o : tO n W (fzM b f) σ H Q) : tO n W f σ H Q := by
  cases b with
  | true => exact o
  | false =>
    obtain ⟨c, e1, e2, k, o⟩ := o
    refine ⟨c, e1, e2, k, ?_⟩
    have o : Out n W (RV n) c (M.bind (M.bind f (fun x => pure x.d)) (fun d => pure (.sh d)) c.S) Q := o
    unfold M.bind at o
    cases q : f c.S with
    | ok x S' =>
      rw [q] at o
      exact fun v c' h1 h2 s k' r => by
        obtain ⟨F', s2, k2, i2⟩ := OIs.freeze k' s r
        exact o v { c' with F := F' } h1 h2 s2 k2 ⟨OIs.sh i2, fun o => by cases o⟩
    | exc C fs S' => rw [q] at o; exact o
    | bad => rw [q] at o; exact o
theorem be_fz {b : Bool} {e : Expr} {f : M L} (h : PE X e (tO n W f)) : PE X e (tO n W (fzM b f)) := h.imp fun _ _ _ o => fz_ok o
/-! ### comprehensions as expressions and statements -/
def yesM : M Bool := pure true
theorem bts_nil : PTs X [] (tT n W yesM) := ⟨fun pins s σ H Q I ⟨c, e1, e2, k, o⟩ => by
  subst e1 e2
  exact pts_nil.run pins s c.σ c.H Q I (show Q true c.H from o.fin k rfl)⟩
section
variable {elt tg iter : Expr} {ifs : List Expr} {scope : Scope} {own : List (Str × Nat)} {pos : Pos} {m : M (List D)} {a : AS} {ix : List Nat} {t : M Bool} {e : M D}
theorem be_lc (hc : X.calm = true) (hN : X.N.Nodup) (hi : PI X tg iter (tI n W m)) (ok : BlkOk X.N X.env.scope scope own) (hix : ∀ i ∈ ix, i ∈ own.map (·.2))
    (hg : ∀ (s : Shared) (H : Hp) (C : Addr) (cl : List (Str × Addr)) (fp : List Addr), PG (X.blk s H scope (compEnvC scope cl C X.env) fp) tg (tG n ix a))
    (ht : ∀ (s : Shared) (H : Hp) (C : Addr) (cl : List (Str × Addr)) (fp : List Addr), PTs (X.blk s H scope (compEnvC scope cl C X.env) fp) ifs (tT n WF t))
    (he : ∀ (s : Shared) (H : Hp) (C : Addr) (cl : List (Str × Addr)) (fp : List Addr), PE (X.blk s H scope (compEnvC scope cl C X.env) fp) elt (tX n WF e)) (hs : ∀ x, foldedSetIterable iter X.env x = pure x) :
    PE X (.ListComp elt [⟨tg, iter, ifs, 0⟩] scope pos) (tO n W (lcM m (own.map (·.2)) a t e)) := (pe_lc hc hN hi ok hg ht he hs).imp fun _ _ _ o => lc_read hix o
theorem bs_setLc {fb : Bool} {i : Nat} {y : Str} {py spos : Pos} (hc : X.calm = true) (hN : X.N.Nodup) (hy : X.N[i]? = some y) (hyl : X.env.scope.names.lookup y = some .local)
    (hsw : swapsWith (.ListComp elt [⟨tg, iter, ifs, 0⟩] scope pos) (some (.Name y py)) spos.line X.env = pure true) (hi : PI X tg iter (tI n W m)) (ok : BlkOk X.N X.env.scope scope own) (hix : ∀ i ∈ ix, i ∈ own.map (·.2))
    (hg : ∀ (s : Shared) (H : Hp) (C : Addr) (cl : List (Str × Addr)) (fp : List Addr), PG (X.blk s H scope (compEnvC scope cl C X.env) fp) tg (tG n ix a))
    (ht : ∀ (s : Shared) (H : Hp) (C : Addr) (cl : List (Str × Addr)) (fp : List Addr), PTs (X.blk s H scope (compEnvC scope cl C X.env) fp) ifs (tT n WF t))
    (he : ∀ (s : Shared) (H : Hp) (C : Addr) (cl : List (Str × Addr)) (fp : List Addr), PE (X.blk s H scope (compEnvC scope cl C X.env) fp) elt (tX n WF e)) (hs : ∀ x, foldedSetIterable iter X.env x = pure x) :
    PS X (.Assign [.Name y py] (.ListComp elt [⟨tg, iter, ifs, 0⟩] scope pos) spos) (tS n W (agS (fzM fb (lcM m (own.map (·.2)) a t e)) (asN i))) := (ps_setLc hc hN hy hyl hsw hi ok hg ht he hs).imp fun E σ H ⟨c, e1, e2, k, o⟩ => by
  subst e1 e2
  have z : tO n W (fzM fb (lcM m (own.map (·.2)) a t e)) c.σ c.H (fun v H' => gName i v c.σ H' E.nx) := ⟨c, rfl, rfl, k, Out.imp (o.asg (ix := [i])) fun v H' q => by
    obtain ⟨c0, c1, l, h1, h2, s, k1, r, S', h3, q⟩ := q
    cases h3
    obtain ⟨k2, s2⟩ := k1.put (i := i) s r
    have z := q { c1 with S := { c1.S with sl := c1.S.sl.set i (some l) }, σ := c1.σ.set i (some v) } rfl s2 k2 ⟨List.length_set, fun j hj => List.getElem?_set_ne (fun z => hj (by simp [z]))⟩
    show E.nx (c.σ.set i (some v)) H'
    rw [← h1, ← h2]
    exact z⟩
  exact lc_read hix (fz_ok z)
end
/-! ### an own list changed -/
theorem Ok.setOwn {c : Cf} {i : Nat} {x y : L} {a : Addr} {o : HO} (k : Ok n c) (e : c.S.sl[i]? = some (some x)) (ox : x.own = true) (oy : y.own = true) (ea : c.σ[i]? = some (some (V.ref a)))
    (hy : OIs n { c with H := upd c.H a o } (.ref a) y) : let c' : Cf := { c with S := { c.S with sl := c.S.sl.set i (some y) }, H := upd c.H a o }; Ok n c' ∧ Stp c c' := by
  obtain ⟨v, h1, h2⟩ := k.sl i x e
  rw [ea] at h1; cases h1
  obtain ⟨_, ee, hf, hφ, u, hu, _⟩ := h2.at ox
  cases ee
  have old : ∀ (j : Nat) (z : L), (c.S.sl.set i (some y))[j]? = some (some z) → (j = i ∧ z = y) ∨ (j ≠ i ∧ c.S.sl[j]? = some (some z)) := fun j z q => by
    by_cases hij : i = j
    · subst hij
      rw [List.getElem?_set_self', e] at q
      have q : some y = some z := by simpa using q
      exact .inl ⟨rfl, (Option.some.inj q).symm⟩
    · rw [List.getElem?_set_ne hij] at q
      exact .inr ⟨fun z => hij z.symm, q⟩
  have ne : ∀ {b : Addr}, b ≠ a → upd c.H a o b = c.H b := fun hb => upd_ne hb
  have mutS : ∀ b, Mut { c with S := { c.S with sl := c.S.sl.set i (some y) }, H := upd c.H a o } b → Mut c b := fun b m => by
    rcases m with ⟨j, z, q1, q2, q3⟩ | m
    · rcases old j z q1 with ⟨rfl, rfl⟩ | ⟨_, q1⟩
      · exact .inl ⟨_, x, e, ox, q3⟩
      · exact .inl ⟨j, z, q1, q2, q3⟩
    · exact .inr m
  refine ⟨⟨by simp [k.len], fun b w q => ?_, fun j z q => ?_, fun j l z w b hjl q1 q2 o1 o2 s1 s2 => ?_, k.nd, k.slen, fun j m b q1 q2 => ?_, k.fφ⟩, ⟨Sub.refl _, fun b w q m t => ?_, fun b q => .inl q, fun b m => .inl (mutS b m), fun b q => (upd_none' q).2, ⟨[], by simp⟩, rfl⟩⟩
  · have hb : b ≠ a := fun z => by subst z; rw [hf] at q; cases q
    show upd c.H a o b = some w
    rw [ne hb]; exact k.sub _ _ q
  · rcases old j z q with ⟨rfl, rfl⟩ | ⟨hj, q0⟩
    · exact ⟨_, ea, by cases z <;> exact hy⟩
    · obtain ⟨v, q1, q2⟩ := k.sl j z q0
      refine ⟨v, q1, ?_⟩
      have hv : z.own = true → ∀ b, v = .ref b → b ≠ a := fun oz b eb z' => by
        subst z' eb
        exact k.dist j i z x b hj q0 e oz ox q1 ea
      cases z with
      | sh w => exact q2
      | ol ds => obtain ⟨b, us, eb, h5, h6, h7, h8⟩ := q2; exact ⟨b, us, eb, (ne (hv rfl b eb)).trans h5, h6, h7, h8⟩
      | od kvs =>
        obtain ⟨b, eb, h6, h7, ⟨us, h5, h8⟩ | ⟨us, h5, h8⟩⟩ := q2
        · exact ⟨b, eb, h6, h7, .inl ⟨us, (ne (hv rfl b eb)).trans h5, h8⟩⟩
        · exact ⟨b, eb, h6, h7, .inr ⟨us, (ne (hv rfl b eb)).trans h5, h8⟩⟩
      | oi b0 C fs => obtain ⟨b, C, dx, us, eb, hb, hC, h5, h6, h7, h8⟩ := q2; exact ⟨b, C, dx, us, eb, hb, hC, (ne (hv rfl b eb)).trans h5, h6, h7, h8⟩
  · have s1 : c.σ[j]? = some (some (V.ref b)) := s1
    have s2 : c.σ[l]? = some (some (V.ref b)) := s2
    rcases old j z q1 with ⟨rfl, rfl⟩ | ⟨hj, r1⟩
    · rcases old l w q2 with ⟨rfl, _⟩ | ⟨hl, r2⟩
      · exact hjl rfl
      · exact k.dist _ l x w b hjl e r2 ox o2 s1 s2
    · rcases old l w q2 with ⟨rfl, rfl⟩ | ⟨hl, r2⟩
      · exact k.dist j _ z x b hjl r1 e o1 ox s1 s2
      · exact k.dist j l z w b hjl r1 r2 o1 o2 s1 s2
  · have z := k.st j m b q1 q2
    have hb : b ≠ a := fun z => by
      subst z
      exact hφ (List.mem_of_getElem? q2)
    cases m with
    | dic p => obtain ⟨lc, h3, h4⟩ := z; exact ⟨lc, (ne hb).trans h3, h4⟩
    | inst C fs => obtain ⟨C, dx, us, h3, h4, h5⟩ := z; exact ⟨C, dx, us, h3, (ne hb).trans h4, h5⟩
  · have hb : b ≠ a := fun z => by
      subst z
      exact m (.inl ⟨i, x, e, ox, ea⟩)
    show upd c.H a o b = some w
    rw [ne hb]; exact q
def chkL (i : Nat) : M Unit := fun s => match s.sl[i]? with
  | some (some (.ol _)) => .ok () s
  | _ => .bad
theorem chkL_some {c : Cf} {i : Nat} {α γ : Type} {k : M α} {P : Cf → Cf → γ → α → Prop} {Q : γ → Hp → Prop} (o : Out n W P c ((chkL i >>= fun _ => k) c.S) Q) : ∃ ds, c.S.sl[i]? = some (some (.ol ds)) ∧ Out n W P c (k c.S) Q := by
  have o : Out n W P c (M.bind (chkL i) (fun _ => k) c.S) Q := o
  unfold M.bind chkL at o
  cases e : c.S.sl[i]? with
  | none => rw [e] at o; exact o.not_bad
  | some y =>
    cases y with
    | none => rw [e] at o; exact o.not_bad
    | some y =>
      cases y with
      | ol ds => rw [e] at o; exact ⟨ds, rfl, o⟩
      | _ => rw [e] at o; exact o.not_bad
def appN (i : Nat) (d : D) : M L := fun s => match s.sl[i]? with
  | some (some (.ol ds)) => if ds.length < lineN then .ok (.sh .non) { s with sl := s.sl.set i (some (.ol (ds ++ [d]))) } else .bad
  | _ => .bad
def appM (i : Nat) (f : M D) : M L := do chkL i; let d ← f; appN i d
section
variable {e : Expr} {x : Str} {p1 apos cpos : Pos} {i : Nat} {f : M D}
theorem be_append (hN : X.N[i]? = some x) (hv : Vis X.env.scope x) (hd : (x == ("__debug__" : Str)) = false) (hcd : (x == ("__classdict__" : Str)) = false) (he : PE X e (tX n W f))
    (hfew : ((backTo cpos (starEach (e :: []) X.env)).all (fun x => !x.1) && (backToKw cpos (keywordEach [] X.env)).all (fun x => x.1.isSome) && decide ((e :: []).length + ([] : List Keyword).length + (if ([] : List Keyword).isEmpty then 0 else 1) < 30)) = true)
    (hline : (apos.endLine == cpos.line) = true) (hs : starEach (e :: []) X.env = (false, eval e X.env) :: starEach [] X.env) : PE X (.Call (.Attribute (.Name x p1) "append" apos) [e] [] cpos) (tO n W (appM i f)) :=
  (pe_bm PySem.F.plainAttrs_list PySem.F.slot_list_append PySem.F.type_list_append mt_append (pe_var hN hv hd hcd) (pa_cons he pa_nil hs) rfl hfew hline hs rfl).imp fun σ H Q ⟨c, e1, e2, k, o⟩ => by
    subst e1 e2
    obtain ⟨ds, h1, o⟩ := chkL_some o
    obtain ⟨v, h2, a, vs, rfl, h3, h4, h5, h6⟩ := k.sl i _ h1
    refine ⟨.ref a, h2, .inl ⟨rfl, vs, .of h3⟩, c, rfl, rfl, k, Out.bind (P1 := PX n) trO o fun y c1 d e1 s1 k1 i1 o1 => ?_⟩
    unfold appN at o1
    cases q : c1.S.sl[i]? with
    | none => rw [q] at o1; exact o1.not_bad
    | some z =>
      rw [q] at o1
      cases z with
      | none => exact o1.not_bad
      | some z =>
        cases z with
        | ol es =>
          dsimp only at o1
          split at o1
          · rename_i hz
            obtain ⟨v1, g1, a1, vs1, rfl, g3, g4, g5, g6⟩ := k1.sl i _ q
            rw [e1, h2] at g1
            cases g1
            have hi : IsL n c1.F c1.φ (vs1 ++ [y]) (es ++ [d]) := g6.append (.cons i1 .nil)
            obtain ⟨k2, s2⟩ := k1.setOwn (y := .ol (es ++ [d])) (o := .lst (vs1 ++ [y])) q rfl rfl (by rw [e1]; exact h2) ⟨a, _, rfl, upd_same, g4, g5, hi⟩
            refine ⟨a, vs1, y, rfl, rfl, g3, by rw [g6.length, lineN_eq]; exact hz, ?_⟩
            exact o1 .non { c1 with S := { c1.S with sl := c1.S.sl.set i (some (.ol (es ++ [d]))) }, H := upd c1.H a (.lst (vs1 ++ [y])) } rfl rfl s2 k2 ⟨.non, fun z => by cases z⟩
          · exact o1.not_bad
        | _ => exact o1.not_bad
end
/-! ### a field of an own instance stored -/
def putD (f : Str) (v : D) : List (Str × D) → List (Str × D)
  | [] => [(f, v)]
  | (g, x) :: r => if g = f then (g, v) :: r else (g, x) :: putD f v r
theorem IsF.put {F : Hp} {φ : List Addr} {f : Str} {v : V} {d : D} (h : Is n F φ v d) : ∀ {vs : List (Str × V)} {ds : List (Str × D)}, IsF n F φ vs ds → IsF n F φ (putF f v vs) (putD f d ds)
  | _, _, .nil => .cons h .nil
  | _, _, .cons (f := g) q t => by
    unfold putF putD
    split
    · exact .cons h t
    · exact .cons q (IsF.put h t)
def stN (i : Nat) (f : Str) (d : D) : MS := fun s => match s.sl[i]? with
  | some (some (.oi b C fs)) => if fs.length < 1000 then .nx { s with sl := s.sl.set i (some (.oi b C (putD f d fs))) } else .bad
  | _ => .bad
def stS (i : Nat) (f : Str) (m : M D) : MS := thS m fun d => stN i f d
theorem bs_fld {e : Expr} {x f : Str} {p1 pos pos' : Pos} {i : Nat} {m : M D} (hN : X.N[i]? = some x) (hv : Vis X.env.scope x) (hd : (x == ("__debug__" : Str)) = false) (hcd : (x == ("__classdict__" : Str)) = false) (he : PE X e (tX n W m)) (hf : NoAt n f) (hK : X.K = n.K)
    (hs : swapsWith e (some (.Attribute (.Name x p1) f pos')) pos.line X.env = pure false) : PS X (.Assign [.Attribute (.Name x p1) f pos'] e pos) (tS n W (stS i f m)) := (ps_fld (pe_var hN hv hd hcd) he hs).imp fun E σ H ⟨c, e1, e2, k, o⟩ => by
  subst e1 e2
  refine ⟨c, rfl, rfl, k, OutS.bind o fun y c1 d e1 s1 k1 i1 o1 => ?_⟩
  unfold stN at o1
  cases q : c1.S.sl[i]? with
  | none => rw [q] at o1; exact o1.elim
  | some z =>
    rw [q] at o1
    cases z with
    | none => exact o1.elim
    | some z =>
      cases z with
      | oi b C fs =>
        dsimp only at o1
        split at o1
        · rename_i hz
          obtain ⟨v1, g1, a1, C1, dx, vs1, rfl, hb, hC, g3, g4, g5, g6⟩ := k1.sl i _ q
          obtain ⟨k2, s2⟩ := k1.setOwn (y := .oi b C (putD f d fs)) (o := .ins C1 dx (putF f y vs1)) q rfl rfl g1 ⟨a1, C1, dx, _, rfl, hb, hC, upd_same, g4, g5, IsF.put i1 g6⟩
          refine ⟨.ref a1, by rw [← e1]; exact g1, a1, C1, dx, vs1, rfl, g3, by rw [hK]; exact (hf _ _ hC).1.cl, by rw [hK]; exact (hf _ _ hC).2, by rw [g6.length]; exact hz, ?_⟩
          rw [← e1]
          exact o1 { c1 with S := { c1.S with sl := c1.S.sl.set i (some (.oi b C (putD f d fs))) }, H := upd c1.H a1 (.ins C1 dx (putF f y vs1)) } rfl s2 k2
        · exact o1.elim
      | _ => exact o1.elim
/-! ### a def by its body -/
def initS (N : List Str) (ds : List D) (st : List MO) : S := ⟨ds.map (fun d => some (.sh d)) ++ List.replicate (N.length - ds.length) none, st⟩
def runF (N : List Str) (f : MS) : FnS := fun ds s => match f (initS N ds s.st) with
  | .rt x s' => .ok x s'
  | .nx s' => .ok (.sh .non) s'
  | .exc C fs s' => .exc C fs s'
  | _ => .bad
section
variable {P : Program} {w : World} {K : PySem.W.Frag} {mg : Str → Option Value} {base : Heap}
theorem start_ok {c : Cf} {vs : List V} {ds : List D} {N : List Str} (k : Ok n c) (h1 : c.σ = []) (h2 : c.S.sl = []) (i : IsL n c.F c.φ vs ds) : Ok n { c with S := initS N ds c.S.st, σ := L2.start N vs } ∧ Stp c { c with S := initS N ds c.S.st, σ := L2.start N vs } := by
  have get : ∀ (j : Nat) (x : L), (initS N ds c.S.st).sl[j]? = some (some x) → ∃ d, x = .sh d ∧ ds[j]? = some d := fun j x e => by
    have e : (ds.map (fun d => some (L.sh d)) ++ List.replicate (N.length - ds.length) none)[j]? = some (some x) := e
    by_cases hl : j < ds.length
    · rw [List.getElem?_append_left (by rw [List.length_map]; exact hl), List.getElem?_map, List.getElem?_eq_getElem hl] at e
      have e : some (L.sh ds[j]) = some x := by simpa using e
      exact ⟨ds[j], (Option.some.inj e).symm, List.getElem?_eq_getElem hl⟩
    · rw [List.getElem?_append_right (by rw [List.length_map]; omega), List.getElem?_replicate] at e
      split at e <;> cases e
  refine ⟨⟨?_, k.sub, fun j x e => ?_, fun j l x y a _ e1 e2 o1 => ?_, k.nd, k.slen, fun j o a e1 e2 => ?_, k.fφ⟩, ⟨Sub.refl _, fun _ _ h _ _ => h, fun _ h => .inl h, fun b m => ?_, fun _ h => h, ⟨[], by simp⟩, rfl⟩⟩
  · show (ds.map (fun d => some (L.sh d)) ++ List.replicate (N.length - ds.length) none).length = (L2.start N vs).length
    unfold L2.start
    rw [List.length_append, List.length_append, List.length_map, List.length_map, List.length_replicate, List.length_replicate, i.length]
  · obtain ⟨d, rfl, e0⟩ := get j x e
    obtain ⟨v, h3, h4⟩ := i.get e0
    refine ⟨v, ?_, h4⟩
    show (L2.start N vs)[j]? = some (some v)
    unfold L2.start
    have hl : j < vs.length := (List.getElem?_eq_some_iff.mp h3).1
    rw [List.getElem?_append_left (by rw [List.length_map]; exact hl), List.getElem?_map, h3]
    rfl
  · obtain ⟨d, rfl, _⟩ := get j x e1
    cases o1
  · have e1 : c.S.st[j]? = some o := e1
    have z := k.st j o a e1 e2
    cases o <;> exact z
  · rcases m with ⟨j, x, e, o, _⟩ | m
    · obtain ⟨d, rfl, _⟩ := get j x e
      cases o
    · exact .inl (.inr m)
theorem mut_nil {c : Cf} (h : c.S.sl = []) {a : Addr} (m : Mut c a) : a ∈ c.φ := by
  rcases m with ⟨i, x, e, _⟩ | m
  · rw [h] at e; simp at e
  · exact m
/-- behind a body: no slots -/
theorem Ok.strip {c : Cf} (k : Ok n c) : Ok n c.bare ∧ Stp c c.bare := ⟨k.bare, Sub.refl _, fun _ _ h _ _ => h, fun _ h => .inl h, fun b m => .inl (.inr (mut_bare m)), fun _ h => h, ⟨[], by simp [Cf.bare]⟩, rfl⟩
theorem fn_body {x qual : Str} {st : Stmt} {f : Addr} {fd : FuncData} {N ps : List Str} {k : Nat} {fb : MS} (F : Fun K x qual st f fd) (SC : FnScope N ps (defScope st))
    (hb : ∀ (cdv : Value) (A : Around) (outer : List Env) (s : Shared) (H : Hp) (E : XK), Room k (A.deeper (envOfC qual (defScope st) s.heap.objs.size f cdv)) → PSs (cxOf (L2.CX P w) P w K mg base N qual (defScope st) f cdv A outer s H E) (defBody st) (tS n (fun cls d _ H => E cls d H) fb)) :
    FnOk P w K mg base (L2.CX P w) (k + 1) f fd ps (spB n ps.length (runF N fb)) := by
  refine F.okX SC (fun vs H Q E h => ?_) (fun cdv A outer s H vs Q E hr h => ?_)
  · obtain ⟨c, ds, _, _, _, _, _, hl, _⟩ := h
    exact hl
  · obtain ⟨c, ds, rfl, h1, h2, kc, i, hl, o⟩ := h
    obtain ⟨k1, s1⟩ := start_ok (N := N) kc h1 h2 i
    refine ⟨_, hb cdv A outer s c.H E hr, { c with S := initS N ds c.S.st, σ := L2.start N vs }, rfl, rfl, k1, ?_⟩
    unfold runF at o
    have eS : c.S = ⟨[], c.S.st⟩ := by rw [← h2]
    cases q : fb (initS N ds c.S.st) with
    | nx S' =>
      rw [q] at o
      intro c' e1 s' k'
      obtain ⟨k2, s2⟩ := k'.strip
      exact o .non c'.bare (by rw [← e1]; rfl) rfl ((s1.trans s').trans s2) k2 .non (fun z => by cases z)
    | rt l S' =>
      rw [q] at o
      intro v c' e1 s' k' r
      obtain ⟨k2, s2⟩ := k'.strip
      refine o v c'.bare (by rw [← e1]; rfl) rfl ((s1.trans s').trans s2) k2 (by have := r.is; cases l <;> exact this) fun ox a ea => ?_
      obtain ⟨_, r2⟩ := r.own ox a ea
      rcases r2 with z | z
      · exact s1.there a z
      · rcases s1.mono a z with z | z
        · obtain ⟨_, ee, _, hn, _⟩ := r.is.at ox
          rw [ea] at ee; cases ee
          have m := mut_nil h2 z
          obtain ⟨ψ, hψ⟩ := s'.φ
          exact absurd (by rw [hψ]; exact List.mem_append_left _ m) hn
        · exact z
    | exc C fs S' =>
      rw [q] at o
      intro Ca d c' e1 s' k' hC hx
      obtain ⟨k2, s2⟩ := k'.strip
      exact o Ca d c'.bare (by rw [← e1]; rfl) rfl ((s1.trans s').trans s2) k2 hC hx
    | bk S' => rw [q] at o; exact o.elim
    | ct S' => rw [q] at o; exact o.elim
    | bad => rw [q] at o; exact o
end
end Bv

/-! instances made; isinstance; several targets at once -/
namespace Bv
open PySem PySem.Spec PyProof.Rows L2
variable {n : Nm} {W : WX} {X : Cx}
/-- an __init__ by value: the fields behind it -/
abbrev FnI := List D → S → Res (List (Str × D))
def OutI (n : Nm) (x : Addr) (cn : Str) (c : Cf) (r : Res (List (Str × D))) (Q : VK) (E : XK) : Prop := match r with
  | .ok fs S' => ∀ c', c'.S = ⟨[some (.oi true cn fs)], S'.st⟩ → c'.σ = [some (.ref x)] → Stp c c' → Ok n c' → Q .non c'.H
  | .exc C fs S' => ∀ (Ca : Addr) (d : Option Addr) (c' : Cf), c'.S = ⟨[], S'.st⟩ → c'.σ = [] → Stp c c' → Ok n c' → n.cA C = some Ca → XD n c' d fs → E (.ref Ca) d c'.H
  | .bad => False
def spI (n : Nm) (cn : Str) (m : Nat) (f : FnI) : Sp := fun vs H Q E => ∃ (c : Cf) (x : Addr) (ws : List V) (ds : List D), c.H = H ∧ c.σ = [some (.ref x)] ∧ c.S.sl = [some (.oi true cn [])] ∧ c.an = x ∧ Ok n c ∧ vs = .ref x :: ws ∧ IsL n c.F c.φ ws ds ∧ ws.length = m ∧ OutI n x cn c (f ds ⟨[], c.S.st⟩) Q E
def initI (N : List Str) (cn : Str) (ds : List D) (st : List MO) : S := ⟨some (.oi true cn []) :: (ds.map (fun d => some (.sh d)) ++ List.replicate (N.length - (ds.length + 1)) none), st⟩
def runI (N : List Str) (cn : Str) (f : MS) : FnI := fun ds s => match f (initI N cn ds s.st) with
  | .nx s' => (match (s'.sl[0]? : Option (Option L)) with
    | some (some (.oi true cn' fs)) => if cn' = cn then .ok fs s' else .bad
    | _ => .bad)
  | .exc C fs s' => .exc C fs s'
  | _ => .bad
theorem startI_ok {c : Cf} {x : Addr} {cn : Str} {vs : List V} {ds : List D} {N : List Str} (k : Ok n c) (h1 : c.σ = [some (.ref x)]) (h2 : c.S.sl = [some (.oi true cn [])]) (i : IsL n c.F c.φ vs ds) : Ok n { c with S := initI N cn ds c.S.st, σ := L2.start N (.ref x :: vs) } ∧ Stp c { c with S := initI N cn ds c.S.st, σ := L2.start N (.ref x :: vs) } := by
  have hs0 : c.S.sl[0]? = some (some (.oi true cn [])) := by rw [h2]; rfl
  have hv0 : c.σ[0]? = some (some (V.ref x)) := by rw [h1]; rfl
  have get : ∀ (j : Nat) (y : L), (initI N cn ds c.S.st).sl[j]? = some (some y) → (j = 0 ∧ y = .oi true cn []) ∨ ∃ d m, j = m + 1 ∧ y = .sh d ∧ ds[m]? = some d := fun j y e => by
    cases j with
    | zero =>
      have e : some (some (L.oi true cn [])) = some (some y) := e
      exact .inl ⟨rfl, (Option.some.inj (Option.some.inj e)).symm⟩
    | succ j =>
      have e : (ds.map (fun d => some (L.sh d)) ++ List.replicate (N.length - (ds.length + 1)) none)[j]? = some (some y) := e
      by_cases hl : j < ds.length
      · rw [List.getElem?_append_left (by rw [List.length_map]; exact hl), List.getElem?_map, List.getElem?_eq_getElem hl] at e
        have e : some (L.sh ds[j]) = some y := by simpa using e
        exact .inr ⟨ds[j], j, rfl, (Option.some.inj e).symm, List.getElem?_eq_getElem hl⟩
      · rw [List.getElem?_append_right (by rw [List.length_map]; omega), List.getElem?_replicate] at e
        split at e <;> cases e
  have st0 : (L2.start N (.ref x :: vs))[0]? = some (some (V.ref x)) := by
    unfold L2.start
    rw [List.getElem?_append_left (by simp)]
    rfl
  have stS : ∀ (m : Nat) (v : V), vs[m]? = some v → (L2.start N (.ref x :: vs))[m + 1]? = some (some v) := fun m v e => by
    unfold L2.start
    have hl : m < vs.length := (List.getElem?_eq_some_iff.mp e).1
    rw [List.getElem?_append_left (by simp; omega), List.getElem?_map]
    show ((V.ref x :: vs)[m + 1]?).map some = _
    rw [List.getElem?_cons_succ, e]
    rfl
  refine ⟨⟨?_, k.sub, fun j y e => ?_, fun j l y z a hj e1 e2 o1 o2 s1 s2 => ?_, k.nd, k.slen, fun j o a e1 e2 => ?_, k.fφ⟩, ⟨Sub.refl _, fun _ _ h _ _ => h, fun _ h => .inl h, fun b m => ?_, fun _ h => h, ⟨[], by simp⟩, rfl⟩⟩
  · show (some (L.oi true cn []) :: (ds.map (fun d => some (L.sh d)) ++ List.replicate (N.length - (ds.length + 1)) none)).length = (L2.start N (.ref x :: vs)).length
    unfold L2.start
    simp only [List.length_cons, List.length_append, List.length_map, List.length_replicate, i.length]
    omega
  · rcases get j y e with ⟨rfl, rfl⟩ | ⟨d, m, rfl, rfl, e0⟩
    · obtain ⟨v, h3, h4⟩ := k.sl 0 _ hs0
      rw [hv0] at h3
      cases h3
      exact ⟨_, st0, h4⟩
    · obtain ⟨v, h3, h4⟩ := i.get e0
      exact ⟨v, stS m v h3, h4⟩
  · rcases get j y e1 with ⟨rfl, rfl⟩ | ⟨d, m, rfl, rfl, _⟩
    · rcases get l z e2 with ⟨rfl, rfl⟩ | ⟨d, m, rfl, rfl, _⟩
      · exact hj rfl
      · cases o2
    · cases o1
  · have e1 : c.S.st[j]? = some o := e1
    have z := k.st j o a e1 e2
    cases o <;> exact z
  · rcases m with ⟨j, y, e, o, s⟩ | m
    · rcases get j y e with ⟨rfl, rfl⟩ | ⟨d, m, rfl, rfl, _⟩
      · have s : (L2.start N (.ref x :: vs))[0]? = some (some (V.ref b)) := s
        rw [st0] at s
        cases s
        exact .inl (.inl ⟨0, _, hs0, rfl, hv0⟩)
      · cases o
    · exact .inl (.inr m)
/-- behind an __init__'s body: the instance alone -/
theorem Ok.self {c c' : Cf} {x : Addr} {cn : Str} {fs : List (Str × D)} (k : Ok n c') (s : Stp c c') (han : c.an = x) (e : c'.S.sl[0]? = some (some (.oi true cn fs))) :
    Ok n { c' with S := ⟨[some (.oi true cn fs)], c'.S.st⟩, σ := [some (.ref x)] } ∧ Stp c' { c' with S := ⟨[some (.oi true cn fs)], c'.S.st⟩, σ := [some (.ref x)] } := by
  obtain ⟨v, h1, a, C, dx, vs, rfl, hb, hC, g1, g2, g3, g4⟩ := k.sl 0 _ e
  have ea : a = x := (hb rfl).trans (s.an.trans han)
  subst ea
  have get : ∀ (j : Nat) (y : L), ([some (L.oi true cn fs)] : List (Option L))[j]? = some (some y) → j = 0 ∧ y = .oi true cn fs := fun j y q => by
    cases j with
    | zero =>
      have q : some (some (L.oi true cn fs)) = some (some y) := q
      exact ⟨rfl, (Option.some.inj (Option.some.inj q)).symm⟩
    | succ j => simp at q
  refine ⟨⟨rfl, k.sub, fun j y q => ?_, fun j l y z b hj e1 e2 _ _ _ _ => ?_, k.nd, k.slen, fun j o b e1 e2 => ?_, k.fφ⟩, ⟨Sub.refl _, fun _ _ h _ _ => h, fun _ h => .inl h, fun b m => ?_, fun _ h => h, ⟨[], by simp⟩, rfl⟩⟩
  · obtain ⟨rfl, rfl⟩ := get j y q
    exact ⟨.ref a, rfl, a, C, dx, vs, rfl, hb, hC, g1, g2, g3, g4⟩
  · obtain ⟨rfl, _⟩ := get j y e1
    obtain ⟨rfl, _⟩ := get l z e2
    exact hj rfl
  · have z := k.st j o b e1 e2
    cases o <;> exact z
  · rcases m with ⟨j, y, q1, q2, q3⟩ | m
    · obtain ⟨rfl, rfl⟩ := get j y q1
      have q3 : some (some (V.ref a)) = some (some (V.ref b)) := q3
      have q4 : a = b := V.ref.inj (Option.some.inj (Option.some.inj q3))
      subst q4
      exact .inl (.inl ⟨0, _, e, rfl, h1⟩)
    · exact .inl (.inr m)
section
variable {P : Program} {w : World} {K : PySem.W.Frag} {mg : Str → Option Value} {base : Heap}
theorem init_body {x qual cn : Str} {st : Stmt} {f : Addr} {fd : FuncData} {N ps : List Str} {k : Nat} {fb : MS} (m : Nat) (hm : ps.length = m + 1) (F : Fun K x qual st f fd) (SC : FnScope N ps (defScope st))
    (hb : ∀ (cdv : Value) (A : Around) (outer : List Env) (s : Shared) (H : Hp) (E : XK), Room k (A.deeper (envOfC qual (defScope st) s.heap.objs.size f cdv)) → PSs (cxOf (L2.CX P w) P w K mg base N qual (defScope st) f cdv A outer s H E) (defBody st) (tS n (fun cls d _ H => E cls d H) fb)) :
    FnOk P w K mg base (L2.CX P w) (k + 1) f fd ps (spI n cn m (runI N cn fb)) := by
  refine F.okX SC (fun vs H Q E h => ?_) (fun cdv A outer s H vs Q E hr h => ?_)
  · obtain ⟨c, y, ws, ds, _, _, _, _, _, rfl, _, hl, _⟩ := h
    rw [List.length_cons, hl, hm]
  · obtain ⟨c, y, ws, ds, rfl, h1, h2, han, kc, rfl, i, hl, o⟩ := h
    obtain ⟨k1, s1⟩ := startI_ok (N := N) kc h1 h2 i
    refine ⟨_, hb cdv A outer s c.H E hr, { c with S := initI N cn ds c.S.st, σ := L2.start N (.ref y :: ws) }, rfl, rfl, k1, ?_⟩
    unfold runI at o
    dsimp only at o
    cases q : fb (initI N cn ds c.S.st) with
    | nx S' =>
      rw [q] at o
      dsimp only at o
      cases q1 : S'.sl[0]? with
      | none => rw [q1] at o; exact o.elim
      | some z =>
        rw [q1] at o
        cases z with
        | none => exact o.elim
        | some z =>
          cases z with
          | oi b cn' fs =>
            cases b with
            | false => exact o.elim
            | true =>
              dsimp only at o
              by_cases hc : cn' = cn
              · subst hc
                rw [if_pos rfl] at o
                intro c' e1 s' k'
                obtain ⟨k2, s2⟩ := Ok.self (n := n) (c := c) k' (s1.trans s') han (by rw [e1]; exact q1)
                exact o { c' with S := ⟨[some (.oi true cn' fs)], c'.S.st⟩, σ := [some (.ref y)] } (by rw [e1]) rfl ((s1.trans s').trans s2) k2
              · rw [if_neg hc] at o; exact o.elim
          | _ => exact o.elim
    | exc C fs S' =>
      rw [q] at o
      intro Ca d c' e1 s' k' hC hx
      obtain ⟨k2, s2⟩ := k'.strip
      exact o Ca d c'.bare (by rw [← e1]; rfl) rfl ((s1.trans s').trans s2) k2 hC hx
    | rt l S' => rw [q] at o; exact o.elim
    | bk S' => rw [q] at o; exact o.elim
    | ct S' => rw [q] at o; exact o.elim
    | bad => rw [q] at o; exact o.elim
end
/-! ### C(..) -/
def makeM (cn : Str) (m : Nat) (f : FnI) (ds : List D) : M L := fun s => if ds.length = m then (match f ds ⟨[], s.st⟩ with
  | .ok fs s' => .ok (.oi false cn fs) ⟨s.sl, s'.st⟩
  | .exc C fs s' => .exc C fs ⟨s.sl, s'.st⟩
  | .bad => .bad) else .bad
theorem Stp.anch {c c' : Cf} (s : Stp c c') (a : Addr) : Stp { c with an := a } { c' with an := a } := ⟨s.F, fun b o h m t => s.H b o h (fun z => m (by
    rcases z with ⟨i, x, e1, e2, e3⟩ | z
    · exact .inl ⟨i, x, e1, e2, e3⟩
    · exact .inr z)) t, fun b h => by
    rcases s.new b h with z | z | z | z
    · exact .inl z
    · exact .inr (.inl z)
    · exact .inr (.inr (.inl (by
        rcases z with ⟨i, x, e1, e2, e3⟩ | z
        · exact .inl ⟨i, x, e1, e2, e3⟩
        · exact .inr z)))
    · exact .inr (.inr (.inr z)), fun b h => by
    rcases s.mono b (by
        rcases h with ⟨i, x, e1, e2, e3⟩ | z
        · exact .inl ⟨i, x, e1, e2, e3⟩
        · exact .inr z) with z | z
    · exact .inl (by
        rcases z with ⟨i, x, e1, e2, e3⟩ | z
        · exact .inl ⟨i, x, e1, e2, e3⟩
        · exact .inr z)
    · exact .inr z, s.there, s.φ, rfl⟩
theorem Ok.anchB {c : Cf} (k : Ok n c) (h : c.S.sl = []) (a : Addr) : Ok n { c with an := a } := ⟨k.len, k.sub, fun i x e => by
    have e : c.S.sl[i]? = some (some x) := e
    rw [h] at e; simp at e, fun i j x y b _ e => by
    have e : c.S.sl[i]? = some (some x) := e
    rw [h] at e; simp at e, k.nd, k.slen, fun j o b e1 e2 => by
    have z := k.st j o b e1 e2
    cases o <;> exact z, k.fφ⟩
theorem make_ok {f : FnI} {m : Nat} {cn : Str} {c : Cf} {vs : List V} {ds : List D} {C x dx : Addr} {Q : VK} {E : XK} (hC : n.cA cn = some C) (hE : ∀ cls d H, W cls d c.σ H → E cls d H) (k : Ok n c) (i : IsL n c.F c.φ vs ds) (hx : c.H x = none) (hdx : c.H dx = none) (hne : dx ≠ x)
    (o : Out n W (RV n) c (makeM cn m f ds c.S) Q) : spI n cn m f (.ref x :: vs) (upd (upd c.H dx (.own x)) x (.ins C dx [])) (fun v H2 => v = .non ∧ Q (.ref x) H2) E := by
  unfold makeM at o
  split at o
  case isFalse => exact o.not_bad
  rename_i hl
  -- the bare configuration with the two new objects
  obtain ⟨ka, sa, na1, na2, na3⟩ := k.bare.alloc (o := .own x) (show c.bare.H dx = none from hdx)
  obtain ⟨kb, sb, nb1, nb2, nb3⟩ := ka.alloc (p := x) (o := .ins C dx []) (show upd c.H dx (.own x) x = none by rw [upd_ne (fun z => hne z.symm)]; exact hx)
  have k2 : Ok n { c with S := ⟨[some (.oi true cn [])], c.S.st⟩, σ := [some (.ref x)], H := upd (upd c.H dx (.own x)) x (.ins C dx []), an := x } := by
    have get : ∀ (j : Nat) (y : L), ([some (L.oi true cn [])] : List (Option L))[j]? = some (some y) → j = 0 ∧ y = .oi true cn [] := fun j y q => by
      cases j with
      | zero =>
        have q : some (some (L.oi true cn [])) = some (some y) := q
        exact ⟨rfl, (Option.some.inj (Option.some.inj q)).symm⟩
      | succ j => simp at q
    refine ⟨rfl, kb.sub, fun j y q => ?_, fun j l y z b hj e1 e2 _ _ _ _ => ?_, kb.nd, kb.slen, fun j o b e1 e2 => ?_, kb.fφ⟩
    · obtain ⟨rfl, rfl⟩ := get j y q
      exact ⟨.ref x, rfl, x, C, dx, [], rfl, fun _ => rfl, hC, upd_same, nb2, nb1, .nil⟩
    · obtain ⟨rfl, _⟩ := get j y e1
      obtain ⟨rfl, _⟩ := get l z e2
      exact hj rfl
    · have z := kb.st j o b e1 e2
      cases o <;> exact z
  refine ⟨{ c with S := ⟨[some (.oi true cn [])], c.S.st⟩, σ := [some (.ref x)], H := upd (upd c.H dx (.own x)) x (.ins C dx []), an := x }, x, vs, ds, rfl, rfl, rfl, rfl, k2, rfl, i, by rw [i.length]; exact hl, ?_⟩
  have s2 : Stp c.bare { c with S := ⟨[some (.oi true cn [])], c.S.st⟩, σ := [some (.ref x)], H := upd (upd c.H dx (.own x)) x (.ins C dx []) } := by
    have s := sa.trans sb
    refine ⟨s.F, s.H, s.new, fun b m => ?_, s.there, s.φ, rfl⟩
    rcases m with ⟨j, y, q1, q2, q3⟩ | m
    · cases j with
      | zero =>
        have q3 : some (some (V.ref x)) = some (some (V.ref b)) := q3
        have q4 : x = b := V.ref.inj (Option.some.inj (Option.some.inj q3))
        subst q4
        exact .inr hx
      | succ j =>
        have q1 : ([some (L.oi true cn [])] : List (Option L))[j + 1]? = some (some y) := q1
        simp at q1
    · exact .inl (.inr m)
  show OutI n x cn _ (f ds ⟨[], c.S.st⟩) _ _
  cases q : f ds ⟨[], c.S.st⟩ with
  | bad => rw [q] at o; exact o
  | ok fs S' =>
    rw [q] at o
    intro c' e1 e2 s' k'
    refine ⟨rfl, ?_⟩
    obtain ⟨kc, sc⟩ := k'.strip
    have s3 : Stp c.bare { c'.bare with an := c.an } := s2.trans ((s'.trans sc).anch c.an)
    have k3 : Ok n { c'.bare with an := c.an } := kc.anchB rfl c.an
    obtain ⟨k4, s4⟩ := k.back (st := S'.st) s3 k3 (by show Cf.S c'.bare = _; unfold Cf.bare; rw [e1])
    obtain ⟨v, g1, a, C1, dx1, ws, rfl, gb, gC, g2, g3, g4, g5⟩ := k'.sl 0 (.oi true cn fs) (by rw [e1]; rfl)
    have ea : a = x := by rw [e2] at g1; exact (V.ref.inj (Option.some.inj (Option.some.inj g1))).symm
    subst ea
    refine o.to (c' := { c' with S := ⟨c.S.sl, S'.st⟩, σ := c.σ, an := c.an }) rfl rfl s4 k4 ⟨⟨a, C1, dx1, ws, rfl, (fun z => absurd z Bool.false_ne_true), gC, g2, g3, g4, g5⟩, fun _ b eb => ?_⟩
    cases eb
    refine ⟨fun ⟨j, y, a1, a2, a3⟩ => ?_, .inl hx⟩
    obtain ⟨w, b1, b2⟩ := k.sl j y a1
    have a3 : c.σ[j]? = some (some (V.ref a)) := a3
    rw [a3] at b1; cases b1
    obtain ⟨_, ee, _, _, u, hu, _⟩ := b2.at a2
    cases ee
    rw [hx] at hu; cases hu
  | exc C0 fs S' =>
    rw [q] at o
    intro Ca d c' e1 e2 s' k' hCa hXD
    have s3 : Stp c.bare { c' with an := c.an } := s2.trans (s'.anch c.an)
    have k3 : Ok n { c' with an := c.an } := k'.anchB (by rw [e1]) c.an
    obtain ⟨k4, s4⟩ := k.back (st := S'.st) s3 k3 e1
    exact hE _ _ _ (o Ca d { c' with S := ⟨c.S.sl, S'.st⟩, σ := c.σ, an := c.an } rfl rfl s4 k4 hCa hXD)
theorem be_make {x : Str} {p pos : Pos} {e : Expr} {es : List Expr} {fs : M (List D)} {f : FnI} {k m : Nat} {a C : Addr} {fd : FuncData} {ps : List Str} (tk : Takes X W) (hW : ∀ cls d σ σ' H, W cls d σ H → W cls d σ' H) (MK : Mk X.K C a)
    (F : FnOk X.prog X.w X.K X.mg X.base (L2.CX X.prog X.w) k a fd ps (spI n x m f)) (hr : Room (k + 1) X.A) (hC : n.cA x = some C) (hg : Gl X x) (hm : X.mg x = some (.ref C))
    (hb : Binds X.K fd ps []) (ha : PA X (e :: es) (tA n W fs)) (hdb : (x == ("__debug__" : Str)) = false) (he : starEach (e :: es) X.env = (false, eval e X.env) :: starEach es X.env) (hpl : (backTo pos (starEach es X.env)).any (·.1) = false) :
    PE X (.Call (.Name x p) (e :: es) [] pos) (tO n W (fnM fs (makeM x m f))) :=
  (pe_make (E := fun cls d H => W cls d [] H) MK F hr hg hm hb .nil (passes_call tk fun cls d σ H h => hW _ _ _ _ _ h) ha hdb he hpl).imp fun σ H Q ⟨c, e1, e2, kc, o⟩ => by
    subst e1 e2
    refine ⟨c, rfl, rfl, kc, Out.bind (P1 := PL n) trO o fun vs c1 ds e1 s1 k1 i1 o1 => ?_⟩
    intro y dx hy hdx hne
    rw [List.append_nil]
    exact make_ok hC (fun cls d H h => hW _ _ _ _ _ h) k1 i1 hy hdx hne o1
end Bv

/-! isinstance; comparisons of borrowed values; several targets at once -/
namespace Bv
open PySem PySem.Spec PyProof.Rows L2
variable {n : Nm} {W : WX} {X : Cx}
/-! ### isinstance -/
/-- the type of a value -/
inductive Ty where
  | b (s : String) | c (x : Str)
  deriving DecidableEq
def tyD : D → Option Ty
  | .non => some (.b "NoneType")
  | .bl _ => some (.b "bool")
  | .int _ => some (.b "int")
  | .str _ => some (.b "str")
  | .lst _ => some (.b "list")
  | .tup _ => some (.b "tuple")
  | .dic _ => some (.b "dict")
  | .inst x _ => some (.c x)
  | _ => none
def Ty.val (n : Nm) : Ty → Option Value
  | .b s => some (.type s)
  | .c x => (n.cA x).map Value.ref
def ClsAll (n : Nm) : Prop := ∀ x C, n.cA x = some C → ClsI n.K C
theorem SqT.ty {K : PySem.W.Frag} {H : Hp} {a : Addr} {xs : List V} (h : SqT K H a xs) : TyX K H (.ref a) (.type "tuple") := by
  rcases h with (h | ⟨o, h⟩) | ⟨o, its, m, h1, h2, _⟩
  · exact .base (.tup h)
  · exact .fTuple h
  · exact .kTuple h1 h2
theorem OIs.ty {c : Cf} {v : V} {l : L} {t : Ty} {u : Value} (hA : ClsAll n) (k : Ok n c) (h : OIs n c v l) (e : tyD l.d = some t) (e2 : t.val n = some u) : TyX n.K c.H v u := by
  cases q : l.d with
  | non => rw [q] at e; cases e; cases e2; cases h.plain q (fun _ _ _ _ => ⟨by simp, by simp, by simp⟩); exact .base .non
  | bl b => rw [q] at e; cases e; cases e2; rw [h.bl q]; exact .base (.bl _)
  | int b => rw [q] at e; cases e; cases e2; rw [h.int q]; exact .base (.int _)
  | str b => rw [q] at e; cases e; cases e2; rw [h.str q]; exact .base (.str _)
  | lst ds => rw [q] at e; cases e; cases e2; obtain ⟨a, vs, rfl, h1, _⟩ := h.lst k q; exact .base (.lst h1)
  | tup ds => rw [q] at e; cases e; cases e2; obtain ⟨a, vs, rfl, h1, _⟩ := h.tup k q; exact SqT.ty h1
  | dic kvs =>
    rw [q] at e; cases e; cases e2
    obtain ⟨a, rfl, ⟨vs, h1, _⟩ | ⟨vs, h1, _⟩⟩ := h.dic k q
    · exact .base (.dK h1)
    · exact .base (.dT h1)
  | inst x fs =>
    rw [q] at e; cases e
    have key : ∀ {a C dx : Addr} {vs : List (Str × V)}, n.cA x = some C → c.H a = some (.ins C dx vs) → TyX n.K c.H (.ref a) u := fun {a C dx vs} h1 h2 => by
      have e2 : (n.cA x).map Value.ref = some u := e2
      rw [h1] at e2
      cases e2
      obtain ⟨c1, c2, c3, c4, c5⟩ := hA x C h1
      exact .base (.ins h2 c1 c2 c3 c4 c5)
    cases l with
    | sh d =>
      have q : d = .inst x fs := q
      subst q
      have h : Is n c.F c.φ v (.inst x fs) := h
      cases h with
      | inst h1 h2 _ => exact key h1 (k.sub _ _ h2)
    | oi b y gs =>
      have q : D.inst y gs = .inst x fs := q
      cases q
      obtain ⟨a, C, dx, vs, rfl, _, hC, h1, _⟩ := h
      exact key hC h1
    | ol ds => cases q
    | od ds => cases q
  | _ => rw [q] at e; cases e
theorem OIs.subH {c : Cf} {v : V} {l : L} {H' : Hp} (h2 : OIs n c v l) (hs : Sub c.H H') : OIs n { c with H := H' } v l := by
  cases l with
  | sh d => exact h2
  | ol ds => obtain ⟨a, vs, e1, h3, h4, h5, h6⟩ := h2; exact ⟨a, vs, e1, hs _ _ h3, h4, h5, h6⟩
  | od kvs =>
    obtain ⟨a, e1, h4, h5, ⟨vs, h3, h6⟩ | ⟨vs, h3, h6⟩⟩ := h2
    · exact ⟨a, e1, h4, h5, .inl ⟨vs, hs _ _ h3, h6⟩⟩
    · exact ⟨a, e1, h4, h5, .inr ⟨vs, hs _ _ h3, h6⟩⟩
  | oi b C fs => obtain ⟨a, C, dx, vs, e1, hb, hC, h3, h4, h5, h6⟩ := h2; exact ⟨a, C, dx, vs, e1, hb, hC, hs _ _ h3, h4, h5, h6⟩
/-- a known type has its value -/
theorem OIs.tyAt {c : Cf} {v : V} {l : L} {t : Ty} (h : OIs n c v l) (q : tyD l.d = some t) : ∃ u, t.val n = some u := by
  cases t with
  | b s => exact ⟨_, rfl⟩
  | c y =>
    cases l with
    | sh d =>
      cases d <;> cases q
      have h : Is n c.F c.φ v (.inst y _) := h
      cases h with
      | inst h1 _ _ => exact ⟨.ref _, show (n.cA y).map Value.ref = _ by rw [h1]; rfl⟩
    | oi b z gs =>
      cases q
      obtain ⟨_, _, _, _, _, _, hC, _⟩ := h
      exact ⟨.ref _, show (n.cA y).map Value.ref = _ by rw [hC]; rfl⟩
    | ol ds => cases q
    | od ds => cases q
/-- what is told of a type and the classes asked -/
def Asks (n : Nm) (u : List Value) (g : Ty → Option Bool) : Prop := ∀ t b v, g t = some b → t.val n = some v → PySem.W.kitAny n.K v u = some b
def isiW (g : Ty → Option Bool) (l : L) : M L := match (tyD l.d).bind g with
  | some b => pure (.sh (.bl b))
  | none => bad
theorem kit1 {K : PySem.W.Frag} {t u : Value} {b : Bool} (h : PySem.W.kitAny K t [u] = some b) : PySem.W.kitOne K t u = some b := by
  unfold PySem.W.kitAny at h
  split at h
  · rename_i e; rw [e]; exact h
  · rename_i e; rw [e]; exact h
  · cases h
section
variable {e c : Expr} {cv : V} {u : Value} {f : M L} {g : Ty → Option Bool} {p pos : Pos}
/-- one class -/
theorem be_isi (hA : ClsAll n) (hK : X.K = n.K) (he : PE X e (tW n W f)) (hc : PE X c (tC cv)) (hcv : ClsV cv u) (ha : Asks n [u] g) (hg : Gl X "isinstance") (hm : X.mg "isinstance" = none)
    (h1 : starEach (e :: [c]) X.env = (false, eval e X.env) :: starEach [c] X.env) (h2 : starEach (c :: []) X.env = (false, eval c X.env) :: starEach [] X.env) (hpl : (backTo pos (starEach [c] X.env)).any (·.1) = false) :
    PE X (.Call (.Name "isinstance" p) [e, c] [] pos) (tO n W (thM f (isiW g))) :=
  (pe_callB call_isi hg hm boot_isinstance (pa_cons he (pa_cons hc pa_nil h2) h1) (by decide) (by decide) h1 hpl).imp fun σ H Q ⟨c, e1, e2, k, o⟩ => by
    subst e1 e2
    refine ⟨c, rfl, rfl, k, Out.bind (P1 := PB n) trO o fun x c1 l e1 s1 k1 i1 o1 => ?_⟩
    unfold isiW at o1
    cases q : tyD l.d with
    | none => rw [q] at o1; exact o1.not_bad
    | some t =>
      rw [q] at o1
      cases q2 : g t with
      | none => rw [show (some t).bind g = g t from rfl, q2] at o1; exact o1.not_bad
      | some b =>
        rw [show (some t).bind g = g t from rfl, q2] at o1
        obtain ⟨v, q3⟩ := OIs.tyAt i1 q
        exact ⟨x, cv, v, u, b, rfl, hcv, by rw [hK]; exact OIs.ty hA k1 i1 q q3, by rw [hK]; exact kit1 (ha t b v q2 q3), o1.sh k1 (.bl _)⟩
/-- a tuple of classes -/
theorem be_isiT {cs : List Expr} {cvs : List V} {us : List Value} {kk : Nat} {p2 : Pos} (hA : ClsAll n) (hK : X.K = n.K) (he : PE X e (tW n W f)) (hc : PA X cs (fun _ H Q => Q cvs H)) (hcv : Paired ClsV cvs us) (hl : cvs.length ≤ sizeLine) (ha : Asks n us g) (hg : Gl X "isinstance") (hm : X.mg "isinstance" = none)
    (h1 : starEach (e :: [.Tuple cs kk p2]) X.env = (false, eval e X.env) :: starEach [.Tuple cs kk p2] X.env) :
    PE X (.Call (.Name "isinstance" p) [e, .Tuple cs kk p2] [] pos) (tO n W (thM f (isiW g))) :=
  (pe_callB call_isiT hg hm boot_isinstance (pa_cons he (pa_cons (pe_tup hc) pa_nil rfl) h1) (by decide) (by decide) h1 rfl).imp fun σ H Q ⟨c, e1, e2, k, o⟩ => by
    subst e1 e2
    refine ⟨c, rfl, rfl, k, Out.bind (P1 := PB n) trO o fun x c1 l e1 s1 k1 i1 o1 => ?_⟩
    refine ⟨hl, fun tp htp => ?_⟩
    obtain ⟨k2, s2, na, nf, no⟩ := k1.alloc (o := .tup cvs) htp
    have i2 : OIs n { c1 with H := upd c1.H tp (.tup cvs) } x l := OIs.subH i1 (sub_upd htp)
    have o2 := Out.later trO o1 s2 rfl
    unfold isiW at o2
    cases q : tyD l.d with
    | none => rw [q] at o2; exact o2.not_bad
    | some t =>
      rw [q] at o2
      cases q2 : g t with
      | none => rw [show (some t).bind g = g t from rfl, q2] at o2; exact o2.not_bad
      | some b =>
        rw [show (some t).bind g = g t from rfl, q2] at o2
        obtain ⟨v, q3⟩ := OIs.tyAt i2 q
        exact ⟨x, tp, cvs, v, us, b, rfl, upd_same, hcv, by rw [hK]; exact OIs.ty hA k2 i2 q q3, by rw [hK]; exact ha t b v q2 q3, o2.sh k2 (.bl _)⟩
end
end Bv

/-! two or three names at once -/
namespace Bv
open PySem PySem.Spec PyProof.Rows L2
variable {n : Nm} {W : WX} {X : Cx}
/-- an own value that nothing holds yet stays so -/
theorem RV.safe {c0 c1 c2 : Cf} {v : V} {l : L} (r : RV n c0 c1 v l) (s : Stp c1 c2) (o : l.own = true) {a : Addr} (ea : v = .ref a) : ¬ Mut c1 a ∧ ¬ Mut c2 a := by
  obtain ⟨h1, h2⟩ := r.own o a ea
  obtain ⟨_, ee, hf, hφ, u, hu, _⟩ := r.is.at o
  rw [ea] at ee; cases ee
  have m1 : ¬ Mut c1 a := fun m => by
    rcases m with m | m
    · exact h1 m
    · exact hφ m
  refine ⟨m1, fun m => ?_⟩
  rcases s.mono a m with z | z
  · exact m1 z
  · rw [hu] at z; cases z
theorem RV.step {c0 c1 c2 : Cf} {v : V} {l : L} (r : RV n c0 c1 v l) (s : Stp c1 c2) : RV n c0 c2 v l := by
  refine ⟨OIs.step r.is s fun o a ea => ?_, fun o a ea => ?_⟩
  · obtain ⟨m1, m2⟩ := r.safe s o ea
    exact ⟨m1, fun z => m2 (.inr z)⟩
  · obtain ⟨m1, m2⟩ := r.safe s o ea
    exact ⟨fun z => m2 (.inl z), (r.own o a ea).2⟩
/-- beside another one that is put into a slot -/
theorem RV.beside {c0 c : Cf} {v w : V} {l m : L} {i : Nat} (r : RV n c0 c v l) (h : l.own = true → m.own = true → ∀ a b, v = .ref a → w = .ref b → a ≠ b) : RV n c0 { c with S := { c.S with sl := c.S.sl.set i (some m) }, σ := c.σ.set i (some w) } v l := by
  refine ⟨by have := r.is; cases l <;> exact this, fun o a ea => ⟨?_, (r.own o a ea).2⟩⟩
  rintro ⟨j, x, e1, e2, e3⟩
  have e1 : (c.S.sl.set i (some m))[j]? = some (some x) := e1
  have e3 : (c.σ.set i (some w))[j]? = some (some (V.ref a)) := e3
  by_cases hij : i = j
  · subst hij
    rw [List.getElem?_set_self'] at e1 e3
    cases q1 : c.S.sl[i]? with
    | none => rw [q1] at e1; cases e1
    | some y =>
      cases q2 : c.σ[i]? with
      | none => rw [q2] at e3; cases e3
      | some z =>
        rw [q1] at e1; rw [q2] at e3
        have e1 : some m = some x := by simpa using e1
        have e3 : some w = some (V.ref a) := by simpa using e3
        cases e1; cases e3
        exact h o e2 a a ea rfl rfl
  · rw [List.getElem?_set_ne hij] at e1 e3
    exact (r.own o a ea).1 ⟨j, x, e1, e2, e3⟩
theorem RV.apart {c0 c1 c2 : Cf} {v w : V} {l m : L} (r : RV n c0 c1 v l) (s : Stp c1 c2) (q : RV n c1 c2 w m) : l.own = true → m.own = true → ∀ a b, v = .ref a → w = .ref b → a ≠ b := fun o1 o2 a b ea eb e => by
  subst e
  obtain ⟨m1, m2⟩ := r.safe s o1 ea
  obtain ⟨_, ee, _, _, u, hu, _⟩ := r.is.at o1
  rw [ea] at ee; cases ee
  rcases (q.own o2 a eb).2 with z | z
  · rw [hu] at z; cases z
  · exact m1 z
theorem OutS.bind0 {α γ : Type} {P : Cf → Cf → γ → α → Prop} {c0 c : Cf} {m : M α} {k : α → MS} {E : Ends} {Q1 : γ → Hp → Prop} (s0 : Stp c0 c) (o : OutS n W c0 (thS m k c.S) E)
    (h : ∀ v c' a, c'.σ = c.σ → Stp c c' → Ok n c' → P c c' v a → OutS n W c0 (k a c'.S) E → Q1 v c'.H) : Out n W P c (m c.S) Q1 := by
  unfold thS at o
  cases e : m c.S with
  | ok a S' =>
    rw [e] at o
    exact fun v c' h1 h2 h3 h4 h5 => h v c' a h2 h3 h4 h5 (by rw [h1]; exact o)
  | exc C fs S' => rw [e] at o; exact fun Ca d c' h1 h2 h3 h4 h5 h6 => o Ca d c' h1 (s0.trans h3) h4 h5 h6
  | bad => rw [e] at o; exact o
def put2 (i j : Nat) (x y : L) (s : S) : S := { s with sl := (s.sl.set i (some x)).set j (some y) }
def par2 (i j : Nat) (fa fb : M L) : MS := thS fa fun x => thS fb fun y s => .nx (put2 i j x y s)
def put3 (i j l : Nat) (x y z : L) (s : S) : S := { s with sl := ((s.sl.set i (some x)).set j (some y)).set l (some z) }
def par3 (i j l : Nat) (fa fb fc : M L) : MS := thS fa fun x => thS fb fun y => thS fc fun z s => .nx (put3 i j l x y z s)
section
variable {i j l : Nat} {x y z : Str} {a b e : Expr} {fa fb fc : M L} {px py pz pt : Pos} {kt k2 : Nat} {pt2 pos : Pos}
theorem bs_par (hc : X.calm = true) (hN : X.N.Nodup) (hi : X.N[i]? = some x) (hj : X.N[j]? = some y) (hij : i ≠ j) (hx : X.env.scope.names.lookup x = some .local) (hy : X.env.scope.names.lookup y = some .local) (ha : PE X a (tO n W fa)) (hb : PE X b (tO n W fb))
    (h1 : starEach (a :: [b]) X.env = (false, eval a X.env) :: starEach [b] X.env) (h2 : starEach (b :: []) X.env = (false, eval b X.env) :: starEach [] X.env)
    (hw : swappedStores [.Tuple [.Name x px, .Name y py] kt pt] (.Tuple [a, b] k2 pt2) X.env = pure (some [x, y])) (hs : swapsWithSole [.Tuple [.Name x px, .Name y py] kt pt] (.Tuple [a, b] k2 pt2) pos.line X.env = pure false) :
    PS X (.Assign [.Tuple [.Name x px, .Name y py] kt pt] (.Tuple [a, b] k2 pt2) pos) (tS n W (par2 i j fa fb)) :=
  (ps_par hc hN hi hj hij hx hy (pa_cons ha (pa_cons hb pa_nil h2) h1) hw hs).imp fun E σ H ⟨c, e1, e2, k, o⟩ => by
    subst e1 e2
    refine ⟨c, rfl, rfl, k, OutS.bind0 (P := RV n) (Stp.refl c) o fun v c1 la e1 s1 k1 r1 o1 => ?_⟩
    refine ⟨c1, e1, rfl, k1, OutS.bind0 (P := RV n) s1 o1 fun w c2 lb e2 s2 k2 r2 o2 => ?_⟩
    refine ⟨v, w, rfl, ?_⟩
    obtain ⟨k3, s3⟩ := k2.put (i := i) (s1.trans s2) (r1.step s2)
    have r3 : RV n c { c2 with S := { c2.S with sl := c2.S.sl.set i (some la) }, σ := c2.σ.set i (some v) } w lb := RV.beside (trO _ _ _ _ _ s1 r2) fun q1 q2 a b ea eb z => r1.apart s2 r2 q2 q1 b a eb ea z.symm
    obtain ⟨k4, s4⟩ := k3.put (i := j) s3 r3
    have z := o2 { c2 with S := put2 i j la lb c2.S, σ := (c2.σ.set i (some v)).set j (some w) } rfl s4 k4
    rw [← e1, ← e2]
    exact z
theorem bs_par3 (hc : X.calm = true) (hN : X.N.Nodup) (hi : X.N[i]? = some x) (hj : X.N[j]? = some y) (hl : X.N[l]? = some z) (hij : i ≠ j) (hil : i ≠ l) (hjl : j ≠ l) (hx : X.env.scope.names.lookup x = some .local) (hy : X.env.scope.names.lookup y = some .local) (hz : X.env.scope.names.lookup z = some .local)
    (ha : PE X a (tO n W fa)) (hb : PE X b (tO n W fb)) (he : PE X e (tO n W fc))
    (h1 : starEach (a :: [b, e]) X.env = (false, eval a X.env) :: starEach [b, e] X.env) (h2 : starEach (b :: [e]) X.env = (false, eval b X.env) :: starEach [e] X.env) (h3 : starEach (e :: []) X.env = (false, eval e X.env) :: starEach [] X.env)
    (hw : swappedStores [.Tuple [.Name x px, .Name y py, .Name z pz] kt pt] (.Tuple [a, b, e] k2 pt2) X.env = pure (some [x, y, z])) (hs : swapsWithSole [.Tuple [.Name x px, .Name y py, .Name z pz] kt pt] (.Tuple [a, b, e] k2 pt2) pos.line X.env = pure false) :
    PS X (.Assign [.Tuple [.Name x px, .Name y py, .Name z pz] kt pt] (.Tuple [a, b, e] k2 pt2) pos) (tS n W (par3 i j l fa fb fc)) :=
  (ps_par3 hc hN hi hj hl hij hil hjl hx hy hz (pa_cons ha (pa_cons hb (pa_cons he pa_nil h3) h2) h1) hw hs).imp fun E σ H ⟨c, e1, e2, k, o⟩ => by
    subst e1 e2
    refine ⟨c, rfl, rfl, k, OutS.bind0 (P := RV n) (Stp.refl c) o fun v c1 la e1 s1 k1 r1 o1 => ?_⟩
    refine ⟨c1, e1, rfl, k1, OutS.bind0 (P := RV n) s1 o1 fun w c2 lb e2 s2 k2 r2 o2 => ?_⟩
    refine ⟨c2, e2.trans e1, rfl, k2, OutS.bind0 (P := RV n) (s1.trans s2) o2 fun u c3 lc e3 s3 k3 r3 o3 => ?_⟩
    refine ⟨v, w, u, rfl, ?_⟩
    obtain ⟨k4, s4⟩ := k3.put (i := i) (s1.trans (s2.trans s3)) (r1.step (s2.trans s3))
    have r4 : RV n c { c3 with S := { c3.S with sl := c3.S.sl.set i (some la) }, σ := c3.σ.set i (some v) } w lb := RV.beside (trO _ _ _ _ _ s1 (r2.step s3)) fun q1 q2 a b ea eb z => r1.apart (s2.trans s3) (r2.step s3) q2 q1 b a eb ea z.symm
    have r5 : RV n c { c3 with S := { c3.S with sl := c3.S.sl.set i (some la) }, σ := c3.σ.set i (some v) } u lc := RV.beside (trO _ _ _ _ _ (s1.trans s2) r3) fun q1 q2 a b ea eb z => (r1.step s2).apart s3 r3 q2 q1 b a eb ea z.symm
    obtain ⟨k5, s5⟩ := k4.put (i := j) s4 r4
    have r6 := RV.beside (w := w) (m := lb) (i := j) r5 fun q1 q2 a b ea eb z => r2.apart s3 r3 q2 q1 b a eb ea z.symm
    obtain ⟨k6, s6⟩ := k5.put (i := l) s5 r6
    have z := o3 { c3 with S := put3 i j l la lb lc c3.S, σ := ((c3.σ.set i (some v)).set j (some w)).set l (some u) } rfl s6 k6
    rw [← e1, ← e2, ← e3]
    exact z
/-- a display of three, stored into three names from the left: own values stay own -/
theorem bs_tpl3 (hc : X.calm = true) (hN : X.N.Nodup) (hi : X.N[i]? = some x) (hj : X.N[j]? = some y) (hl : X.N[l]? = some z) (hx : Loc X.env.scope x) (hy : Loc X.env.scope y) (hz : Loc X.env.scope z)
    (fx : X.fn x = true ∨ X.env.scope.names.lookup x = some .local) (fy : X.fn y = true ∨ X.env.scope.names.lookup y = some .local) (fz : X.fn z = true ∨ X.env.scope.names.lookup z = some .local)
    (ha : PE X a (tO n W fa)) (hb : PE X b (tO n W fb)) (he : PE X e (tO n W fc))
    (h1 : starEach (a :: [b, e]) X.env = (false, eval a X.env) :: starEach [b, e] X.env) (h2 : starEach (b :: [e]) X.env = (false, eval b X.env) :: starEach [e] X.env) (h3 : starEach (e :: []) X.env = (false, eval e X.env) :: starEach [] X.env)
    (hw : swappedStores [.Tuple [.Name x px, .Name y py, .Name z pz] kt pt] (.Tuple [a, b, e] k2 pt2) X.env = pure none) (hs : swapsWithSole [.Tuple [.Name x px, .Name y py, .Name z pz] kt pt] (.Tuple [a, b, e] k2 pt2) pos.line X.env = pure false) :
    PS X (.Assign [.Tuple [.Name x px, .Name y py, .Name z pz] kt pt] (.Tuple [a, b, e] k2 pt2) pos) (tS n W (par3 i j l fa fb fc)) :=
  (ps_asg (pe_tup (pa_cons ha (pa_cons hb (pa_cons he pa_nil h3) h2) h1)) (pg_tup (n := 3) hc (pgs_cons (pg_name hN hi hx fx) (pgs_cons (pg_name hN hj hy fy) (pgs_cons (pg_name hN hl hz fz) pgs_nil)))) hs hw).imp fun E σ H ⟨c, e1, e2, k, o⟩ => by
    subst e1 e2
    refine ⟨c, rfl, rfl, k, OutS.bind0 (P := RV n) (Stp.refl c) o fun v c1 la e1 s1 k1 r1 o1 => ?_⟩
    refine ⟨c1, e1, rfl, k1, OutS.bind0 (P := RV n) s1 o1 fun w c2 lb e2 s2 k2 r2 o2 => ?_⟩
    refine ⟨c2, e2.trans e1, rfl, k2, OutS.bind0 (P := RV n) (s1.trans s2) o2 fun u c3 lc e3 s30 k30 r30 o3 => ?_⟩
    refine ⟨by show 3 ≤ sizeLine; rw [sizeLine_eq]; omega, fun p hp => ⟨p, [v, w, u], rfl, .of upd_same, rfl, v, [w, u], rfl, w, [u], rfl, u, [], rfl, rfl, ?_⟩⟩
    obtain ⟨k3, sa, _, _, _⟩ := k30.alloc (o := .tup [v, w, u]) hp
    have s3 := s30.trans sa
    have r3 := r30.step sa
    obtain ⟨k4, s4⟩ := k3.put (i := i) (s1.trans (s2.trans s3)) (r1.step (s2.trans s3))
    have r4 : RV n c { c3 with H := upd c3.H p (.tup [v, w, u]), S := { c3.S with sl := c3.S.sl.set i (some la) }, σ := c3.σ.set i (some v) } w lb := RV.beside (trO _ _ _ _ _ s1 (r2.step s3)) fun q1 q2 a b ea eb z => r1.apart (s2.trans s3) (r2.step s3) q2 q1 b a eb ea z.symm
    have r5 : RV n c { c3 with H := upd c3.H p (.tup [v, w, u]), S := { c3.S with sl := c3.S.sl.set i (some la) }, σ := c3.σ.set i (some v) } u lc := RV.beside (trO _ _ _ _ _ (s1.trans s2) r3) fun q1 q2 a b ea eb z => (r1.step s2).apart s3 r3 q2 q1 b a eb ea z.symm
    obtain ⟨k5, s5⟩ := k4.put (i := j) s4 r4
    have r6 := RV.beside (w := w) (m := lb) (i := j) r5 fun q1 q2 a b ea eb z => r2.apart s3 r3 q2 q1 b a eb ea z.symm
    obtain ⟨k6, s6⟩ := k5.put (i := l) s5 r6
    have z := o3 { c3 with H := upd c3.H p (.tup [v, w, u]), S := put3 i j l la lb lc c3.S, σ := ((c3.σ.set i (some v)).set j (some w)).set l (some u) } rfl s6 k6
    rw [← e1, ← e2, ← e3]
    exact z
/-- a display of two -/
theorem bs_tpl2 (hc : X.calm = true) (hN : X.N.Nodup) (hi : X.N[i]? = some x) (hj : X.N[j]? = some y) (hx : Loc X.env.scope x) (hy : Loc X.env.scope y)
    (fx : X.fn x = true ∨ X.env.scope.names.lookup x = some .local) (fy : X.fn y = true ∨ X.env.scope.names.lookup y = some .local)
    (ha : PE X a (tO n W fa)) (hb : PE X b (tO n W fb))
    (h1 : starEach (a :: [b]) X.env = (false, eval a X.env) :: starEach [b] X.env) (h2 : starEach (b :: []) X.env = (false, eval b X.env) :: starEach [] X.env)
    (hw : swappedStores [.Tuple [.Name x px, .Name y py] kt pt] (.Tuple [a, b] k2 pt2) X.env = pure none) (hs : swapsWithSole [.Tuple [.Name x px, .Name y py] kt pt] (.Tuple [a, b] k2 pt2) pos.line X.env = pure false) :
    PS X (.Assign [.Tuple [.Name x px, .Name y py] kt pt] (.Tuple [a, b] k2 pt2) pos) (tS n W (par2 i j fa fb)) :=
  (ps_asg (pe_tup (pa_cons ha (pa_cons hb pa_nil h2) h1)) (pg_tup (n := 2) hc (pgs_cons (pg_name hN hi hx fx) (pgs_cons (pg_name hN hj hy fy) pgs_nil))) hs hw).imp fun E σ H ⟨c, e1, e2, k, o⟩ => by
    subst e1 e2
    refine ⟨c, rfl, rfl, k, OutS.bind0 (P := RV n) (Stp.refl c) o fun v c1 la e1 s1 k1 r1 o1 => ?_⟩
    refine ⟨c1, e1, rfl, k1, OutS.bind0 (P := RV n) s1 o1 fun w c2 lb e2 s20 k20 r20 o2 => ?_⟩
    refine ⟨by show 2 ≤ sizeLine; rw [sizeLine_eq]; omega, fun p hp => ⟨p, [v, w], rfl, .of upd_same, rfl, v, [w], rfl, w, [], rfl, rfl, ?_⟩⟩
    obtain ⟨k2, sa, _, _, _⟩ := k20.alloc (o := .tup [v, w]) hp
    have s2 := s20.trans sa
    have r2 := r20.step sa
    obtain ⟨k3, s3⟩ := k2.put (i := i) (s1.trans s2) (r1.step s2)
    have r3 : RV n c { c2 with H := upd c2.H p (.tup [v, w]), S := { c2.S with sl := c2.S.sl.set i (some la) }, σ := c2.σ.set i (some v) } w lb := RV.beside (trO _ _ _ _ _ s1 r2) fun q1 q2 a b ea eb z => r1.apart s2 r2 q2 q1 b a eb ea z.symm
    obtain ⟨k4, s4⟩ := k3.put (i := j) s3 r3
    have z := o2 { c2 with H := upd c2.H p (.tup [v, w]), S := put2 i j la lb c2.S, σ := (c2.σ.set i (some v)).set j (some w) } rfl s4 k4
    rw [← e1, ← e2]
    exact z
end
end Bv

/-! dicts of the store -/
namespace Bv
open PySem PySem.Spec PyProof.Rows L2
variable {n : Nm} {W : WX} {X : Cx}
theorem valV_kvS {k : Str} : ∀ vs : List (Str × V), valV (kvS vs) (Sum.inr k : Key) = vs.lookup k
  | [] => rfl
  | (x, v) :: r => by
    show valV ((Sum.inr x, v) :: kvS r) (Sum.inr k) = _
    rw [List.lookup_cons]
    by_cases e : x = k
    · subst e
      rw [valV_pos rfl]
      simp
    · rw [valV_neg (fun z => e (Sum.inr.inj z)), valV_kvS r]
      have : (k == x) = false := by simpa using fun z : k = x => e z.symm
      rw [this]
/-- a dict's value put in its place, or behind -/
def putA {α : Type} (k : Str) (d : α) (fs : List (Str × α)) : List (Str × α) := if (fs.any fun p => decide (p.1 = k)) = true then fs.map (fun p => if p.1 = k then (p.1, d) else p) else fs ++ [(k, d)]
theorem putK_kvS {k : Str} {v : V} (vs : List (Str × V)) : putK (kvS vs) (Sum.inr k : Key) v = kvS (putA k v vs) := by
  have h1 : ((kvS vs).any fun kv => decide (kv.1 = (Sum.inr k : Key))) = vs.any fun p => decide (p.1 = k) := by
    unfold kvS
    rw [List.any_map]
    congr 1
    funext p
    simp
  unfold putK putA
  rw [h1]
  split
  · unfold kvS
    rw [List.map_map, List.map_map]
    congr 1
    funext p
    by_cases e : p.1 = k
    · simp [e]
    · simp [e]
  · unfold kvS
    rw [List.map_append]
    rfl
theorem IsF.any {F : Hp} {φ : List Addr} {k : Str} : ∀ {vs : List (Str × V)} {ds : List (Str × D)}, IsF n F φ vs ds → (vs.any fun p => decide (p.1 = k)) = ds.any fun p => decide (p.1 = k)
  | _, _, .nil => rfl
  | _, _, .cons _ t => by rw [List.any_cons, List.any_cons, IsF.any t]
theorem IsF.mapP {F : Hp} {φ : List Addr} {k : Str} {v : V} {d : D} (h : Is n F φ v d) : ∀ {vs : List (Str × V)} {ds : List (Str × D)}, IsF n F φ vs ds → IsF n F φ (vs.map fun p => if p.1 = k then (p.1, v) else p) (ds.map fun p => if p.1 = k then (p.1, d) else p)
  | _, _, .nil => .nil
  | _, _, .cons (f := g) q t => by
    rw [List.map_cons, List.map_cons]
    by_cases e : g = k
    · rw [if_pos e, if_pos e]
      exact .cons h (IsF.mapP h t)
    · rw [if_neg e, if_neg e]
      exact .cons q (IsF.mapP h t)
theorem IsF.snoc {F : Hp} {φ : List Addr} {k : Str} {v : V} {d : D} (h : Is n F φ v d) : ∀ {vs : List (Str × V)} {ds : List (Str × D)}, IsF n F φ vs ds → IsF n F φ (vs ++ [(k, v)]) (ds ++ [(k, d)])
  | _, _, .nil => .cons h .nil
  | _, _, .cons q t => .cons q (IsF.snoc h t)
theorem IsF.putA {F : Hp} {φ : List Addr} {k : Str} {v : V} {d : D} {vs : List (Str × V)} {ds : List (Str × D)} (h : Is n F φ v d) (i : IsF n F φ vs ds) : IsF n F φ (putA k v vs) (putA k d ds) := by
  unfold Bv.putA
  rw [i.any]
  split
  · exact i.mapP h
  · exact i.snoc h
/-! ### read -/
def dgN (i : Nat) (k : Str) : M L := fun s => match s.sl[i]? with
  | some (some (.sh (.mref j))) => (match s.st[j]? with
    | some (.dic fs) => (match fs.lookup k with
      | some d => .ok (.sh d) s
      | none => .bad)
    | _ => .bad)
  | _ => .bad
/-- a dict of the store -/
theorem Ok.dicAt {c : Cf} {i j : Nat} {fs : List (Str × D)} (k : Ok n c) (e : c.S.sl[i]? = some (some (.sh (.mref j)))) (e2 : c.S.st[j]? = some (.dic fs)) : ∃ a vs, c.σ[i]? = some (some (.ref a)) ∧ c.φ[j]? = some a ∧ c.H a = some (.dK (kvS vs)) ∧ IsF n c.F c.φ vs fs := by
  obtain ⟨v, h1, h2⟩ := k.sl i _ e
  have h2 : Is n c.F c.φ v (.mref j) := h2
  cases h2 with
  | mref h =>
    obtain ⟨vs, h3, h4⟩ := k.st j _ _ e2 h
    exact ⟨_, vs, h1, h, h3, h4⟩
theorem be_dgN {i : Nat} {x z : Str} {p p2 pos : Pos} {j : Nat} (hu : X.A.units + 65 < cLine) (hN : X.N[i]? = some x) (hv : Vis X.env.scope x) (hd : (x == ("__debug__" : Str)) = false) (hcd : (x == ("__classdict__" : Str)) = false) :
    PE X (.Subscript (.Name x p) (.Constant (.str z) j p2) pos) (tO n W (dgN i z)) := (pe_dget (by omega) (pe_var hN hv hd hcd) pe_str (fun _ _ => rfl)).imp fun σ H Q ⟨c, e1, e2, k, o⟩ => by
  subst e1 e2
  unfold dgN at o
  split at o
  · rename_i j q
    split at o
    · rename_i fs q2
      split at o
      · rename_i d q3
        obtain ⟨a, vs, h1, h2, h3, h4⟩ := k.dicAt q q2
        obtain ⟨v, h5, h6⟩ := h4.look q3
        refine ⟨.ref a, h1, a, v, rfl, ?_, o.sh k h6⟩
        have := DGet.k (k := (Sum.inr z : Key)) h3
        rw [valV_kvS, h5] at this
        exact this
      · exact o.not_bad
    · exact o.not_bad
  · exact o.not_bad
/-! ### write -/
theorem Ok.setSt {c : Cf} {j : Nat} {a : Addr} {fs gs : List (Str × D)} {vs : List (Str × V)} (k : Ok n c) (e : c.S.st[j]? = some (.dic fs)) (ea : c.φ[j]? = some a) (i : IsF n c.F c.φ vs gs) :
    let c' : Cf := { c with S := { c.S with st := c.S.st.set j (.dic gs) }, H := upd c.H a (.dK (kvS vs)) }; Ok n c' ∧ Stp c c' := by
  have ha : a ∈ c.φ := List.mem_of_getElem? ea
  have hf : c.F a = none := k.fφ a ha
  have ne : ∀ {b : Addr}, b ≠ a → upd c.H a (.dK (kvS vs)) b = c.H b := fun hb => upd_ne hb
  have mutS : ∀ b, Mut { c with S := { c.S with st := c.S.st.set j (.dic gs) }, H := upd c.H a (.dK (kvS vs)) } b → Mut c b := fun b m => m
  refine ⟨⟨k.len, fun b w q => ?_, fun l z q => ?_, k.dist, k.nd, ?_, fun l m b q1 q2 => ?_, k.fφ⟩, ⟨Sub.refl _, fun b w q m t => ?_, fun b q => .inl q, fun b m => .inl (mutS b m), fun b q => (upd_none' q).2, ⟨[], by simp⟩, rfl⟩⟩
  · have hb : b ≠ a := fun z => by subst z; rw [hf] at q; cases q
    show upd c.H a _ b = some w
    rw [ne hb]; exact k.sub _ _ q
  · obtain ⟨v, q1, q2⟩ := k.sl l z q
    refine ⟨v, q1, ?_⟩
    have hv : z.own = true → ∀ b, v = .ref b → b ≠ a := fun oz b eb z' => by
      subst z' eb
      obtain ⟨_, ee, _, hφ, _⟩ := q2.at oz
      cases ee
      exact hφ ha
    cases z with
    | sh w => exact q2
    | ol ds => obtain ⟨b, us, eb, h5, h6, h7, h8⟩ := q2; exact ⟨b, us, eb, (ne (hv rfl b eb)).trans h5, h6, h7, h8⟩
    | od kvs =>
      obtain ⟨b, eb, h6, h7, ⟨us, h5, h8⟩ | ⟨us, h5, h8⟩⟩ := q2
      · exact ⟨b, eb, h6, h7, .inl ⟨us, (ne (hv rfl b eb)).trans h5, h8⟩⟩
      · exact ⟨b, eb, h6, h7, .inr ⟨us, (ne (hv rfl b eb)).trans h5, h8⟩⟩
    | oi b0 C fs => obtain ⟨b, C, dx, us, eb, hb, hC, h5, h6, h7, h8⟩ := q2; exact ⟨b, C, dx, us, eb, hb, hC, (ne (hv rfl b eb)).trans h5, h6, h7, h8⟩
  · show (c.S.st.set j _).length = _
    rw [List.length_set]; exact k.slen
  · have q1 : (c.S.st.set j (.dic gs))[l]? = some m := q1
    have q2 : c.φ[l]? = some b := q2
    by_cases hl : j = l
    · subst hl
      rw [ea] at q2; cases q2
      rw [List.getElem?_set_self', e] at q1
      have q1 : MO.dic gs = m := by simpa using q1
      subst q1
      exact ⟨vs, upd_same, i⟩
    · rw [List.getElem?_set_ne hl] at q1
      have hb : b ≠ a := fun z => by
        subst z
        obtain ⟨h1, h3⟩ := List.getElem?_eq_some_iff.mp ea
        obtain ⟨h2, h4⟩ := List.getElem?_eq_some_iff.mp q2
        exact hl ((List.getElem_inj k.nd).mp (h3.trans h4.symm))
      have z := k.st l m b q1 q2
      cases m with
      | dic p => obtain ⟨lc, h3, h4⟩ := z; exact ⟨lc, (ne hb).trans h3, h4⟩
      | inst C fs => obtain ⟨C, dx, us, h3, h4, h5⟩ := z; exact ⟨C, dx, us, h3, (ne hb).trans h4, h5⟩
  · have hb : b ≠ a := fun z => by
      subst z
      exact m (.inr ha)
    show upd c.H a _ b = some w
    rw [ne hb]; exact q
def dpN (i : Nat) (k : Str) (d : D) : MS := fun s => match s.sl[i]? with
  | some (some (.sh (.mref j))) => (match s.st[j]? with
    | some (.dic fs) => if fs.length < lineN then .nx { s with st := s.st.set j (.dic (putA k d fs)) } else .bad
    | _ => .bad)
  | _ => .bad
def dpS (i : Nat) (k : Str) (m : M D) : MS := thS m fun d => dpN i k d
theorem bs_dp {i : Nat} {x z : Str} {p p2 pos pos' : Pos} {j : Nat} {e : Expr} {m : M D} (hu : X.A.units + 65 < cLine) (hN : X.N[i]? = some x) (hv : Vis X.env.scope x) (hd : (x == ("__debug__" : Str)) = false) (hcd : (x == ("__classdict__" : Str)) = false) (he : PE X e (tX n W m))
    (hs : swapsWith e (some (.Subscript (.Name x p) (.Constant (.str z) j p2) pos')) pos.line X.env = pure false) : PS X (.Assign [.Subscript (.Name x p) (.Constant (.str z) j p2) pos'] e pos) (tS n W (dpS i z m)) :=
  (ps_dput (by omega) (pe_var hN hv hd hcd) pe_str he hs).imp fun E σ H ⟨c, e1, e2, k, o⟩ => by
    subst e1 e2
    refine ⟨c, rfl, rfl, k, OutS.bind o fun y c1 d e1 s1 k1 i1 o1 => ?_⟩
    unfold dpN at o1
    split at o1
    · rename_i j q
      split at o1
      · rename_i fs q2
        split at o1
        · rename_i hz
          obtain ⟨a, vs, h1, h2, h3, h4⟩ := k1.dicAt q q2
          obtain ⟨k2, s2⟩ := k1.setSt q2 h2 (IsF.putA (k := z) i1 h4)
          have hl : (kvS vs).length < sizeLine := by
            have := h4.length
            unfold kvS
            rw [List.length_map, this, lineN_eq]; exact hz
          refine ⟨.ref a, by rw [← e1]; exact h1, a, _, rfl, DPut.k (k := (Sum.inr z : Key)) h3 hl, ?_⟩
          rw [putK_kvS, ← e1]
          exact o1 { c1 with S := { c1.S with st := c1.S.st.set j (.dic (Bv.putA z d fs)) }, H := upd c1.H a (.dK (kvS (Bv.putA z y vs))) } rfl s2 k2
        · exact o1.elim
      · exact o1.elim
    · exact o1.elim
/-! ### a new one -/
theorem mergeK_app : ∀ (r l : List (Key × V)), ((l ++ r).map (·.1)).Nodup → mergeK l r = l ++ r
  | [], l, _ => by rw [List.append_nil]; rfl
  | p :: r, l, h => by
    have hp : valV l p.1 = none := by
      cases q : valV l p.1 with
      | none => rfl
      | some v =>
        exfalso
        have m : (l.any fun kv => decide (kv.1 = p.1)) = true := by rw [valV_any, q]; rfl
        obtain ⟨x, hx, ex⟩ := List.any_eq_true.mp m
        rw [List.map_append, List.nodup_append] at h
        exact h.2.2 x.1 (List.mem_map_of_mem hx) p.1 (by simp) (of_decide_eq_true ex)
    show mergeK (putK l p.1 p.2) r = l ++ p :: r
    rw [putK_new _ hp, mergeK_app r (l ++ [(p.1, p.2)]) (by simpa using h)]
    simp
theorem mergeK_kvS {vs : List (Str × V)} (h : (vs.map (·.1)).Nodup) : mergeK [] (kvS vs) = kvS vs := by
  have e : (kvS vs).map (·.1) = (vs.map (·.1)).map (Sum.inr : Str → Key) := by
    unfold kvS
    rw [List.map_map, List.map_map]
    rfl
  have := mergeK_app (kvS vs) [] (by rw [List.nil_append, e]; exact List.pairwise_map.mpr (List.Pairwise.imp (fun hab z => hab (Sum.inr.inj z)) h))
  rw [List.nil_append] at this
  exact this
theorem IsF.zip {F : Hp} {φ : List Addr} : ∀ {ks : List Str} {vs : List V} {ds : List D}, IsL n F φ vs ds → IsF n F φ (ks.zip vs) (ks.zip ds)
  | [], _, _, _ => by simp only [List.zip_nil_left]; exact .nil
  | _ :: _, _, _, .nil => by simp only [List.zip_nil_right]; exact .nil
  | k :: ks, _, _, .cons h t => by
    rw [List.zip_cons_cons, List.zip_cons_cons]
    exact .cons h (IsF.zip t)
def lsM (g : Expr → M D) : List Expr → M (List D)
  | [] => nilM
  | e :: es => consM (g e) (lsM g es)
theorem pps_ok {g : Expr → M D} {pos : Pos} (hg : ∀ e, PE X e (tX n W (g e))) : ∀ (ks : List (Str × Nat × Pos)) (es : List Expr), ks.length = es.length →
    ∃ trs, PPs X pos (ks.map fun k => some (.Constant (.str k.1) k.2.1 k.2.2)) es trs ∧ ∀ (c : Cf) (Q : List (V × V) → Hp → Prop), Ok n c → Out n W (PL n) c (lsM g es c.S) (fun vs H2 => Q ((ks.zip vs).map (fun p => (V.str p.1.1, p.2))) H2) → tPairs trs c.σ c.H Q
  | [], [], _ => ⟨[], pps_nil, fun c Q k o => o [] c rfl rfl (Stp.refl c) k .nil⟩
  | k :: ks, e :: es, h => by
    obtain ⟨trs, h1, h2⟩ := pps_ok hg ks es (by simpa using h)
    refine ⟨_, pps_cons pe_str (hg e) h1, fun c Q kc o => ?_⟩
    show tX n W (g e) c.σ c.H _
    refine ⟨c, rfl, rfl, kc, Out.bind (P1 := PX n) trL o fun x c1 d e1 s1 k1 i1 o1 => ?_⟩
    have z := h2 c1 (fun ps H3 => Q ((V.str k.1, x) :: ps) H3) k1 (Out.bind (P1 := PL n) trL o1 fun xs c2 ds e2 s2 k2 i2 o2 => o2 (x :: xs) c2 rfl rfl (Stp.refl c2) k2 (.cons (s2.is i1) i2))
    rw [e1] at z
    exact z
/-- into the store -/
def stNew (fs : List (Str × D)) : M L := fun s => .ok (.sh (.mref s.st.length)) { s with st := s.st ++ [.dic fs] }
def ddM (ks : List Str) (fs : M (List D)) : M L := do let ds ← fs; stNew (ks.zip ds)
theorem Ok.newSt {c0 c : Cf} {a : Addr} {fs : List (Str × D)} {vs : List (Str × V)} {o : HO} (k : Ok n c) (s : Stp c0 c) (h0 : c0.H a = none) (hH : c.H a = some o) (hF : c.F a = none) (hm : ¬ Mut c a) (i : IsF n c.F c.φ vs fs) :
    let c' : Cf := { c with S := { c.S with st := c.S.st ++ [.dic fs] }, φ := c.φ ++ [a], H := upd c.H a (.dK (kvS vs)) }; Ok n c' ∧ Stp c0 c' := by
  have hφ : a ∉ c.φ := fun m => hm (.inr m)
  have ne : ∀ {b : Addr}, b ≠ a → upd c.H a (.dK (kvS vs)) b = c.H b := fun hb => upd_ne hb
  have nw : ∀ b, c.F b ≠ none → c0.F b ≠ none ∨ c0.H b = none ∨ Mut c0 b ∨ ∃ xs, upd c.H a (.dK (kvS vs)) b = some (.tup xs) := fun b hb => by
    by_cases z : b = a
    · exact .inr (.inl (z ▸ h0))
    · rw [ne z]; exact s.new b hb
  refine ⟨⟨k.len, fun b w q => ?_, fun l z q => ?_, k.dist, ?_, ?_, fun l m b q1 q2 => ?_, fun b hb => ?_⟩, ⟨s.F, fun b w q m t => ?_, nw, fun b m => ?_, fun b q => ?_, ?_, s.an⟩⟩
  · have hb : b ≠ a := fun z => by subst z; rw [hF] at q; cases q
    show upd c.H a _ b = some w
    rw [ne hb]; exact k.sub _ _ q
  · obtain ⟨v, q1, q2⟩ := k.sl l z q
    refine ⟨v, q1, ?_⟩
    have hv : z.own = true → ∀ b, v = .ref b → b ≠ a := fun oz b eb z' => by
      subst z' eb
      exact hm (.inl ⟨l, z, q, oz, q1⟩)
    have hn : ∀ {b : Addr}, b ≠ a → b ∉ c.φ → b ∉ c.φ ++ [a] := fun h1 h2 h3 => by
      rcases List.mem_append.mp h3 with h3 | h3
      · exact h2 h3
      · exact h1 (List.mem_singleton.mp h3)
    cases z with
    | sh w => exact Is.mono (Sub.refl _) q2
    | ol ds => obtain ⟨b, us, eb, h5, h6, h7, h8⟩ := q2; exact ⟨b, us, eb, (ne (hv rfl b eb)).trans h5, h6, hn (hv rfl b eb) h7, h8.mono (Sub.refl _)⟩
    | od kvs =>
      obtain ⟨b, eb, h6, h7, ⟨us, h5, h8⟩ | ⟨us, h5, h8⟩⟩ := q2
      · exact ⟨b, eb, h6, hn (hv rfl b eb) h7, .inl ⟨us, (ne (hv rfl b eb)).trans h5, h8.mono (Sub.refl _)⟩⟩
      · exact ⟨b, eb, h6, hn (hv rfl b eb) h7, .inr ⟨us, (ne (hv rfl b eb)).trans h5, h8.mono (Sub.refl _)⟩⟩
    | oi b0 C fs => obtain ⟨b, C, dx, us, eb, hb, hC, h5, h6, h7, h8⟩ := q2; exact ⟨b, C, dx, us, eb, hb, hC, (ne (hv rfl b eb)).trans h5, h6, hn (hv rfl b eb) h7, h8.mono (Sub.refl _)⟩
  · show (c.φ ++ [a]).Nodup
    rw [List.nodup_append]
    exact ⟨k.nd, by simp, fun x hx y hy z => hφ (by rw [List.mem_singleton.mp hy] at z; exact z ▸ hx)⟩
  · show (c.S.st ++ [_]).length = (c.φ ++ [a]).length
    simp [k.slen]
  · have r1 : (c.S.st ++ [.dic fs])[l]? = some m := q1
    have r2 : (c.φ ++ [a])[l]? = some b := q2
    clear q1 q2
    by_cases hl : l < c.φ.length
    · rw [List.getElem?_append_left (by rw [k.slen]; exact hl)] at r1
      rw [List.getElem?_append_left hl] at r2
      have hb : b ≠ a := fun z => hφ (z ▸ List.mem_of_getElem? r2)
      have z := k.st l m b r1 r2
      cases m with
      | dic p => obtain ⟨lc, h3, h4⟩ := z; exact ⟨lc, (ne hb).trans h3, h4.mono (Sub.refl _)⟩
      | inst C fs => obtain ⟨C, dx, us, h3, h4, h5⟩ := z; exact ⟨C, dx, us, h3, (ne hb).trans h4, h5.mono (Sub.refl _)⟩
    · rw [List.getElem?_append_right (by rw [k.slen]; omega), k.slen] at r1
      rw [List.getElem?_append_right (by omega)] at r2
      cases e : l - c.φ.length with
      | zero =>
        rw [e] at r1 r2
        have r1 : MO.dic fs = m := by simpa using r1
        have r2 : a = b := by simpa using r2
        subst r1 r2
        exact ⟨vs, upd_same, i.mono (Sub.refl _)⟩
      | succ j => rw [e] at r1; simp at r1
  · rcases List.mem_append.mp hb with hb | hb
    · exact k.fφ b hb
    · rw [List.mem_singleton.mp hb]; exact hF
  · have hb : b ≠ a := fun z => by
      subst z
      rw [h0] at q; cases q
    show upd c.H a _ b = some w
    rw [ne hb]; exact s.H b w q m t
  · rcases m with m | m
    · exact s.mono b (.inl m)
    · rcases List.mem_append.mp m with m | m
      · exact s.mono b (.inr m)
      · rw [List.mem_singleton.mp m]; exact .inr h0
  · exact s.there b (upd_none' q).2
  · obtain ⟨ψ, h⟩ := s.φ
    exact ⟨ψ ++ [a], by show c.φ ++ [a] = _; rw [h, List.append_assoc]⟩
theorem Out.bind0 {α β γ γ1 : Type} {P : Cf → Cf → γ → α → Prop} {P1 : Cf → Cf → γ1 → β → Prop} {c0 c : Cf} {m : M β} {k : β → M α} {Q : γ → Hp → Prop} {Q1 : γ1 → Hp → Prop} (s0 : Stp c0 c) (e0 : c.σ = c0.σ) (o : Out n W P c0 ((m >>= k) c.S) Q)
    (h : ∀ v c' a, c'.σ = c.σ → Stp c c' → Ok n c' → P1 c c' v a → Out n W P c0 (k a c'.S) Q → Q1 v c'.H) : Out n W P1 c (m c.S) Q1 := by
  have o : Out n W P c0 (M.bind m k c.S) Q := o
  unfold M.bind at o
  cases e : m c.S with
  | ok a S' =>
    rw [e] at o
    exact fun v c' h1 h2 h3 h4 h5 => h v c' a h2 h3 h4 h5 (by rw [h1]; exact o)
  | exc C fs S' =>
    rw [e] at o
    exact ExcP.later (n := n) (W := W) o s0 e0
  | bad => rw [e] at o; exact o
theorem zip_fst {α β : Type} : ∀ (l : List α) (m : List β), (l.zip m).map (·.1) = l.take m.length
  | [], m => by simp
  | _ :: _, [] => by simp
  | a :: l, b :: m => by
    rw [List.zip_cons_cons, List.map_cons, List.length_cons, List.take_succ_cons, zip_fst l m]
theorem be_disp {g : Expr → M D} {pos : Pos} (hg : ∀ e, PE X e (tX n W (g e))) {ks : List (Str × Nat × Pos)} {es : List Expr} (hl : ks.length = es.length) (hn : (ks.map (·.1)).Nodup) (h0 : ks ≠ []) (h15 : ks.length ≤ 15) :
    PE X (.Dict (ks.map fun k => some (.Constant (.str k.1) k.2.1 k.2.2)) es pos) (tO n W (ddM (ks.map (·.1)) (lsM g es))) := by
  obtain ⟨trs, h1, h2⟩ := pps_ok (pos := pos) hg ks es hl
  refine (pe_disp h1 (by simp) (by simpa using hl) (by simpa using h0) (by simpa using h15)).imp fun σ H Q ⟨c, e1, e2, k, o⟩ => ?_
  subst e1 e2
  intro p hp
  obtain ⟨ka, sa, na, nf, no⟩ := k.alloc (o := .dK []) hp
  have hma : ¬ Mut { c with H := upd c.H p (.dK []) } p := fun m => by
    rcases m with m | m
    · exact no m
    · exact na m
  refine h2 { c with H := upd c.H p (.dK []) } _ ka (Out.bind0 (P1 := PL n) sa rfl o fun vs c2 ds e1 s2 k2 i2 o2 => ?_)
  have hH : c2.H p = some (.dK []) := s2.H p _ upd_same hma (fun _ z => by cases z)
  have hF : c2.F p = none := by
    cases q : c2.F p with
    | none => rfl
    | some u =>
      rcases s2.new p (by rw [q]; simp) with z | z | z | ⟨xs, z⟩
      · exact absurd nf z
      · have z : upd c.H p (.dK []) p = none := z
        rw [upd_same] at z; cases z
      · exact absurd z hma
      · rw [hH] at z; cases z
  have hm2 : ¬ Mut c2 p := fun m => by
    rcases s2.mono p m with z | z
    · exact hma z
    · have z : upd c.H p (.dK []) p = none := z
      rw [upd_same] at z; cases z
  have hi : IsF n c2.F c2.φ ((ks.map (·.1)).zip vs) ((ks.map (·.1)).zip ds) := IsF.zip i2
  obtain ⟨k3, s3⟩ := k2.newSt (sa.trans s2) hp hH hF hm2 hi
  have nd : ((((ks.map (·.1)).zip vs)).map (·.1)).Nodup := by
    rw [zip_fst]
    exact (List.take_sublist _ _).nodup hn
  refine ⟨hH, kvS ((ks.map (·.1)).zip vs), ?_, ?_, ?_⟩
  · unfold kvS
    rw [List.map_map, List.zip_map_left, List.map_map]
    rfl
  · unfold kvS
    rw [List.length_map, List.length_zip, List.length_map]
    omega
  · rw [mergeK_kvS nd]
    exact o2 (.ref p) { c2 with S := { c2.S with st := c2.S.st ++ [.dic ((ks.map (·.1)).zip ds)] }, φ := c2.φ ++ [p], H := upd c2.H p (.dK (kvS ((ks.map (·.1)).zip vs))) } rfl e1 s3 k3 ⟨.mref (by rw [k2.slen]; simp), fun z => by cases z⟩
end Bv

/-! enumerate over a tuple -/
namespace EnT
open PySem
open PySem.Sem (wp)
open AutoSeq1 (wpAny_loadPart')
theorem new_tup (b : Addr) (its : Array Value) (k : Nat) (dd : Option Addr) (ss : Array (Option Value)) :
    Meets (Builtin.«enumerate.__new__» ⟨[.type "enumerate", .ref b], []⟩) (fun _ R s => s.heap.get? b = some { cls := .type "tuple", dict := dd, data := .seq its k, slots := ss } ∧
      R (.ok (.ret (.ref (s.heap.push { cls := .type "tuple_iterator", data := .fields #[.ref b, .int 0 0] }).objs.size)))
        { s with heap := (s.heap.push { cls := .type "tuple_iterator", data := .fields #[.ref b, .int 0 0] }).push { cls := .type "enumerate", data := .fields #[.none, .bool false, .ref s.heap.objs.size, rawInt 0, .none, .none] } }) :=
  .of_wp fun prog w A R s hh => by
    obtain ⟨hp, g, d, tk, os⟩ := s
    obtain ⟨hb, h⟩ := hh
    have hsub := sub_enumerate
    have hT : Heap.IsTuple (Shared.heap ⟨hp, g, d, tk, os⟩) b its := ⟨_, hb, rfl, k, rfl⟩
    wp_walk using wpAny_loadPart' hb
    refine wpAny_stack_any fun st => wpAny_pure ?_
    split
    · rename_i c _ _ _ _ _
      cases (c == Value.type "enumerate")
      all_goals
        wp_walk using wpAny_loadPart' hb, wpAny_pyIter_tuple hT
        exact ⟨_, rfl, h⟩
    · wp_walk using wpAny_loadPart' hb, wpAny_pyIter_tuple hT
      exact ⟨_, rfl, h⟩
section
variable {prog : Program} {w : World} {A : Around} {E : Value → Shared → Prop} {s : Shared}
theorem call_tup {b : Addr} {its : Array Value} {Q : Value → Shared → Prop} (hT : s.heap.IsTuple b its)
    (h : ∀ h', IsEnum h' (s.heap.objs.size + 1) s.heap.objs.size 0 .none → h'.IsTupleIter s.heap.objs.size b 0 →
      (∀ a o, s.heap.get? a = some o → h'.get? a = some o) → Q (.ref (s.heap.objs.size + 1)) { s with heap := h' }) :
    wpAny (model prog w) A (call (.type "enumerate") [.ref b]) Q E s := by
  obtain ⟨⟨cl, dd, dt, ss⟩, hb, e1, k, e2⟩ := hT
  replace e1 : cl = .type "tuple" := e1
  replace e2 : dt = .seq its k := e2
  subst e1 e2
  refine callType_new F.called_enumerate (by decide) (F.typeCall_enumerate_1 _) (F.newCall_enumerate_1 _) (fun obj => F.args_object_init_2 obj _) F.entry_enumerate_new (new_tup b its k dd ss) ⟨hb, ?_⟩
  have hz : (s.heap.push { cls := .type "tuple_iterator", data := .fields #[.ref b, .int 0 0] }).objs.size = s.heap.objs.size + 1 := Heap.size_push ..
  show _ ∧ _
  rw [hz]
  have he : IsEnum ((s.heap.push { cls := .type "tuple_iterator", data := .fields #[.ref b, .int 0 0] }).push { cls := .type "enumerate", data := .fields #[.none, .bool false, .ref s.heap.objs.size, rawInt 0, .none, .none] }) (s.heap.objs.size + 1) s.heap.objs.size 0 .none := by
    have z := Heap.get?_push_size (s.heap.push { cls := .type "tuple_iterator", data := .fields #[.ref b, .int 0 0] }) (o := { cls := .type "enumerate", data := .fields #[.none, .bool false, .ref s.heap.objs.size, rawInt 0, .none, .none] }) rfl
    rw [hz] at z
    exact z
  exact ⟨⟨_, he, rfl⟩, h _ he ⟨_, Heap.get?_push_of_some _ (Heap.get?_push_size _ rfl), rfl, rfl⟩ fun a o x => Heap.get?_push_of_some _ (Heap.get?_push_of_some _ x)⟩
end
theorem draws_tup {prog : Program} {w : World} {A : Around} (hh : A.handled = none) (it b : Addr) (hne : b ≠ it) (its : Array Value) :
    Draws prog w A it [it, b] its.size (fun i v => its[i]? = some v) (fun i h => h.IsTupleIter it b i ∧ h.IsTuple b its) where
  live := fun _ _ st => let ⟨o, ho, _⟩ := st.1; ⟨o, ho⟩
  frame := fun _ _ _ st hk => ⟨st.1.at fun o e => hk it (by simp) o e, let ⟨o, ho, r⟩ := st.2; ⟨o, hk b (by simp) o ho, r⟩⟩
  item := fun i s Q E hi st hQ => by
    refine RZ.nextOf_tuple_item st.1 st.2 (x := its[i]) (by simp [hi]) fun h' hit' hs' => ?_
    exact hQ _ h' s.toks (by simp [hi]) ⟨hit', st.2.extBut hs'.extBut hne⟩ hs'
  done := fun s Q E st hE => RZ.nextOf_tuple_end hh st.1 st.2 (by simp) hE
end EnT
namespace L2
open PySem PySem.Spec PyProof.Rows
/-- the tuple at a, each item in a new pair -/
def IteT (K : PySem.W.Frag) (a : Addr) : It :=
  ⟨fun i H => ∃ (xs : List V) (x : V), SqT K H a xs ∧ xs[i]? = some x, fun i H v H' => ∃ T x, v = .ref T ∧ H T = none ∧ H' = upd H T (.tup [.int (i : Nat), x]) ∧ ∀ xs, SqT K H a xs → xs[i]? = some x, fun i H => ∃ xs : List V, SqT K H a xs ∧ xs.length ≤ i⟩
theorem turn_enT {P : Program} {w : World} {K : PySem.W.Frag} {elts : List Expr} {kk : Nat} {tpos : Pos} (a e it : Addr) (hai : a ≠ it) (hae : a ≠ e) :
    Turn P w K (.Tuple elts kk tpos) (IteT K a) [e, it] e (fun i h => (∃ old, IsEnum h e it ((i : Nat) : Int) old) ∧ h.IsTupleIter it a i ∧ e ≠ it) where
  mem := by simp
  obj := fun i h st b hb => by
    obtain ⟨⟨old, he⟩, ⟨o, ho, hc, hd⟩, _⟩ := st
    have e' : b = e ∨ b = it := by simpa using hb
    rcases e' with rfl | rfl
    · exact ⟨_, he, fun v q => nomatch q⟩
    · exact ⟨o, ho, fun v q => by rw [hd] at q; cases q⟩
  keep := fun i h h' st k => let ⟨⟨old, he⟩, hi, hne⟩ := st; ⟨⟨old, k e (by simp) _ he⟩, hi.at fun o q => k it (by simp) o q, hne⟩
  item := by
    intro X hP hw hK hc i pins s σ H E I hf st hg
    subst hP hw hK
    obtain ⟨⟨old, he⟩, hit, hne⟩ := st
    obtain ⟨xs, x, hq, hx⟩ := hg
    obtain ⟨its, rv, p, hz⟩ := I.tuple hq
    obtain ⟨u, hu, ru⟩ := rv.get hx
    have hel : e < s.heap.objs.size := Heap.lt_size he
    have hil : it < s.heap.objs.size := by obtain ⟨_, q, _⟩ := hit; exact Heap.lt_size q
    have hil2 : i < its.toArray.size := by
      rw [List.size_toArray]
      exact (List.getElem?_eq_some_iff.mp hu).1
    have D := EnT.draws_tup (prog := X.prog) (w := X.w) (A := X.A.in1) (I.ok.hd hc) it a hai its.toArray
    refine wpAny_pyNext_enum_itemD D he ⟨hit, show s.heap.IsTuple a its.toArray from p⟩ hil2 hne (by simp [Ne.symm hae, hne]) fun v h' tk hv ho st' hT hsz hk => ?_
    obtain ⟨hit', _⟩ := st'
    have hvu : v = u := by
      have : its.toArray[i]? = some u := by simpa using hu
      rw [this] at hv
      exact (Option.some.inj hv).symm
    subst hvu
    refine ⟨_, rfl, wpAny_letOwnedTupleGo_enum (s := { s with heap := h', toks := tk + 1 }) ho fun h'' he' sb => ?_⟩
    have hT2 : h''.get? s.heap.objs.size = some { cls := .type "tuple", data := .seq #[.int i tk, v] } := (sb.2 _ (Nat.ne_of_gt hel)).trans hT
    have new : ObjOk X.prog X.w (upd H s.heap.objs.size (.tup [.int (i : Nat), x])) h'' s.heap.objs.size (.tup [.int (i : Nat), x]) :=
      ⟨by show 2 ≤ sizeLine; decide, [.int i tk, v], .cons ⟨_, rfl⟩ (.cons ru .nil), ⟨_, hT2, rfl, _, rfl⟩⟩
    have I1 : Inv X pins σ (upd H s.heap.objs.size (.tup [.int (i : Nat), x])) { s with heap := h'', toks := tk + 1 } :=
      I.turnedNew (ch := [e, it]) (fun b ob hb q => (sb.2 b (fun z => hb (by simp [z]))).trans (hk b ob (fun z => hb (by simp [z])) (fun z => hb (by simp [z])) q)) hf (Nat.le_refl _) new
    refine ⟨.ref s.heap.objs.size, _, I1, rfl, ⟨_, x, rfl, I.hok.fresh (Nat.le_refl _), rfl, fun ys hy => by rw [I.tuple_inj hy hq]; exact hx⟩, ⟨⟨v, ?_⟩, hit'.at fun o q => (sb.2 it (Ne.symm hne)).trans q, hne⟩, fun b hb => ?_⟩
    · rw [show ((i + 1 : Nat) : Int) = (i : Int) + 1 by omega]
      exact he'
    · have hb' : b < s.heap.objs.size := by
        have e' : b = e ∨ b = it := by simpa using hb
        rcases e' with rfl | rfl
        · exact hel
        · exact hil
      rw [upd_ne (Nat.ne_of_lt hb')]
      exact (hf b hb).1
  done := by
    intro X hP hw hK hc i pins s σ H E I hf st hg
    subst hP hw hK
    obtain ⟨⟨old, he⟩, hit, hne⟩ := st
    obtain ⟨xs, hq, hx⟩ := hg
    obtain ⟨its, rv, p, hz⟩ := I.tuple hq
    obtain ⟨f0, f1, f2, f3, f4, f5⟩ := hf it (by simp)
    have hl := rv.length
    have hT : s.TypeIs (.ref e) "enumerate" := ⟨_, he, rfl⟩
    unfold pyNext
    refine wpAny_bind (wpAny_attempt (wpAny_callSpecial?_slot (name := Str.ofString "__next__") hT F.slot_enumerate_next (wpAny_call_entry F.slot_enumerate_next hT F.entry_enumerate_next ?_ (F.args_enumerate_next_1 _))))
    show wpAny _ _ (field (.ref e) 2 >>= _) _ _ _
    refine wpAny_bind (wpAny_field he rfl (x := .ref it) rfl ?_)
    refine wpAny_bind (RZ.nextOf_tuple_end (I.ok.hd hc) hit (show s.heap.IsTuple a its.toArray from p) (by simp; omega) fun h' x he' hx' => ?_)
    obtain ⟨o, ho, hcl⟩ := hx'
    refine wpAny_bind (wpAny_isInstance (T := "StopIteration") (b := true) ⟨o, ho, hcl⟩ isSubtype_stop ?_)
    exact wpAny_pure ⟨rfl, I.turned (t' := s.toks) (fun b o hb q => he' b o hb q) f0 f1 f3 f4 f5⟩
  self := fun A i s Q E st h => let ⟨⟨_, he⟩, _⟩ := st; wpAny_pyIter_enum he h
def iEnA (K : PySem.W.Frag) (ta : TA) : TI := fun σ H R => ta σ H fun vs H1 => ∃ a xs, vs = [.ref a] ∧ ((SqL K H1 a xs ∧ R (Ite K a) H1) ∨ (SqT K H1 a xs ∧ R (IteT K a) H1))
theorem pi_enA {X : Cx} {e : Expr} {ta : TA} {p pos tpos : Pos} {elts : List Expr} {kk : Nat} (hg : Gl X "enumerate") (hm : X.mg "enumerate" = none) (ha : PA X [e] ta) (hs : starEach [e] X.env = [(false, eval e X.env)]) :
    PI X (.Tuple elts kk tpos) (.Call (.Name "enumerate" p) [e] [] pos) (iEnA X.K ta) := by
  refine ⟨fun pins s σ H R I h => ?_⟩
  refine Call_ (ld_blt I hg hm boot_enumerate (PyProof.Rows.callWith_type1 (thn (ha.run pos pins s σ H _ I h) fun us s1 ⟨vs, H1, I1, r1, q1⟩ => ?_) hs rfl))
  obtain ⟨a, xs, ex, q1⟩ := q1
  subst ex
  cases r1 with
  | cons r rr =>
    cases rr
    cases r
    rcases q1 with ⟨hq, q⟩ | ⟨hq, q⟩
    · obtain ⟨its, rv, p', hz⟩ := I1.list hq
      refine call_enumerate_list p'.isList fun h' he hit hsz hk => wpAny_pyIter_enum he ?_
      have I2 : Inv X pins σ H1 { s1 with heap := h' } := I1.kept (t' := s1.toks) hk
      refine ⟨s1.heap.objs.size + 1, [s1.heap.objs.size + 1, s1.heap.objs.size], _, _, H1, rfl, I2, turn_enum a (s1.heap.objs.size + 1) s1.heap.objs.size, ⟨⟨.none, he⟩, hit, Nat.succ_ne_self _⟩, fun b hb => ?_, q⟩
      have hle : s1.heap.objs.size ≤ b := by
        have e' : b = s1.heap.objs.size + 1 ∨ b = s1.heap.objs.size := by simpa using hb
        rcases e' with z | z
        · rw [z]; exact Nat.le_add_right _ _
        · rw [z]; exact Nat.le_refl _
      exact I1.fpOk hle (I1.hok.fresh hle)
    · obtain ⟨its, rv, p', hz⟩ := I1.tuple hq
      have hp : s1.heap.IsTuple a its.toArray := p'
      have hal : a < s1.heap.objs.size := by obtain ⟨o, ho, _⟩ := hp; exact Heap.lt_size ho
      refine EnT.call_tup hp fun h' he hit hk => wpAny_pyIter_enum he ?_
      have I2 : Inv X pins σ H1 { s1 with heap := h' } := I1.kept (t' := s1.toks) hk
      refine ⟨s1.heap.objs.size + 1, [s1.heap.objs.size + 1, s1.heap.objs.size], _, _, H1, rfl, I2, turn_enT a (s1.heap.objs.size + 1) s1.heap.objs.size (Nat.ne_of_lt hal) (Nat.ne_of_lt (Nat.lt_succ_of_lt hal)), ⟨⟨.none, he⟩, hit, Nat.succ_ne_self _⟩, fun b hb => ?_, q⟩
      have hle : s1.heap.objs.size ≤ b := by
        have e' : b = s1.heap.objs.size + 1 ∨ b = s1.heap.objs.size := by simpa using hb
        rcases e' with z | z
        · rw [z]; exact Nat.le_add_right _ _
        · rw [z]; exact Nat.le_refl _
      exact I1.fpOk hle (I1.hok.fresh hle)
end L2

/-! more built-ins: min, max, sum of tuples; enumerate, zip; gcd; index; extend -/
namespace Bv
open PySem PySem.Spec PySem.W PySem.Calls PyProof.Rows PyProof.V L2 RZ
section
variable {prog : Program} {w : World} {A : Around} {E : Value → Shared → Prop} {s : Shared} {t : Addr}
theorem old_tup {h' : Heap} {ob : Obj} (hk : ∀ b o, b ∉ [s.heap.objs.size] → (s.heap.push ob).get? b = some o → h'.get? b = some o) : ∀ b o, s.heap.get? b = some o → h'.get? b = some o := fun b o e => by
  refine hk b o (fun hm => ?_) (Heap.get?_push_of_some _ e)
  rcases List.mem_cons.mp hm with e1 | hm
  · exact absurd (e1 ▸ Heap.lt_size e) (Nat.lt_irrefl _)
  · cases hm
theorem min_intTup {xs : Array (Int × Tok)} {Q : Value → Shared → Prop} (hh : A.handled = none) (ht : s.heap.IsTuple t (intItems xs)) (hne : 0 < xs.size)
    (h : ∀ v h' tk, (intItems xs)[argBest (fun i j => decide (numAt xs i < numAt xs j)) (xs.size - 1)]? = some v → (∀ b o, s.heap.get? b = some o → h'.get? b = some o) → Q v { s with heap := h', toks := tk }) :
    wpAny (model prog w) A (call (.builtin "min") [.ref t]) Q E s := by
  obtain ⟨o, ho, hc, n, hd⟩ := id ht
  have hn : t ≠ s.heap.objs.size := Nat.ne_of_lt (Heap.lt_size ho)
  refine call_min_walk (wpAny_pyIter_tuple ht ?_)
  refine ⟨s.heap.objs.size, _, _, _, _, _, _, rfl, Walks.tuple (A := A.in1) hh s.heap.objs.size t hn (intItems xs), ⟨⟨_, Heap.get?_push_size _ rfl, rfl, rfl⟩, ht.at fun o e => Heap.get?_push_of_some _ e⟩, fun b hb => ?_, by simpa [intItems] using hne, CmpOf.ints_lt (numAt xs) (fun _ _ => intItems_at), fun v h' tk hP hk => ?_⟩
  · rcases List.mem_cons.mp hb with rfl | hb
    · exact Heap.lt_size (Heap.get?_push_size _ rfl)
    · obtain rfl := List.mem_singleton.mp hb
      exact Heap.lt_size (Heap.get?_push_of_some _ ho)
  · exact h v h' tk (by simpa [intItems] using hP) (old_tup hk)
theorem max_intTup {xs : Array (Int × Tok)} {Q : Value → Shared → Prop} (hh : A.handled = none) (ht : s.heap.IsTuple t (intItems xs)) (hne : 0 < xs.size)
    (h : ∀ v h' tk, (intItems xs)[argBest (fun i j => decide (numAt xs i > numAt xs j)) (xs.size - 1)]? = some v → (∀ b o, s.heap.get? b = some o → h'.get? b = some o) → Q v { s with heap := h', toks := tk }) :
    wpAny (model prog w) A (call (.builtin "max") [.ref t]) Q E s := by
  obtain ⟨o, ho, hc, n, hd⟩ := id ht
  have hn : t ≠ s.heap.objs.size := Nat.ne_of_lt (Heap.lt_size ho)
  refine call_max_walk (wpAny_pyIter_tuple ht ?_)
  refine ⟨s.heap.objs.size, _, _, _, _, _, _, rfl, Walks.tuple (A := A.in1) hh s.heap.objs.size t hn (intItems xs), ⟨⟨_, Heap.get?_push_size _ rfl, rfl, rfl⟩, ht.at fun o e => Heap.get?_push_of_some _ e⟩, fun b hb => ?_, by simpa [intItems] using hne, CmpOf.ints_gt (numAt xs) (fun _ _ => intItems_at), fun v h' tk hP hk => ?_⟩
  · rcases List.mem_cons.mp hb with rfl | hb
    · exact Heap.lt_size (Heap.get?_push_size _ rfl)
    · obtain rfl := List.mem_singleton.mp hb
      exact Heap.lt_size (Heap.get?_push_of_some _ ho)
  · exact h v h' tk (by simpa [intItems] using hP) (old_tup hk)
variable {its : List Value} {ns : List Int} {Q : Value → Shared → Prop}
theorem sumT_raw (hh : A.handled = none) (hl : s.heap.IsTuple t its.toArray) (hi : IntsAre its ns)
    (h : ∀ h' tk t', (∀ b o, s.heap.get? b = some o → h'.get? b = some o) → Q (.int ns.sum t') { s with heap := h', toks := tk }) : wpAny (model prog w) A (call (.builtin "sum") [.ref t]) Q E s := by
  obtain ⟨xs, e⟩ := hi.allInts.items
  have hn : numsOf (intItems xs).toList = ns := by rw [← e]; exact hi.numsOf
  rw [nums_intItems] at hn
  rw [e] at hl
  refine PySem.W.ktm_sumG hh hl fun h' tk t' hk => ?_
  have := h h' tk t' hk
  rw [preSum_eq, List.take_of_length_le (by simp), hn]; exact this
theorem maxT_raw (hh : A.handled = none) (hl : s.heap.IsTuple t its.toArray) (hi : IntsAre its ns) (hne : 0 < ns.length)
    (h : ∀ h' tk M t', (∀ b o, s.heap.get? b = some o → h'.get? b = some o) → M ∈ ns → (∀ a, a ∈ ns → a ≤ M) → Q (.int M t') { s with heap := h', toks := tk }) : wpAny (model prog w) A (call (.builtin "max") [.ref t]) Q E s := by
  obtain ⟨xs, e⟩ := hi.allInts.items
  have hn : numsOf (intItems xs).toList = ns := by rw [← e]; exact hi.numsOf
  rw [nums_intItems] at hn
  subst hn
  rw [e] at hl
  have hsz : 0 < xs.size := by simpa using hne
  refine max_intTup hh hl hsz fun v h' tk hv hk => ?_
  obtain ⟨t, rfl⟩ := intItems_at hv
  obtain ⟨h1, h2⟩ := argBest_gt (numAt xs) (xs.size - 1)
  refine h h' tk _ t hk ?_ fun a ha => ?_
  · rw [numAt_eq]; exact PySem.getD_mem (by rw [List.length_map, Array.length_toList]; omega)
  · obtain ⟨j, hj, rfl⟩ := mem_getD ha
    rw [List.length_map, Array.length_toList] at hj
    rw [← numAt_eq]; exact h2 j (by omega)
theorem minT_raw (hh : A.handled = none) (hl : s.heap.IsTuple t its.toArray) (hi : IntsAre its ns) (hne : 0 < ns.length)
    (h : ∀ h' tk M t', (∀ b o, s.heap.get? b = some o → h'.get? b = some o) → M ∈ ns → (∀ a, a ∈ ns → M ≤ a) → Q (.int M t') { s with heap := h', toks := tk }) : wpAny (model prog w) A (call (.builtin "min") [.ref t]) Q E s := by
  obtain ⟨xs, e⟩ := hi.allInts.items
  have hn : numsOf (intItems xs).toList = ns := by rw [← e]; exact hi.numsOf
  rw [nums_intItems] at hn
  subst hn
  rw [e] at hl
  have hsz : 0 < xs.size := by simpa using hne
  refine min_intTup hh hl hsz fun v h' tk hv hk => ?_
  obtain ⟨t, rfl⟩ := intItems_at hv
  obtain ⟨h1, h2⟩ := argBest_lt (numAt xs) (xs.size - 1)
  refine h h' tk _ t hk ?_ fun a ha => ?_
  · rw [numAt_eq]; exact PySem.getD_mem (by rw [List.length_map, Array.length_toList]; omega)
  · obtain ⟨j, hj, rfl⟩ := mem_getD ha
    rw [List.length_map, Array.length_toList] at hj
    rw [← numAt_eq]; exact h2 j (by omega)
end
section
variable {X : Cx}
def rSumT (K : PySem.W.Frag) : List V → Hp → VK → Prop := fun vs H Q => ∃ (a : Addr) (ns : List Int), vs = [V.ref a] ∧ SqT K H a (ns.map V.int) ∧ Q (.int ns.sum) H
def rMaxT (K : PySem.W.Frag) : List V → Hp → VK → Prop := fun vs H Q => ∃ (a : Addr) (ns : List Int), vs = [V.ref a] ∧ SqT K H a (ns.map V.int) ∧ 0 < ns.length ∧ ∀ m, m ∈ ns → (∀ y, y ∈ ns → y ≤ m) → Q (.int m) H
def rMinT (K : PySem.W.Frag) : List V → Hp → VK → Prop := fun vs H Q => ∃ (a : Addr) (ns : List Int), vs = [V.ref a] ∧ SqT K H a (ns.map V.int) ∧ 0 < ns.length ∧ ∀ m, m ∈ ns → (∀ y, y ∈ ns → m ≤ y) → Q (.int m) H
theorem cr_sumT (hc : X.calm = true) : CallR X (.builtin "sum") (rSumT X.K) := by
  intro pins s σ H vs us Q I r h
  obtain ⟨a, ns, rfl, hs, q⟩ := h
  obtain ⟨its, rv, hl, _⟩ := I.tuple hs
  rw [Vals.ref1 r]
  exact sumT_raw (I.ok.hd hc) hl rv.ints fun h' tk t' hk => ⟨.int _, H, I.kept hk, ⟨_, rfl⟩, q⟩
theorem cr_maxT (hc : X.calm = true) : CallR X (.builtin "max") (rMaxT X.K) := by
  intro pins s σ H vs us Q I r h
  obtain ⟨a, ns, rfl, hs, hne, q⟩ := h
  obtain ⟨its, rv, hl, _⟩ := I.tuple hs
  rw [Vals.ref1 r]
  exact maxT_raw (I.ok.hd hc) hl rv.ints hne fun h' tk m t' hk h1 h2 => ⟨.int _, H, I.kept hk, ⟨_, rfl⟩, q m h1 h2⟩
theorem cr_minT (hc : X.calm = true) : CallR X (.builtin "min") (rMinT X.K) := by
  intro pins s σ H vs us Q I r h
  obtain ⟨a, ns, rfl, hs, hne, q⟩ := h
  obtain ⟨its, rv, hl, _⟩ := I.tuple hs
  rw [Vals.ref1 r]
  exact minT_raw (I.ok.hd hc) hl rv.ints hne fun h' tk m t' hk h1 h2 => ⟨.int _, H, I.kept hk, ⟨_, rfl⟩, q m h1 h2⟩
end
variable {n : Nm} {W : WX} {X : Cx}
theorem OIs.intsT {c : Cf} {v : V} {l : L} {ds : List D} {ns : List Int} (k : Ok n c) (h : OIs n c v l) (e : l.d = .tup ds) (q : intsOf ds = some ns) : ∃ a, v = .ref a ∧ SqT n.K c.H a (ns.map V.int) := by
  obtain ⟨a, vs, rfl, h1, h2⟩ := h.tup k e
  rw [intsOf_some q] at h2
  rw [h2.ints] at h1
  exact ⟨a, rfl, h1⟩
def sumW2 (l : L) : M L := match l.d with
  | .lst ds => (match intsOf ds with | some ns => pure (.sh (.int ns.sum)) | none => bad)
  | .tup ds => (match intsOf ds with | some ns => pure (.sh (.int ns.sum)) | none => bad)
  | _ => bad
theorem calls_sum2 : CallW n W (fun xs H Q => rSum n.K xs H Q ∨ rSumT n.K xs H Q) sumW2 := fun c x l Q k i o => by
  unfold sumW2 at o
  cases e : l.d with
  | lst ds =>
    rw [e] at o
    dsimp only at o
    cases q : intsOf ds with
    | some ns =>
      rw [q] at o
      obtain ⟨a, rfl, h⟩ := i.ints k e q
      exact .inl ⟨a, ns, rfl, h, o.sh k (.int _)⟩
    | none => rw [q] at o; exact o.not_bad
  | tup ds =>
    rw [e] at o
    dsimp only at o
    cases q : intsOf ds with
    | some ns =>
      rw [q] at o
      obtain ⟨a, rfl, h⟩ := i.intsT k e q
      exact .inr ⟨a, ns, rfl, h, o.sh k (.int _)⟩
    | none => rw [q] at o; exact o.not_bad
  | _ => rw [e] at o; exact o.not_bad
def bestW2 (f : List Int → Int) (l : L) : M L := match l.d with
  | .lst ds => (match intsOf ds with | some ns => if 0 < ns.length then pure (.sh (.int (f ns))) else bad | none => bad)
  | .tup ds => (match intsOf ds with | some ns => if 0 < ns.length then pure (.sh (.int (f ns))) else bad | none => bad)
  | _ => bad
theorem calls_best2 {f : List Int → Int} {rL rT : List V → Hp → VK → Prop} (hL : ∀ (a : Addr) (ns : List Int) (H : Hp) (Q : VK), SqL n.K H a (ns.map V.int) → 0 < ns.length → Q (.int (f ns)) H → rL [.ref a] H Q)
    (hT : ∀ (a : Addr) (ns : List Int) (H : Hp) (Q : VK), SqT n.K H a (ns.map V.int) → 0 < ns.length → Q (.int (f ns)) H → rT [.ref a] H Q) : CallW n W (fun xs H Q => rL xs H Q ∨ rT xs H Q) (bestW2 f) := fun c x l Q k i o => by
  unfold bestW2 at o
  cases e : l.d with
  | lst ds =>
    rw [e] at o
    dsimp only at o
    cases q : intsOf ds with
    | some ns =>
      rw [q] at o
      dsimp only at o
      obtain ⟨a, rfl, h⟩ := i.ints k e q
      split at o
      · rename_i hz
        exact .inl (hL a ns _ _ h hz (o.sh k (.int _)))
      · exact o.not_bad
    | none => rw [q] at o; exact o.not_bad
  | tup ds =>
    rw [e] at o
    dsimp only at o
    cases q : intsOf ds with
    | some ns =>
      rw [q] at o
      dsimp only at o
      obtain ⟨a, rfl, h⟩ := i.intsT k e q
      split at o
      · rename_i hz
        exact .inr (hT a ns _ _ h hz (o.sh k (.int _)))
      · exact o.not_bad
    | none => rw [q] at o; exact o.not_bad
  | _ => rw [e] at o; exact o.not_bad
theorem calls_max2W : CallW n W (fun xs H Q => rMax n.K xs H Q ∨ rMaxT n.K xs H Q) (bestW2 maxI) :=
  calls_best2 (fun a ns H Q h hz q => ⟨a, ns, rfl, h, hz, fun m h1 h2 => by rw [maxI_is h1 h2]; exact q⟩) (fun a ns H Q h hz q => ⟨a, ns, rfl, h, hz, fun m h1 h2 => by rw [maxI_is h1 h2]; exact q⟩)
theorem calls_min2W : CallW n W (fun xs H Q => rMin n.K xs H Q ∨ rMinT n.K xs H Q) (bestW2 minI) :=
  calls_best2 (fun a ns H Q h hz q => ⟨a, ns, rfl, h, hz, fun m h1 h2 => by rw [minI_is h1 h2]; exact q⟩) (fun a ns H Q h hz q => ⟨a, ns, rfl, h, hz, fun m h1 h2 => by rw [minI_is h1 h2]; exact q⟩)
/-! ### enumerate, zip -/
def enD : Nat → List D → List D
  | _, [] => []
  | k, d :: ds => .tup [.int (k : Nat), d] :: enD (k + 1) ds
theorem enD_len : ∀ (k : Nat) (ds : List D), (enD k ds).length = ds.length
  | _, [] => rfl
  | k, d :: ds => by show (enD (k + 1) ds).length + 1 = ds.length + 1; rw [enD_len]
theorem enD_get : ∀ (k i : Nat) (ds : List D) (d : D), ds[i]? = some d → (enD k ds)[i]? = some (.tup [.int ((k + i : Nat) : Int), d])
  | _, _, [], _, h => by simp at h
  | k, 0, e :: ds, d, h => by
    have h : e = d := by simpa using h
    subst h
    show some (D.tup [.int (k : Nat), e]) = _
    rfl
  | k, i + 1, e :: ds, d, h => by
    have h : ds[i]? = some d := by simpa using h
    show (enD (k + 1) ds)[i]? = _
    rw [enD_get (k + 1) i ds d h, show k + 1 + i = k + (i + 1) by omega]
theorem wk_enum {c1 : Cf} {a : Addr} {vs : List V} {ds : List D} (h : c1.F a = some (.lst vs)) (i : IsL n c1.F c1.φ vs ds) : Wk n c1 (Ite n.K a) (enD 0 ds) where
  go := fun j c hj k f => by
    rw [enD_len] at hj
    have q : SqL n.K c.H a vs := .of (k.sub _ _ (f.F _ _ h))
    exact ⟨vs, vs[j]'(by rw [i.length]; exact hj), q, List.getElem?_eq_getElem _⟩
  yld := fun j c x H' hj k f y => by
    have q : SqL n.K c.H a vs := .of (k.sub _ _ (f.F _ _ h))
    obtain ⟨T, x', rfl, hT, rfl, y⟩ := y
    obtain ⟨d, h1, h2⟩ := i.getV (y vs q)
    obtain ⟨k2, s2⟩ := k.allocF (o := .tup [.int (j : Nat), x']) hT
    refine ⟨{ c with H := upd c.H T (.tup [.int (j : Nat), x']), F := upd c.F T (.tup [.int (j : Nat), x']) }, .tup [.int ((j : Nat) : Int), d], rfl, rfl, rfl, s2, k2, ?_, ?_⟩
    · have := enD_get 0 j ds d h1
      rw [Nat.zero_add] at this
      exact this
    · exact .tup upd_same (.cons (.int _) (.cons (s2.is (f.is h2)) .nil))
  stop := fun c k f => ⟨vs, .of (k.sub _ _ (f.F _ _ h)), by rw [enD_len, i.length]; exact Nat.le_refl _⟩
theorem wk_enT {c1 : Cf} {a : Addr} {vs : List V} {ds : List D} (h : SqT n.K c1.F a vs) (i : IsL n c1.F c1.φ vs ds) : Wk n c1 (IteT n.K a) (enD 0 ds) where
  go := fun j c hj k f => by
    rw [enD_len] at hj
    have q : SqT n.K c.H a vs := (k.sub.seqT (f.F.seqT h))
    exact ⟨vs, vs[j]'(by rw [i.length]; exact hj), q, List.getElem?_eq_getElem _⟩
  yld := fun j c x H' hj k f y => by
    have q : SqT n.K c.H a vs := (k.sub.seqT (f.F.seqT h))
    obtain ⟨T, x', rfl, hT, rfl, y⟩ := y
    obtain ⟨d, h1, h2⟩ := i.getV (y vs q)
    obtain ⟨k2, s2⟩ := k.allocF (o := .tup [.int (j : Nat), x']) hT
    refine ⟨{ c with H := upd c.H T (.tup [.int (j : Nat), x']), F := upd c.F T (.tup [.int (j : Nat), x']) }, .tup [.int ((j : Nat) : Int), d], rfl, rfl, rfl, s2, k2, ?_, ?_⟩
    · have := enD_get 0 j ds d h1
      rw [Nat.zero_add] at this
      exact this
    · exact .tup upd_same (.cons (.int _) (.cons (s2.is (f.is h2)) .nil))
  stop := fun c k f => ⟨vs, k.sub.seqT (f.F.seqT h), by rw [enD_len, i.length]; exact Nat.le_refl _⟩
def zpD : List D → List D → List D
  | d :: ds, e :: es => .tup [d, e] :: zpD ds es
  | _, _ => []
theorem zpD_len : ∀ (ds es : List D), (zpD ds es).length = min ds.length es.length
  | [], _ => by simp [zpD]
  | _ :: _, [] => by simp [zpD]
  | d :: ds, e :: es => by show (zpD ds es).length + 1 = _; rw [zpD_len, List.length_cons, List.length_cons]; omega
theorem zpD_get : ∀ (i : Nat) (ds es : List D) (d e : D), ds[i]? = some d → es[i]? = some e → (zpD ds es)[i]? = some (.tup [d, e])
  | _, [], _, _, _, h, _ => by simp at h
  | _, _ :: _, [], _, _, _, h => by simp at h
  | 0, x :: ds, y :: es, d, e, h, h' => by
    have h : x = d := by simpa using h
    have h' : y = e := by simpa using h'
    subst h h'
    rfl
  | i + 1, x :: ds, y :: es, d, e, h, h' => zpD_get i ds es d e (by simpa using h) (by simpa using h')
theorem wk_zip {c1 : Cf} {a b : Addr} {vs us : List V} {ds es : List D} (h : c1.F a = some (.lst vs)) (h' : c1.F b = some (.lst us)) (i : IsL n c1.F c1.φ vs ds) (i' : IsL n c1.F c1.φ us es) : Wk n c1 (Itz n.K a b) (zpD ds es) where
  go := fun j c hj k f => by
    rw [zpD_len] at hj
    have l1 := i.length
    have l2 := i'.length
    exact ⟨vs, us, vs[j]'(by omega), us[j]'(by omega), .of (k.sub _ _ (f.F _ _ h)), .of (k.sub _ _ (f.F _ _ h')), List.getElem?_eq_getElem _, List.getElem?_eq_getElem _⟩
  yld := fun j c x H' hj k f y => by
    obtain ⟨T, x', y', rfl, hT, rfl, y1, y2⟩ := y
    obtain ⟨d, h1, h2⟩ := i.getV (y1 vs (.of (k.sub _ _ (f.F _ _ h))))
    obtain ⟨e, h3, h4⟩ := i'.getV (y2 us (.of (k.sub _ _ (f.F _ _ h'))))
    obtain ⟨k2, s2⟩ := k.allocF (o := .tup [x', y']) hT
    exact ⟨{ c with H := upd c.H T (.tup [x', y']), F := upd c.F T (.tup [x', y']) }, .tup [d, e], rfl, rfl, rfl, s2, k2, zpD_get j ds es d e h1 h3, .tup upd_same (.cons (s2.is (f.is h2)) (.cons (s2.is (f.is h4)) .nil))⟩
  stop := fun c k f => ⟨vs, us, .of (k.sub _ _ (f.F _ _ h)), .of (k.sub _ _ (f.F _ _ h')), by
    rw [zpD_len, i.length, i'.length]
    omega⟩
theorem wk_zipT {c1 : Cf} {a b : Addr} {vs us : List V} {ds es : List D} (h : SqT n.K c1.F a vs) (h' : SqT n.K c1.F b us) (i : IsL n c1.F c1.φ vs ds) (i' : IsL n c1.F c1.φ us es) : Wk n c1 (ItzT n.K a b) (zpD ds es) where
  go := fun j c hj k f => by
    rw [zpD_len] at hj
    have l1 := i.length
    have l2 := i'.length
    exact ⟨vs, us, vs[j]'(by omega), us[j]'(by omega), k.sub.seqT (f.F.seqT h), k.sub.seqT (f.F.seqT h'), List.getElem?_eq_getElem _, List.getElem?_eq_getElem _⟩
  yld := fun j c x H' hj k f y => by
    obtain ⟨T, x', y', rfl, hT, rfl, y1, y2⟩ := y
    obtain ⟨d, h1, h2⟩ := i.getV (y1 vs (k.sub.seqT (f.F.seqT h)))
    obtain ⟨e, h3, h4⟩ := i'.getV (y2 us (k.sub.seqT (f.F.seqT h')))
    obtain ⟨k2, s2⟩ := k.allocF (o := .tup [x', y']) hT
    exact ⟨{ c with H := upd c.H T (.tup [x', y']), F := upd c.F T (.tup [x', y']) }, .tup [d, e], rfl, rfl, rfl, s2, k2, zpD_get j ds es d e h1 h3, .tup upd_same (.cons (s2.is (f.is h2)) (.cons (s2.is (f.is h4)) .nil))⟩
  stop := fun c k f => ⟨vs, us, k.sub.seqT (f.F.seqT h), k.sub.seqT (f.F.seqT h'), by
    rw [zpD_len, i.length, i'.length]
    omega⟩
def enW (ds : List D) : M (List D) := match ds with
  | [.lst es] => pure (enD 0 es)
  | [.tup es] => pure (enD 0 es)
  | _ => bad
def zpW (ds : List D) : M (List D) := match ds with
  | [.lst es, .lst fs] => pure (zpD es fs)
  | [.tup es, .tup fs] => pure (zpD es fs)
  | _ => bad
theorem bi_enum {elts : List Expr} {kk : Nat} {tpos : Pos} {a : Expr} {p pos : Pos} {fs : M (List D)} (hK : X.K = n.K) (hg : Gl X "enumerate") (hm : X.mg "enumerate" = none) (ha : PA X [a] (tA n W fs)) (hs : starEach [a] X.env = [(false, eval a X.env)]) :
    PI X (.Tuple elts kk tpos) (.Call (.Name "enumerate" p) [a] [] pos) (tI n W (rgM fs enW)) := (pi_enA hg hm ha hs).imp fun σ H R ⟨c, e1, e2, k, o⟩ => by
  subst e1 e2
  refine ⟨c, rfl, rfl, k, Out.bind (P1 := PL n) trI o fun vs c1 ds e1 s1 k1 i1 o1 => ?_⟩
  unfold enW at o1
  split at o1
  · rename_i es
    obtain ⟨v, rfl, hv⟩ : ∃ v, vs = [v] ∧ Is n c1.F c1.φ v (.lst es) := by
      cases i1 with
      | cons h t => cases t; exact ⟨_, rfl, h⟩
    obtain ⟨b, us, rfl, h1, h2⟩ := is_lst hv
    refine ⟨b, us, rfl, .inl ⟨.of (k1.sub _ _ h1), ?_⟩⟩
    rw [hK]
    exact o1.fin k1 (wk_enum h1 h2)
  · rename_i es
    obtain ⟨v, rfl, hv⟩ : ∃ v, vs = [v] ∧ Is n c1.F c1.φ v (.tup es) := by
      cases i1 with
      | cons h t => cases t; exact ⟨_, rfl, h⟩
    obtain ⟨b, us, rfl, h1, h2⟩ := is_tup hv
    refine ⟨b, us, rfl, .inr ⟨by rw [hK]; exact k1.sub.seqT h1, ?_⟩⟩
    rw [hK]
    exact o1.fin k1 (wk_enT h1 h2)
  · exact o1.not_bad
theorem bi_zip {elts : List Expr} {kk : Nat} {tpos : Pos} {a b : Expr} {p pos : Pos} {fs : M (List D)} (hK : X.K = n.K) (hg : Gl X "zip") (hm : X.mg "zip" = none) (ha : PA X [a, b] (tA n W fs)) (hs : starEach [a, b] X.env = (false, eval a X.env) :: starEach [b] X.env) (hpl : (backTo pos (starEach [b] X.env)).any (·.1) = false) :
    PI X (.Tuple elts kk tpos) (.Call (.Name "zip" p) [a, b] [] pos) (tI n W (rgM fs zpW)) := (pi_zipA hg hm ha hs hpl).imp fun σ H R ⟨c, e1, e2, k, o⟩ => by
  subst e1 e2
  refine ⟨c, rfl, rfl, k, Out.bind (P1 := PL n) trI o fun vs c1 ds e1 s1 k1 i1 o1 => ?_⟩
  unfold zpW at o1
  split at o1
  · rename_i es fs'
    obtain ⟨v, w, rfl, hv, hw⟩ : ∃ v w, vs = [v, w] ∧ Is n c1.F c1.φ v (.lst es) ∧ Is n c1.F c1.φ w (.lst fs') := by
      cases i1 with
      | cons h t =>
        cases t with
        | cons h2 t => cases t; exact ⟨_, _, rfl, h, h2⟩
    obtain ⟨b1, us, rfl, h1, h2⟩ := is_lst hv
    obtain ⟨b2, us2, rfl, h3, h4⟩ := is_lst hw
    refine ⟨b1, b2, us, us2, rfl, .inl ⟨.of (k1.sub _ _ h1), .of (k1.sub _ _ h3), ?_⟩⟩
    rw [hK]
    exact o1.fin k1 (wk_zip h1 h3 h2 h4)
  · rename_i es fs'
    obtain ⟨v, w, rfl, hv, hw⟩ : ∃ v w, vs = [v, w] ∧ Is n c1.F c1.φ v (.tup es) ∧ Is n c1.F c1.φ w (.tup fs') := by
      cases i1 with
      | cons h t =>
        cases t with
        | cons h2 t => cases t; exact ⟨_, _, rfl, h, h2⟩
    obtain ⟨b1, us, rfl, h1, h2⟩ := is_tup hv
    obtain ⟨b2, us2, rfl, h3, h4⟩ := is_tup hw
    refine ⟨b1, b2, us, us2, rfl, .inr ⟨by rw [hK]; exact k1.sub.seqT h1, by rw [hK]; exact k1.sub.seqT h3, ?_⟩⟩
    rw [hK]
    exact o1.fin k1 (wk_zipT h1 h3 h2 h4)
  · exact o1.not_bad
/-! ### gcd -/
def gGcd (ds : List D) : M L := match ds with
  | [.int i, .int j] => pure (.sh (.int ((Nat.gcd i.natAbs j.natAbs : Nat) : Int)))
  | _ => bad
theorem calls_gcd : CallS n W rGcd gGcd := fun c vs ds Q k i o => by
  unfold gGcd at o
  split at o
  · cases i with
    | cons h1 t =>
      cases t with
      | cons h2 t =>
        cases t
        rw [is_int h1, is_int h2]
        exact ⟨_, _, rfl, o.sh k (.int _)⟩
  · exact o.not_bad
theorem be_gcd {x : Str} {p pos : Pos} {e : Expr} {es : List Expr} {fs : M (List D)} (hg : Gl X x) (hm : X.mg x = some (.builtin "math.gcd")) (ha : PA X (e :: es) (tA n W fs)) (hdb : (x == ("__debug__" : Str)) = false)
    (he : starEach (e :: es) X.env = (false, eval e X.env) :: starEach es X.env) (hpl : (backTo pos (starEach es X.env)).any (·.1) = false) : PE X (.Call (.Name x p) (e :: es) [] pos) (tO n W (fnM fs gGcd)) :=
  (pe_callBfun cr_gcd hg hm ha hdb he hpl).imp fun _ _ _ o => be_tCB calls_gcd o
/-! ### index -/
def gIdx (d e : D) : M L := match d with
  | .lst ds => (match pyL ds, e.py with
    | some qs, some p => if SeqAt.shaped (.list qs) && SeqAt.shaped p then (match qs.findIdx? fun z => PyData.eqv z p with
      | some j => pure (.sh (.int (j : Nat)))
      | none => bad) else bad
    | _, _ => bad)
  | _ => bad
def hfewB (e : Expr) (cpos : Pos) (env : Env) : Bool := (backTo cpos (starEach (e :: []) env)).all (fun x => !x.1) && (backToKw cpos (keywordEach [] env)).all (fun x => x.1.isSome) && decide ((e :: []).length + ([] : List Keyword).length + (if ([] : List Keyword).isEmpty then 0 else 1) < 30)
def idxM (fo fe : M D) : M L := do
  let d ← fo
  match d with
  | .lst ds => (do let e ← fe; gIdx (.lst ds) e)
  | _ => bad
theorem be_index {o e : Expr} {apos cpos : Pos} {fo fe : M D} (hu : X.A.units + 65 < cLine) (hK : X.K = n.K) (ho : PE X o (tX n W fo)) (he : PE X e (tX n W fe)) (hbase : attributeBase o "index" X.env (eval o X.env) = eval o X.env)
    (hfew : ((backTo cpos (starEach (e :: []) X.env)).all (fun x => !x.1) && (backToKw cpos (keywordEach [] X.env)).all (fun x => x.1.isSome) && decide ((e :: []).length + ([] : List Keyword).length + (if ([] : List Keyword).isEmpty then 0 else 1) < 30)) = true)
    (hline : (apos.endLine == cpos.line) = true) (hs : starEach (e :: []) X.env = (false, eval e X.env) :: starEach [] X.env) : PE X (.Call (.Attribute o "index" apos) [e] [] cpos) (tO n W (idxM fo fe)) :=
  (pe_bm PySem.F.plainAttrs_list PySem.F.slot_list_index PySem.F.type_list_index (mt_indexD hu) ho (pa_cons he pa_nil hs) hbase hfew hline hs rfl).imp fun σ H Q ⟨c, e1, e2, k, oo⟩ => by
    subst e1 e2
    refine ⟨c, rfl, rfl, k, Out.bind (P1 := PX n) trO oo fun x c1 d e1 s1 k1 i1 o1 => ?_⟩
    cases d with
    | lst ds =>
      obtain ⟨a, vs, rfl, h1, h2⟩ := is_lst i1
      refine ⟨.inl ⟨rfl, vs, .of (k1.sub _ _ h1)⟩, c1, e1, rfl, k1, Out.bind (P1 := PX n) trO o1 fun y c2 e e2 s2 k2 i2 o2 => ?_⟩
      have i3 : Is n c2.F c2.φ (.ref a) (.lst ds) := s2.is i1
      have o2 : Out n W (RV n) c2 ((match pyL ds, e.py with
        | some qs, some p => if SeqAt.shaped (.list qs) && SeqAt.shaped p then (match qs.findIdx? fun z => PyData.eqv z p with
          | some j => (pure (.sh (.int (j : Nat))) : M L)
          | none => bad) else bad
        | _, _ => bad) c2.S) Q := o2
      cases g1 : pyL ds with
      | none => rw [g1] at o2; exact o2.not_bad
      | some qs =>
        cases g2 : e.py with
        | none => rw [g1, g2] at o2; exact o2.not_bad
        | some p =>
          rw [g1, g2] at o2
          dsimp only at o2
          by_cases g3 : (SeqAt.shaped (.list qs) && SeqAt.shaped p) = true
          · rw [if_pos g3] at o2
            rw [Bool.and_eq_true] at g3
            cases g4 : qs.findIdx? fun z => PyData.eqv z p with
            | none => rw [g4] at o2; exact o2.not_bad
            | some j =>
              rw [g4] at o2
              have hl : (D.lst ds).py = some (.list qs) := by unfold D.py; rw [g1]; rfl
              obtain ⟨g5, g6, g7⟩ := List.findIdx?_eq_some_iff_getElem.mp g4
              refine ⟨a, y, p, qs, j, qs[j], rfl, rfl, ?_, ?_, g3.1, g3.2, List.getElem?_eq_getElem g5, by simpa using g6, fun m z' hm hz => ?_, o2.sh k2 (.int _)⟩
              · rw [hK]; exact i3.dp k2.sub hl
              · rw [hK]; exact i2.dp k2.sub g2
              · obtain ⟨hl2, hz2⟩ := List.getElem?_eq_some_iff.mp hz
                have := g7 m hm
                rw [hz2] at this
                simpa using this
          · rw [if_neg g3] at o2; exact o2.not_bad
    | _ => exact o1.not_bad
/-! ### extend -/
def extN (i : Nat) (d : D) : M L := fun s => match s.sl[i]?, d with
  | some (some (.ol ds)), .lst es => if ds.length + es.length ≤ lineN then .ok (.sh .non) { s with sl := s.sl.set i (some (.ol (ds ++ es))) } else .bad
  | _, _ => .bad
def extM (i : Nat) (f : M D) : M L := do chkL i; let d ← f; extN i d
theorem be_extend {e : Expr} {x : Str} {p1 apos cpos : Pos} {i : Nat} {f : M D} (hN : X.N[i]? = some x) (hv : Vis X.env.scope x) (hd : (x == ("__debug__" : Str)) = false) (hcd : (x == ("__classdict__" : Str)) = false) (he : PE X e (tX n W f))
    (hfew : ((backTo cpos (starEach (e :: []) X.env)).all (fun x => !x.1) && (backToKw cpos (keywordEach [] X.env)).all (fun x => x.1.isSome) && decide ((e :: []).length + ([] : List Keyword).length + (if ([] : List Keyword).isEmpty then 0 else 1) < 30)) = true)
    (hline : (apos.endLine == cpos.line) = true) (hs : starEach (e :: []) X.env = (false, eval e X.env) :: starEach [] X.env) : PE X (.Call (.Attribute (.Name x p1) "extend" apos) [e] [] cpos) (tO n W (extM i f)) :=
  (pe_bm PySem.F.plainAttrs_list PySem.F.slot_list_extend PySem.F.type_list_extend mt_extend (pe_var hN hv hd hcd) (pa_cons he pa_nil hs) rfl hfew hline hs rfl).imp fun σ H Q ⟨c, e1, e2, k, o⟩ => by
    subst e1 e2
    obtain ⟨ds, h1, o⟩ := chkL_some o
    obtain ⟨v, h2, a, vs, rfl, h3, h4, h5, h6⟩ := k.sl i _ h1
    refine ⟨.ref a, h2, .inl ⟨rfl, vs, .of h3⟩, c, rfl, rfl, k, Out.bind (P1 := PX n) trO o fun y c1 d e1 s1 k1 i1 o1 => ?_⟩
    unfold extN at o1
    cases q : c1.S.sl[i]? with
    | none => rw [q] at o1; exact o1.not_bad
    | some z =>
      rw [q] at o1
      cases z with
      | none => exact o1.not_bad
      | some z =>
        cases z with
        | ol es =>
          cases d with
          | lst fs =>
            dsimp only at o1
            split at o1
            · rename_i hz
              obtain ⟨v1, g1, a1, vs1, rfl, g3, g4, g5, g6⟩ := k1.sl i _ q
              rw [e1, h2] at g1
              cases g1
              obtain ⟨b, us, rfl, j1, j2⟩ := is_lst i1
              have hi : IsL n c1.F c1.φ (vs1 ++ us) (es ++ fs) := g6.append j2
              obtain ⟨k2, s2⟩ := k1.setOwn (y := .ol (es ++ fs)) (o := .lst (vs1 ++ us)) q rfl rfl (by rw [e1]; exact h2) ⟨a, _, rfl, upd_same, g4, g5, hi⟩
              refine ⟨a, b, vs1, us, rfl, rfl, g3, k1.sub _ _ j1, by rw [g6.length, j2.length, lineN_eq]; exact hz, ?_⟩
              exact o1 .non { c1 with S := { c1.S with sl := c1.S.sl.set i (some (.ol (es ++ fs))) }, H := upd c1.H a (.lst (vs1 ++ us)) } rfl rfl s2 k2 ⟨.non, fun z => by cases z⟩
            · exact o1.not_bad
          | _ => exact o1.not_bad
        | _ => exact o1.not_bad
/-! ### tuple(range(n)), list(range(n)) -/
def rgW (g : List D → L) (d : D) : M L := match d with
  | .int j => if decide (0 ≤ j) && decide (j ≤ 16777216) then pure (g (rgD 0 j.toNat)) else bad
  | _ => bad
def rgOf (f : M D) (g : List D → L) : M L := do
  let d ← f
  rgW g d
theorem isL_rg {F : Hp} {φ : List Addr} (j : Int) : IsL n F φ (rgV 0 j) (rgD 0 j.toNat) := by
  unfold rgV rgD
  have key : ∀ l : List Nat, IsL n F φ (l.map fun i => V.int (0 + (i : Nat))) (l.map fun i => D.int (0 + (i : Nat))) := fun l => by
    induction l with
    | nil => exact .nil
    | cons x r ih => exact .cons (.int _) ih
  have := key (List.range (j - 0).toNat)
  rw [Int.sub_zero] at this ⊢
  exact this
theorem be_tupRg {a : Expr} {f : M D} {p p2 pos pos2 : Pos} (hc : X.calm = true) (hg : Gl X "tuple") (hm : X.mg "tuple" = none) (hg2 : Gl X "range") (hm2 : X.mg "range" = none) (ha : PE X a (tX n W f)) (hs : starEach [a] X.env = (false, eval a X.env) :: starEach [] X.env) :
    PE X (.Call (.Name "tuple" p) [.Call (.Name "range" p2) [a] [] pos2] [] pos) (tO n W (rgOf f fun ds => .sh (.tup ds))) :=
  (pe_tupRg hc hg hm (prg_1 hg2 hm2 ha hs)).imp fun σ H Q ⟨c, e1, e2, k, o⟩ => by
    subst e1 e2
    refine ⟨c, rfl, rfl, k, Out.bind (P1 := PX n) trO o fun x c1 d e1 s1 k1 i1 o1 => ?_⟩
    unfold rgW at o1
    cases d with
    | int j =>
      dsimp only at o1
      split at o1
      · rename_i hz
        simp only [Bool.and_eq_true, decide_eq_true_eq] at hz
        refine ⟨j, is_int i1, .of_le (by omega) (by omega) (by omega) hz.1, fun q hq => ?_⟩
        exact o1.newTup k1 (isL_rg j) hq
      · exact o1.not_bad
    | _ => exact o1.not_bad
theorem be_lstRg {a : Expr} {f : M D} {p p2 pos pos2 : Pos} (hc : X.calm = true) (hg : Gl X "list") (hm : X.mg "list" = none) (hg2 : Gl X "range") (hm2 : X.mg "range" = none) (ha : PE X a (tX n W f)) (hs : starEach [a] X.env = (false, eval a X.env) :: starEach [] X.env) :
    PE X (.Call (.Name "list" p) [.Call (.Name "range" p2) [a] [] pos2] [] pos) (tO n W (rgOf f fun ds => .ol ds)) :=
  (pe_listRg hc hg hm (prg_1 hg2 hm2 ha hs)).imp fun σ H Q ⟨c, e1, e2, k, o⟩ => by
    subst e1 e2
    refine ⟨c, rfl, rfl, k, Out.bind (P1 := PX n) trO o fun x c1 d e1 s1 k1 i1 o1 => ?_⟩
    unfold rgW at o1
    cases d with
    | int j =>
      dsimp only at o1
      split at o1
      · rename_i hz
        simp only [Bool.and_eq_true, decide_eq_true_eq] at hz
        refine ⟨j, is_int i1, .of_le (by omega) (by omega) (by omega) hz.1, fun q hq => ?_⟩
        exact o1.newLst k1 (isL_rg j) hq
      · exact o1.not_bad
    | _ => exact o1.not_bad
/-! ### tuple(range(a, b)), list(range(a, b)) -/
def rgW2 (g : List D → L) (d e : D) : M L := match d, e with
  | .int i, .int j => if decide (-1073741824 ≤ i) && decide (i ≤ 1073741824) && decide (-1073741824 ≤ j) && decide (j ≤ 1073741824) && decide (j - i ≤ 16777216) then pure (g (rgD i (j - i).toNat)) else bad
  | _, _ => bad
def rgOf2 (fa fb : M D) (g : List D → L) : M L := do
  let d ← fa
  let e ← fb
  rgW2 g d e
theorem isL_rg2 {F : Hp} {φ : List Addr} (i j : Int) : IsL n F φ (rgV i j) (rgD i (j - i).toNat) := by
  unfold rgV rgD
  have key : ∀ l : List Nat, IsL n F φ (l.map fun k => V.int (i + (k : Nat))) (l.map fun k => D.int (i + (k : Nat))) := fun l => by
    induction l with
    | nil => exact .nil
    | cons x r ih => exact .cons (.int _) ih
  exact key _
section
variable {a b : Expr} {fa fb : M D} {p p2 pos pos2 : Pos}
theorem be_tupRg2 (hc : X.calm = true) (hg : Gl X "tuple") (hm : X.mg "tuple" = none) (hg2 : Gl X "range") (hm2 : X.mg "range" = none) (ha : PE X a (tX n W fa)) (hb : PE X b (tX n W fb)) (hs : starEach [a, b] X.env = (false, eval a X.env) :: starEach [b] X.env) (hs2 : starEach [b] X.env = (false, eval b X.env) :: starEach [] X.env) (hp : (backTo pos2 (starEach [b] X.env)).any (·.1) = false) :
    PE X (.Call (.Name "tuple" p) [.Call (.Name "range" p2) [a, b] [] pos2] [] pos) (tO n W (rgOf2 fa fb fun ds => .sh (.tup ds))) :=
  (pe_tupRg hc hg hm (prg_2 hg2 hm2 ha hb hs hs2 hp)).imp fun σ H Q ⟨c, e1, e2, k, o⟩ => by
    subst e1 e2
    refine ⟨c, rfl, rfl, k, Out.bind (P1 := PX n) trO o fun x c1 d e1 s1 k1 i1 o1 => ?_⟩
    refine ⟨c1, e1, rfl, k1, Out.bind (P1 := PX n) trO o1 fun y c2 e e2 s2 k2 i2 o2 => ?_⟩
    unfold rgW2 at o2
    split at o2
    · rename_i i j
      split at o2
      · rename_i hz
        simp only [Bool.and_eq_true, decide_eq_true_eq] at hz
        refine ⟨i, j, is_int i1, is_int i2, ⟨by omega, by omega, by omega, by omega, by omega⟩, fun q hq => ?_⟩
        exact o2.newTup k2 (isL_rg2 i j) hq
      · exact o2.not_bad
    · exact o2.not_bad
theorem be_lstRg2 (hc : X.calm = true) (hg : Gl X "list") (hm : X.mg "list" = none) (hg2 : Gl X "range") (hm2 : X.mg "range" = none) (ha : PE X a (tX n W fa)) (hb : PE X b (tX n W fb)) (hs : starEach [a, b] X.env = (false, eval a X.env) :: starEach [b] X.env) (hs2 : starEach [b] X.env = (false, eval b X.env) :: starEach [] X.env) (hp : (backTo pos2 (starEach [b] X.env)).any (·.1) = false) :
    PE X (.Call (.Name "list" p) [.Call (.Name "range" p2) [a, b] [] pos2] [] pos) (tO n W (rgOf2 fa fb fun ds => .ol ds)) :=
  (pe_listRg hc hg hm (prg_2 hg2 hm2 ha hb hs hs2 hp)).imp fun σ H Q ⟨c, e1, e2, k, o⟩ => by
    subst e1 e2
    refine ⟨c, rfl, rfl, k, Out.bind (P1 := PX n) trO o fun x c1 d e1 s1 k1 i1 o1 => ?_⟩
    refine ⟨c1, e1, rfl, k1, Out.bind (P1 := PX n) trO o1 fun y c2 e e2 s2 k2 i2 o2 => ?_⟩
    unfold rgW2 at o2
    split at o2
    · rename_i i j
      split at o2
      · rename_i hz
        simp only [Bool.and_eq_true, decide_eq_true_eq] at hz
        refine ⟨i, j, is_int i1, is_int i2, ⟨by omega, by omega, by omega, by omega, by omega⟩, fun q hq => ?_⟩
        exact o2.newLst k2 (isL_rg2 i j) hq
      · exact o2.not_bad
    · exact o2.not_bad
end
end Bv

/-! sorted of tuples of ints, of a dict's pairs -/
namespace Bv
open PySem PySem.Spec PyProof.Rows L2
theorem perm_map_inv {α β : Type} {f : α → β} : ∀ {l m : List β}, l.Perm m → ∀ ps : List α, ps.map f = m → ∃ qs : List α, qs.Perm ps ∧ qs.map f = l := fun {l m} h => by
  induction h with
  | nil => intro ps e; exact ⟨[], by rw [List.map_eq_nil_iff.mp e], rfl⟩
  | cons x h ih =>
    intro ps e
    cases ps with
    | nil => cases e
    | cons p ps =>
      rw [List.map_cons] at e
      obtain ⟨qs, h1, h2⟩ := ih ps (List.cons.inj e).2
      exact ⟨p :: qs, h1.cons p, by rw [List.map_cons, h2, (List.cons.inj e).1]⟩
  | swap x y l =>
    intro ps e
    match ps, e with
    | p :: q :: ps, e =>
      rw [List.map_cons, List.map_cons] at e
      have e1 := List.cons.inj e
      have e2 := List.cons.inj e1.2
      exact ⟨q :: p :: ps, List.Perm.swap p q ps, by rw [List.map_cons, List.map_cons, e1.1, e2.1, e2.2]⟩
  | trans h1 h2 i1 i2 =>
    intro ps e
    obtain ⟨qs, a1, a2⟩ := i2 ps e
    obtain ⟨rs, b1, b2⟩ := i1 qs a2
    exact ⟨rs, b1.trans a1, b2⟩
/-- at v: a tuple of these ints -/
def TupV (h : Heap) (v : Value) (ns : List Int) : Prop := ∃ a items, v = .ref a ∧ IsTup h a items ∧ IntsAre items.toList ns
theorem TupV.keeps {h h' : Heap} {v : Value} {ns : List Int} (x : TupV h v ns) (k : ∀ b o, h.get? b = some o → o.cls = .type "tuple" → h'.get? b = some o) : TupV h' v ns := by
  obtain ⟨a, items, e, ⟨o, ho, hc, r⟩, i⟩ := x
  exact ⟨a, items, e, ⟨o, k a o ho hc, hc, r⟩, i⟩
/-- the ints of the tuple at v -/
def kInts (h : Heap) : Value → List Int
  | .ref a => match h.get? a with
    | some o => match o.data with
      | .seq items _ => items.toList.map SrtO.iv
      | _ => []
    | none => []
  | _ => []
theorem kInts_eq {h : Heap} {v : Value} {ns : List Int} (x : TupV h v ns) : kInts h v = ns := by
  obtain ⟨a, items, rfl, ⟨o, ho, hc, n, hd⟩, i⟩ := x
  have e : kInts h (.ref a) = items.toList.map SrtO.iv := by simp only [kInts, ho, hd]
  rw [e]
  exact SrtO.iv_ints i
section
variable {prog : Program} {w : World} {A : Around} {E : Value → Shared → Prop} {s : Shared} {M : Model}
/-- < of two such tuples as sort asks it of one type alone -/
theorem lt_tup1 {v u : Value} {ns ms : List Int} {Q : Bool → Shared → Prop} (hu : A.units < cLine) (hv : TupV s.heap v ns) (hw : TupV s.heap u ms) (h : Q (HT.lexLt ns ms) s) : wpAny (model prog w) A (keyLt' oneType' v u) Q E s := by
  obtain ⟨a, items, rfl, ⟨⟨cls, dd, data, sl⟩, ho, hc, n, hd⟩, ia⟩ := hv
  obtain ⟨b, items2, rfl, ⟨⟨cls2, dd2, data2, sl2⟩, ho2, hc2, n2, hd2⟩, ib⟩ := hw
  simp only at hc hd hc2 hd2
  subst hc hd hc2 hd2
  have tv : PySem.W.Looks (model prog w) s.heap (typeOf (.ref a)) (.type "tuple") := (PySem.W.Looks.ld ho).andThen .now
  have sp : PySem.W.Looks (model prog w) s.heap (specialOf (.ref a) "__lt__") (some (.builtin "tuple.__lt__")) := tv.andThen (PySem.W.Looks.of_pure PySem.F.slot_tuple_lt.lookup)
  rw [keyLt'_oneType, oneLt'_eq]
  simp only [if_true]
  refine wpAny_bind (wpAny_cRoomFor hu ?_)
  refine wpAny_bind (NtL.csib (E := E) sp (PySem.F.slot_tuple_lt.bind _) (call_meets PySem.F.slot_tuple_lt ⟨_, ho, rfl⟩ PySem.F.entry_tuple_lt (PySem.F.args_tuple_lt_2 _ _) (HT.tuple_lt_ints a b items items2 n n2 dd dd2 sl sl2 ns ms ia ib) ⟨ho, ho2, ?_⟩))
  exact wpAny_truthy_bool h
/-- the first item of each, if there is one -/
def FstsT (h : Heap) : List Value → List (Option Value) → Prop
  | [], [] => True
  | v :: vs, f :: fs => (∃ a o xs n, v = .ref a ∧ h.get? a = some o ∧ o.cls = .type "tuple" ∧ o.data = .seq xs n ∧ xs[0]? = f) ∧ FstsT h vs fs
  | _, _ => False
theorem fsts_run : ∀ (vs : List Value) (fs : List (Option Value)) {Q : List (Option Value) → Shared → Prop}, FstsT s.heap vs fs → Q fs s → wpAny M A (vs.mapM firstOfTuple') Q E s
  | [], [], _, _, h => by rw [List.mapM_nil]; exact wpAny_pure h
  | [], _ :: _, _, t, _ => t.elim
  | _ :: _, [], _, t, _ => t.elim
  | v :: vs, f :: fs, Q, t, h => by
    obtain ⟨⟨a, o, xs, n, rfl, ho, hc, hd, hf⟩, t⟩ := t
    rw [List.mapM_cons]
    refine wpAny_bind ?_
    rw [PySem.W.kas_first_eq]
    refine wpAny_bind (PySem.W.Looks.here (show PySem.W.Looks M s.heap (typeOf (.ref a)) o.cls from (PySem.W.Looks.ld ho).andThen .now) ?_)
    rw [hc, if_neg (by first | decide | simp)]
    refine wpAny_bind (listItems_at ho hd (wpAny_pure ?_))
    rw [hf]
    exact wpAny_bind (fsts_run vs fs (Q := fun bs s' => wpAny M A (pure (f :: bs)) Q E s') t (wpAny_pure h))
theorem fsts_of {h : Heap} : ∀ vs : List Value, (∀ v ∈ vs, ∃ ns, TupV h v ns) → ∃ fs, FstsT h vs fs
  | [], _ => ⟨[], True.intro⟩
  | v :: vs, x => by
    obtain ⟨fs, hf⟩ := fsts_of vs fun u hu => x u (List.mem_cons_of_mem _ hu)
    obtain ⟨ns, a, items, e, ⟨o, ho, hc, n, hd⟩, i⟩ := x v List.mem_cons_self
    exact ⟨items[0]? :: fs, ⟨a, o, items, n, e, ho, hc, hd, rfl⟩, hf⟩
theorem kind_E {v : Value} {vs : List Value} {Q : SortKind → Shared → Prop} (hv : TupV s.heap v []) (hs : ∀ u ∈ vs, ∃ ns, TupV s.heap u ns) (h : Q oneType' s) : wpAny M A (keyKind' (v :: vs).toArray) Q E s := by
  obtain ⟨fs, hf⟩ := fsts_of vs hs
  have hf0 : FstsT s.heap (v :: vs) (none :: fs) := by
    obtain ⟨a, items, e, ⟨o, ho, hc, n, hd⟩, i⟩ := hv
    refine ⟨⟨a, o, items, n, e, ho, hc, hd, ?_⟩, hf⟩
    have : items.toList = [] := by
      generalize items.toList = q at i
      cases i
      rfl
    rw [← Array.getElem?_toList, this]
    rfl
  have hT : ∀ u ∈ v :: vs, PySem.W.Looks M s.heap (typeOf u) (.type "tuple") := fun u hu => by
    obtain ⟨ns, a, items, e, ⟨o, ho, hc, n, hd⟩, i⟩ : ∃ ns, TupV s.heap u ns := by
      rcases List.mem_cons.mp hu with rfl | hu
      · exact ⟨_, hv⟩
      · exact hs u hu
    subst e
    exact hc ▸ (PySem.W.Looks.ld ho).andThen .now
  rw [keyKind'_eq, List.mapM_toArray, map_eq_pure_bind]
  refine wpAny_bind (wpAny_bind (fsts_run _ _ hf0 (wpAny_pure ?_)))
  rw [if_neg (by simp), if_neg (by simp)]
  rw [oneTypeOnly'_eq, List.mapM_toArray, map_eq_pure_bind]
  refine wpAny_bind (wpAny_bind (wpAny_bind (PySem.W.kas_mapM (r := Value.type "tuple") _ (fun v hv Q' hq => (hT v hv).here hq) (wpAny_pure ?_))))
  have hall : ((List.map (fun _ => Value.type "tuple") (v :: vs)).toArray.all fun x => x == Value.type "tuple") = true := by
    simp only [List.all_toArray, List.all_map, List.all_eq_true]
    intro _ _
    rfl
  have h0 : (List.map (fun _ => Value.type "tuple") (v :: vs)).toArray[0]? = some (Value.type "tuple") := by simp
  rw [h0]
  simp only [hall, if_true]
  exact wpAny_pure (wpAny_pure h)
theorem tups_sortable {a : Addr} {v : Value} {vs : List Value} {k : Value → List Int} (hu : A.units < cLine) (hv : ∀ u ∈ v :: vs, TupV s.heap u (k u)) (h0 : k v = []) (ha : ∀ o, s.heap.get? a = some o → o.cls ≠ .type "tuple") : SrtO.SortableO prog w A s a (v :: vs) fun v u => HT.lexLt (k v) (k u) := by
  intro h' keep
  have hv' : ∀ u ∈ v :: vs, TupV h' u (k u) := fun u hm => (hv u hm).keeps fun b o e c => keep b o (fun z => by subst z; exact ha o e c) e
  refine ⟨oneType', fun Q E hq => ?_, fun p q hp hq => ?_⟩
  · exact kind_E (s := { s with heap := h' }) (by have := hv' v List.mem_cons_self; rwa [h0] at this) (fun u hu => ⟨_, hv' u (List.mem_cons_of_mem _ hu)⟩) hq
  · exact lt_tup1 (s := { s with heap := h' }) (Q := fun r s' => s' = { s with heap := h' } ∧ r = HT.lexLt (k p.1) (k q.1)) (E := fun _ _ => False) hu (hv' p.1 hp) (hv' q.1 hq) ⟨rfl, rfl⟩
end
/-! ### sorted(xs), xs tuples of ints, the first of them empty -/
def rSortE (K : PySem.W.Frag) : List V → Hp → VK → Prop := fun vs H Q => ∃ (a : Addr) (ps : List (Addr × List Int)), vs = [.ref a] ∧ SqL K H a (ps.map fun p => V.ref p.1) ∧ (∀ p ∈ ps, SqT K H p.1 (p.2.map V.int)) ∧ (∀ p, ps.head? = some p → p.2 = []) ∧
  ∀ (qs : List (Addr × List Int)) (p : Addr), qs.Perm ps → qs.Pairwise (fun p q => HT.lexLt q.2 p.2 = false) → H p = none → Q (.ref p) (upd H p (.lst (qs.map fun p => V.ref p.1)))
theorem refs_of {ps : List (Addr × List Int)} {us : List Value} (r : Vals (ps.map fun p => V.ref p.1) us) : us = ps.map fun p => Value.ref p.1 := by
  have z := nts_of (ts := ps.map (·.1)) (us := us) (by rw [List.map_map]; exact r)
  rw [z, List.map_map]; rfl
theorem of_refs {α : Type} (f : α → Addr) (ps : List α) : Vals (ps.map fun p => V.ref (f p)) (ps.map fun p => Value.ref (f p)) := by
  have z := of_nts (ps.map f)
  rw [List.map_map, List.map_map] at z
  exact z
theorem cr_sortE (hu : X.A.units + 64 < cLine) : CallR X (.builtin "sorted") (rSortE X.K) := by
  intro pins s σ H vs us Q I r h
  obtain ⟨a, ps, rfl, hs, hx, h0, q⟩ := h
  obtain ⟨its, rv, hl, hz⟩ := I.list hs
  obtain ⟨u, rfl, ru⟩ := vals1 r
  obtain rfl : u = Value.ref a := ru
  have ei := refs_of rv
  have tv : ∀ p ∈ ps, TupV s.heap (.ref p.1) p.2 := fun p hp => by
    obtain ⟨its, r1, r2, _⟩ := I.tuple (hx p hp)
    exact ⟨p.1, its.toArray, rfl, r2, by simpa using intsAre_of r1⟩
  have kv : ∀ p ∈ ps, kInts s.heap (.ref p.1) = p.2 := fun p hp => kInts_eq (tv p hp)
  have tk : ∀ v ∈ its, TupV s.heap v (kInts s.heap v) := fun v hv => by
    rw [ei] at hv
    obtain ⟨p, hp, rfl⟩ := List.mem_map.mp hv
    rw [kv p hp]; exact tv p hp
  have hlen : its.length = ps.length := by rw [ei, List.length_map]
  refine SrtO.sorted_ord (NtL.swo_lexL (kInts s.heap)) hl.isList (by rw [hlen]; rw [List.length_map] at hz; exact hz) (fun h2 h₁ b hb kk => ?_) fun out h1 h2 => ?_
  · cases ps with
    | nil => rw [hlen] at h2; simp at h2
    | cons p ps =>
      subst ei
      rw [List.map_cons]
      refine tups_sortable (s := { s with heap := h₁ }) (by have : X.A.in1.in1.units = X.A.units + 1 + 1 := rfl; omega) (fun u hu => ((tk u hu).keeps fun b o e _ => (kk b o e).2)) (by rw [kv p List.mem_cons_self]; exact h0 p rfl) fun o e => ?_
      have e' : some o = some (seqObj "list" (Value.ref p.1 :: ps.map fun p => Value.ref p.1).toArray 0) := e.symm.trans hb
      cases e'
      intro c
      exact absurd (Value.type.inj c) (by decide)
  · obtain ⟨qs, hq1, hq2⟩ := perm_map_inv h2.perm ps ei.symm
    have hs : qs.Pairwise (fun p q => HT.lexLt q.2 p.2 = false) := by
      have z : out.Pairwise (fun x y => HT.lexLt (kInts s.heap y) (kInts s.heap x) = false) := h1
      rw [← hq2, List.pairwise_map] at z
      refine List.Pairwise.imp_of_mem (fun {x y} hx hy h => ?_) z
      rw [kv x (hq1.mem_iff.mp hx), kv y (hq1.mem_iff.mp hy)] at h
      exact h
    obtain ⟨n, hn⟩ := sortedAll_at s.heap its out.toArray
    have rvo := of_refs (fun p : Addr × List Int => p.1) qs
    rw [hq2] at rvo
    refine ⟨.ref (s.heap.objs.size + 1), upd H (s.heap.objs.size + 1) (.lst (qs.map fun p => V.ref p.1)), I.laid (t' := s.toks) (fun b o e => sortedAll_old e) (Nat.le_succ _) ⟨?_, out, n, rvo, hn⟩, rfl, q qs _ hq1 hs (I.hok.fresh (Nat.le_succ _))⟩
    rw [List.length_map, hq1.length_eq]
    rw [List.length_map] at hz
    exact hz
/-! ### sorted(t), t a tuple of ints -/
theorem collect_tup {prog : Program} {w : World} {A : Around} {E : Value → Shared → Prop} {s : Shared} {l : Addr} {vs : List Value} {Q : List Value → Shared → Prop}
    (hl : PyProof.Rows.IsTup s.heap l vs.toArray) (hsz : vs.length ≤ sizeLine) (h : Q vs { s with heap := (s.heap.push (PyProof.Rows.seqObj "list" #[] 0)).update s.heap.objs.size (Obj.mapSeq fun x => x ++ vs.toArray) }) : wpAny (model prog w) A (collect (Value.ref l)) Q E s := by
  obtain ⟨o, ho, hc, n, hd⟩ := hl
  unfold collect
  refine wpAny_bind (wpAny_runValue (codeAny_builtin PyProof.Rows.entry_proto_collect' ?_))
  refine wpAny_bind (wpAny_newList (wpAny_pure ⟨Code.quiet_builtin _ (by decide +kernel), codeAny_builtin PyProof.Rows.entry_list_iadd' ?_⟩) (by rw [sizeLine_eq]; simp))
  have ho' := Heap.get?_push_of_some (PyProof.Rows.seqObj "list" #[] 0) ho
  have hnew : (s.heap.push (PyProof.Rows.seqObj "list" #[] 0)).get? s.heap.objs.size = some (PyProof.Rows.seqObj "list" #[] 0) := Heap.get?_push_size _ rfl
  show wpAny _ _ (Builtin.List.listExtendWith _ _ _) _ _ { s with heap := s.heap.push (PyProof.Rows.seqObj "list" #[] 0) }
  unfold Builtin.List.listExtendWith
  refine wpAny_bind (wpAny_typeOf (T := "tuple") (show Shared.TypeIs _ (.ref l) "tuple" from ⟨o, ho', hc⟩) ?_)
  rw [if_pos (by simp)]
  refine wpAny_bind (PyProof.Rows.listItems_at ho' hd (wpAny_bind (PyProof.Rows.listItems_at hnew rfl ?_)))
  rw [if_neg (by simp)]
  refine wpAny_bind (PyProof.Rows.listUpdate_at hnew rfl ?_ (by simp) (by simp; omega))
  have hup := PyProof.Rows.get?_update_seq hnew (fun x => x ++ vs.toArray)
  refine wpAny_pure (wpAny_bind (wpAny_load hup ?_))
  show wpAny _ _ (pure ((#[] ++ vs.toArray).toList)) _ _ _
  rw [show ((#[] : Array Value) ++ vs.toArray).toList = vs by simp]
  exact wpAny_pure h
def rSortTI (K : PySem.W.Frag) : List V → Hp → VK → Prop := fun vs H Q => ∃ (a : Addr) (ns : List Int), vs = [.ref a] ∧ SqT K H a (ns.map V.int) ∧
  ∀ (ns' : List Int) (p : Addr), ns'.Perm ns → ns'.Pairwise (· ≤ ·) → H p = none → Q (.ref p) (upd H p (.lst (ns'.map V.int)))
theorem cr_sortTI : CallR X (.builtin "sorted") (rSortTI X.K) := by
  intro pins s σ H vs us Q I r h
  obtain ⟨a, ns, rfl, hs, q⟩ := h
  obtain ⟨u, rfl, rx⟩ := vals1 r
  obtain rfl : u = Value.ref a := rx
  obtain ⟨its, rv, hl, hz⟩ := I.tuple hs
  have ia := intsAre_of rv
  have hlen : its.length ≤ sizeLine := by rw [← rv.length]; exact hz
  refine Calls.call_function_entry PyProof.Rows.kind_sorted PyProof.Rows.plain_sorted PyProof.Rows.entry_sorted (PyProof.Rows.args_sorted1 _) ?_
  unfold Builtin.«sorted»
  refine wpAny_bind (m := checkCount "sorted" 1 1 _) (wpAny_pure ?_)
  refine wpAny_bind (collect_tup (A := X.A.in1) hl hlen ?_)
  have hk : ∀ (b : Addr) (o : Obj), s.heap.get? b = some o → ((s.heap.push (PyProof.Rows.seqObj "list" #[] 0)).update s.heap.objs.size (Obj.mapSeq fun x => x ++ its.toArray)).get? b = some o := fun b o e => by
    rw [Heap.get?_update_ne _ _ _ _ (Nat.ne_of_lt (Heap.lt_size e))]
    exact Heap.get?_push_of_some _ e
  generalize (s.heap.push (PyProof.Rows.seqObj "list" #[] 0)).update s.heap.objs.size (Obj.mapSeq fun x => x ++ its.toArray) = h' at hk
  have I1 : Inv X pins σ H { s with heap := h', toks := s.toks } := I.kept hk
  refine wpAny_bind (wpAny_newList ?_ hlen)
  have hoL : (h'.push (seqObj "list" its.toArray 0)).get? h'.objs.size = some (seqObj "list" its.toArray 0) := Heap.get?_push_size _ rfl
  show wpAny _ _ _ _ _ { s with heap := h'.push (seqObj "list" its.toArray 0), toks := s.toks }
  refine wpAny_bind (wpAny_holding (wpAny_call_entry PyProof.Rows.slot_list_sort ⟨_, hoL, rfl⟩ PyProof.Rows.entry_list_sort
    (SrtO.list_sort_ord (s := { s with heap := h'.push (seqObj "list" its.toArray 0), toks := s.toks }) SrtO.swo_int hoL hlen (fun h2 => SrtO.ints_sortable ia h2) fun out h1 h2 => ⟨_, rfl, ?_⟩) (PyProof.Rows.args_list_sort _)))
  obtain ⟨e1, e2, e3⟩ := SrtO.ints_out ia h1 h2
  obtain ⟨e', he'⟩ := PyProof.Rows.sortedHeap_at (vs := its) (out := out.toArray) hoL
  have hl2 : ((out.map SrtO.iv).map V.int).length ≤ sizeLine := by rw [List.length_map, e2.length_eq]; rw [List.length_map] at hz; exact hz
  refine wpAny_pure ⟨_, rfl, .ref h'.objs.size, upd H h'.objs.size (.lst ((out.map SrtO.iv).map V.int)), I1.laid (t' := s.toks) (fun b u e => ?_) (Nat.le_refl _)
    (show ObjOk X.prog X.w _ _ _ (.lst ((out.map SrtO.iv).map V.int)) from ⟨hl2, out, e', vals_of_ints e1, he'⟩), rfl, q _ _ e2 e3 (I1.hok.fresh (Nat.le_refl _))⟩
  have hb : b < h'.objs.size := Heap.lt_size e
  rw [PyProof.Rows.sortedHeap_old (Nat.ne_of_lt hb) (by rw [size_push']; exact Nat.lt_succ_of_lt hb)]
  exact Heap.get?_push_of_some _ e
/-! ### sorted(d) of a dict with pairs of ints as keys -/
section
variable {prog : Program} {w : World} {d : Addr} {es : Array DictEntry} {ep : Nat}
theorem kdl_raw (lo : (d == sysModules) = false) : PySem.W.KdlSrc prog w "dict" d d es.size (fun i v => ∃ hi : i < es.size, v = es[i].key) (fun h => PySem.Heap.DictRaw h d es ep) where
  type := fun _ hm => hm.typeIs
  there := fun _ ⟨o, ho, _⟩ => ⟨Heap.lt_size ho, Heap.lt_size ho⟩
  keep := fun _ _ hm hk => hm.at fun o e => hk d (.inl rfl) o e
  notList := by decide
  notTuple := by decide
  hint := fun _ _ _ _ hm hq => PySem.W.kdl_hint_dict hm.typeIs hq
  iter := fun _ s hh hm => by
    have lt : d < s.heap.objs.size := let ⟨o, ho, _⟩ := hm; Heap.lt_size ho
    exact ⟨_, _, (fun _ _ hq => PySem.wpAny_pyIter_dict_raw lo hm hq), PySem.Walks.rawKeys hh _ d (Nat.ne_of_lt lt) es ep, ⟨⟨_, Heap.get?_push_size _ rfl, rfl, rfl⟩, hm.at fun o e => Heap.get?_push_of_some _ e⟩⟩
end
def rSortDT : List V → Hp → VK → Prop := fun vs H Q => ∃ (a : Addr) (kvs : List (List Key × V)) (ks : List (Int × Int)), vs = [.ref a] ∧ Rd H a (.dT kvs) ∧ kvs.map (·.1) = ks.map (fun p => [Sum.inl p.1, Sum.inl p.2]) ∧
  ∀ (qs : List (Addr × Int × Int)) p, (qs.map (·.2)).Perm ks → qs.Pairwise (fun p q => SrtO.lexB q.2 p.2 = false) → (∀ q ∈ qs, H q.1 = some (.tup [.int q.2.1, .int q.2.2])) → H p = none → Q (.ref p) (upd H p (.lst (qs.map fun q => V.ref q.1)))
theorem lexB_ints (p q : Int × Int) : HT.lexLt [p.1, p.2] [q.1, q.2] = SrtO.lexB p q := by
  unfold SrtO.lexB
  rw [HT.lexLt_cons, HT.lexLt_cons, HT.lexLt_nil_nil]
  by_cases h : p.1 = q.1
  · rw [if_pos h, if_pos h]
    by_cases h2 : p.2 = q.2
    · rw [if_pos h2, h2]; exact (decide_eq_false (Int.lt_irrefl _)).symm
    · rw [if_neg h2]
  · rw [if_neg h, if_neg h]
/-- the pair of ints at v -/
def kPair (h : Heap) (v : Value) : Int × Int := ((kInts h v).getD 0 0, (kInts h v).getD 1 0)
theorem cr_sortDT (hcalm : X.calm = true) : CallR X (.builtin "sorted") rSortDT := by
  intro pins s σ H vs us Q I r h
  obtain ⟨a, kvs, ks, rfl, hd, hks, q⟩ := h
  obtain ⟨u, rfl, rx⟩ := vals1 r
  cases rx
  obtain ⟨z, lo, xs, rel, dd⟩ := dt_rd I.hok hd
  obtain ⟨es, ep, raw, hsz, ent⟩ := dd.raw
  have hl : xs.length = kvs.length := (Paired.length rel).symm
  have hlk : kvs.length = ks.length := by have := congrArg List.length hks; simpa using this
  -- the key at each place
  have at' : ∀ (i : Nat) (y : List Key × Addr × Value), xs[i]? = some y → ∃ p, ks[i]? = some p ∧ H y.2.1 = some (.tup [.int p.1, .int p.2]) := fun i y hy => by
    obtain ⟨kv, h1, h2, h3, _⟩ := L2.DX.pget rel hy
    have h4 : (kvs.map (·.1))[i]? = some kv.1 := by rw [List.getElem?_map, h1]; rfl
    rw [hks, List.getElem?_map] at h4
    cases h5 : ks[i]? with
    | none => rw [h5] at h4; cases h4
    | some p =>
      rw [h5] at h4
      have h6 : [Sum.inl p.1, Sum.inl p.2] = kv.1 := Option.some.inj h4
      exact ⟨p, rfl, by rw [h3, ← h6]; rfl⟩
  -- addresses and pairs
  have hq0 : ((xs.map fun y => y.2.1).zip ks).map (·.2) = ks := List.map_snd_zip (by rw [List.length_map, hl, hlk]; exact Nat.le_refl _)
  have hq1 : ((xs.map fun y => y.2.1).zip ks).map (·.1) = xs.map fun y => y.2.1 := List.map_fst_zip (by rw [List.length_map, hl, hlk]; exact Nat.le_refl _)
  have hq2 : ∀ p ∈ (xs.map fun y => y.2.1).zip ks, H p.1 = some (.tup [.int p.2.1, .int p.2.2]) := fun p hp => by
    obtain ⟨i, hi⟩ := List.getElem?_of_mem hp
    rw [List.getElem?_zip_eq_some, List.getElem?_map] at hi
    obtain ⟨h1, h2⟩ := hi
    cases h3 : xs[i]? with
    | none => rw [h3] at h1; cases h1
    | some y =>
      rw [h3] at h1
      obtain ⟨p', h4, h5⟩ := at' i y h3
      rw [h2] at h4; cases h4
      have : y.2.1 = p.1 := Option.some.inj h1
      rw [← this]; exact h5
  generalize (xs.map fun y => y.2.1).zip ks = ps at hq0 hq1 hq2
  have pr : ∀ (h' : Heap), (∀ b o, s.heap.get? b = some o → h'.get? b = some o) → ∀ p ∈ ps, Srt.IsPair h' (.ref p.1) p.2.1 p.2.2 := fun h' kk p hp => by
    obtain ⟨_, its2, r2, o, ho, hc, n, hd⟩ := I.hok _ _ (hq2 p hp)
    obtain ⟨u1, u2, rfl, ri, rj⟩ := vals2 r2
    obtain ⟨t1, rfl⟩ := ri
    obtain ⟨t2, rfl⟩ := rj
    exact ⟨p.1, o, t1, t2, n, rfl, kk _ _ ho, hc, hd⟩
  have kp : ∀ p ∈ ps, kPair s.heap (.ref p.1) = p.2 := fun p hp => by
    obtain ⟨_, its2, r2, o, ho, hc, n, hd⟩ := I.hok _ _ (hq2 p hp)
    have tv : TupV s.heap (.ref p.1) [p.2.1, p.2.2] := ⟨p.1, its2.toArray, rfl, ⟨o, ho, hc, n, hd⟩, by simpa using intsAre_of (ns := [p.2.1, p.2.2]) r2⟩
    unfold kPair
    rw [kInts_eq tv]
    rfl
  refine Calls.call_function_entry PyProof.Rows.kind_sorted PyProof.Rows.plain_sorted PyProof.Rows.entry_sorted (PyProof.Rows.args_sorted1 _) ?_
  unfold Builtin.«sorted»
  refine wpAny_bind (m := checkCount "sorted" 1 1 _) (wpAny_pure ?_)
  refine wpAny_bind (PySem.W.kdu_collect (A := X.A.in1) (kdl_raw (es := es) (ep := ep) lo) (I.ok.hd hcalm) raw (by rw [hsz, hl]; exact z) fun h' tk acc hk hacc => ?_)
  have ea : acc.toList = ps.map fun p => Value.ref p.1 := by
    have e1 : (ps.map fun p => Value.ref p.1) = (xs.map fun y => Value.ref y.2.1) := by
      have := congrArg (List.map Value.ref) hq1
      rw [List.map_map, List.map_map] at this
      exact this
    rw [e1]
    refine List.ext_getElem? fun i => ?_
    cases h1 : acc.toList[i]? with
    | none =>
      have : acc.toList.length ≤ i := List.getElem?_eq_none_iff.mp h1
      rw [Array.length_toList, hacc.1, hsz] at this
      rw [List.getElem?_eq_none_iff.mpr (by rw [List.length_map]; exact this)]
    | some v =>
      obtain ⟨hi, e⟩ := hacc.2 i v (by rw [← Array.getElem?_toList]; exact h1)
      obtain ⟨y, h2, h3, _⟩ := ent i hi
      rw [List.getElem?_map, h2, e, h3]
      rfl
  have hal : acc.toList.length = ps.length := by rw [ea, List.length_map]
  have hps : ps.length = kvs.length := by have := congrArg List.length hq0; rw [List.length_map] at this; rw [this, hlk]
  have I1 : Inv X pins σ H { s with heap := h', toks := tk } := I.kept hk
  refine wpAny_bind (wpAny_newList ?_ (by rw [hal, hps]; exact z))
  have hoL : (h'.push (seqObj "list" acc.toList.toArray 0)).get? h'.objs.size = some (seqObj "list" acc.toList.toArray 0) := Heap.get?_push_size _ rfl
  show wpAny _ _ _ _ _ { s with heap := h'.push (seqObj "list" acc.toList.toArray 0), toks := tk }
  refine wpAny_bind (wpAny_holding (wpAny_call_entry PyProof.Rows.slot_list_sort ⟨_, hoL, rfl⟩ PyProof.Rows.entry_list_sort
    (SrtO.list_sort_ord (s := { s with heap := h'.push (seqObj "list" acc.toList.toArray 0), toks := tk }) (SrtO.swo_lex (kPair s.heap)) hoL (by rw [hal, hps]; exact z) (fun h2 => ?_) fun out h1 h2 => ⟨_, rfl, ?_⟩) (PyProof.Rows.args_list_sort _)))
  · refine SrtO.pairs_sortableO (s := { s with heap := h'.push (seqObj "list" acc.toList.toArray 0), toks := tk }) (by omega) (fun v hv => ?_) fun o e => ?_
    · rw [ea] at hv
      obtain ⟨p, hp, rfl⟩ := List.mem_map.mp hv
      rw [kp p hp]
      exact pr _ (fun b o e => Heap.get?_push_of_some _ (hk b o e)) p hp
    · have e' : some o = some (seqObj "list" acc.toList.toArray 0) := e.symm.trans hoL
      cases e'
      intro c
      exact absurd (Value.type.inj c) (by decide)
  · obtain ⟨qs, g1, g2⟩ := perm_map_inv h2.perm ps ea.symm
    have hs : qs.Pairwise (fun p q => SrtO.lexB q.2 p.2 = false) := by
      have z : out.Pairwise (fun x y => SrtO.lexB (kPair s.heap y) (kPair s.heap x) = false) := h1
      rw [← g2, List.pairwise_map] at z
      refine List.Pairwise.imp_of_mem (fun {x y} hx hy h => ?_) z
      rw [kp x (g1.mem_iff.mp hx), kp y (g1.mem_iff.mp hy)] at h
      exact h
    obtain ⟨e', he'⟩ := PyProof.Rows.sortedHeap_at (vs := acc.toList) (out := out.toArray) hoL
    have rvo := of_refs (fun p : Addr × Int × Int => p.1) qs
    rw [g2] at rvo
    have hlen : (qs.map fun p => V.ref p.1).length ≤ sizeLine := by rw [List.length_map, g1.length_eq, hps]; exact z
    have gp := g1.map (·.2)
    rw [hq0] at gp
    refine wpAny_pure ⟨_, rfl, .ref h'.objs.size, upd H h'.objs.size (.lst (qs.map fun p => V.ref p.1)), I1.laid (t' := tk) (fun b u e => ?_) (Nat.le_refl _)
      (show ObjOk X.prog X.w _ _ _ (.lst (qs.map fun p => V.ref p.1)) from ⟨hlen, out, e', rvo, he'⟩), rfl, q qs _ gp hs (fun p hp => hq2 p (g1.mem_iff.mp hp)) (I1.hok.fresh (Nat.le_refl _))⟩
    have hb : b < h'.objs.size := Heap.lt_size e
    rw [PyProof.Rows.sortedHeap_old (Nat.ne_of_lt hb) (by rw [size_push']; exact Nat.lt_succ_of_lt hb)]
    exact Heap.get?_push_of_some _ e
/-! ### tuples are shared anyway -/
theorem Mut.noTup {c : Cf} {a : Addr} (k : Ok n c) (m : Mut c a) : c.F a = none ∧ ∀ xs, c.H a ≠ some (.tup xs) := by
  rcases m with ⟨i, x, e, o, s⟩ | m
  · obtain ⟨v, h1, h2⟩ := k.sl i x e
    rw [s] at h1; cases h1
    cases x with
    | sh d => cases o
    | ol ds =>
      obtain ⟨b, vs, eb, h3, h4, _⟩ := h2; cases eb
      exact ⟨h4, fun xs z => by rw [h3] at z; cases z⟩
    | od kvs =>
      obtain ⟨b, eb, h4, _, ⟨vs, h3, _⟩ | ⟨vs, h3, _⟩⟩ := h2
      all_goals
        cases eb
        exact ⟨h4, fun xs z => by rw [h3] at z; cases z⟩
    | oi b0 C fs =>
      obtain ⟨b, C, dx, us, eb, _, _, h3, h4, _⟩ := h2; cases eb
      exact ⟨h4, fun xs z => by rw [h3] at z; cases z⟩
  · refine ⟨k.fφ a m, fun xs z => ?_⟩
    obtain ⟨j, hj⟩ := List.getElem?_of_mem m
    have hl : j < c.S.st.length := by rw [k.slen]; exact (List.getElem?_eq_some_iff.mp hj).1
    have h := k.st j c.S.st[j] a (List.getElem?_eq_getElem hl) hj
    cases q : c.S.st[j] with
    | dic fs => rw [q] at h; obtain ⟨vs, h1, _⟩ := h; rw [h1] at z; cases z
    | inst C fs => rw [q] at h; obtain ⟨C, dx, vs, _, h1, _⟩ := h; rw [h1] at z; cases z
def Cf.withT (c : Cf) : Cf := { c with F := fun b => match c.F b with
  | some o => some o
  | none => match c.H b with
    | some (.tup xs) => some (.tup xs)
    | _ => none }
theorem Ok.withT {c : Cf} (k : Ok n c) : Ok n c.withT ∧ Stp c c.withT ∧ ∀ b xs, c.H b = some (.tup xs) → c.withT.F b = some (.tup xs) := by
  have e1 : Sub c.F c.withT.F := fun b o e => by unfold Cf.withT; dsimp only; rw [e]
  have e2 : Sub c.withT.F c.H := fun b o e => by
    unfold Cf.withT at e
    dsimp only at e
    cases q : c.F b with
    | some u => rw [q] at e; cases e; exact k.sub _ _ q
    | none =>
      rw [q] at e
      dsimp only at e
      split at e
      · rename_i xs h; cases e; exact h
      · cases e
  have e3 : ∀ b xs, c.H b = some (.tup xs) → c.withT.F b = some (.tup xs) := fun b xs h => by
    cases q : c.F b with
    | some u => have := k.sub _ _ q; rw [h] at this; cases this; exact e1 _ _ q
    | none => unfold Cf.withT; dsimp only; rw [q, h]
  refine ⟨k.grow e1 e2 fun a m => ?_, ⟨e1, fun b o h _ _ => h, fun b hb => ?_, fun b h => .inl (by
    rcases h with ⟨i, x, a1, a2, a3⟩ | h
    · exact .inl ⟨i, x, a1, a2, a3⟩
    · exact .inr h), fun b h => h, ⟨[], by simp [Cf.withT]⟩, rfl⟩, e3⟩
  · obtain ⟨h1, h2⟩ := m.noTup k
    show (match c.F a with | some o => some o | none => match c.H a with | some (.tup xs) => some (.tup xs) | _ => none) = none
    rw [h1]
    dsimp only
    split
    · rename_i xs h; exact absurd h (h2 xs)
    · rfl
  · unfold Cf.withT at hb
    dsimp only at hb
    cases q : c.F b with
    | some u => exact .inl (by simp)
    | none =>
      rw [q] at hb
      dsimp only at hb
      split at hb
      · rename_i xs h; exact .inr (.inr (.inr ⟨xs, h⟩))
      · exact absurd rfl hb
/-! ### by value -/
def tupD (ns : List Int) : D := .tup (ns.map D.int)
def tupsOf : List D → Option (List (List Int))
  | [] => some []
  | .tup ds :: r => (match intsOf ds, tupsOf r with
    | some ns, some nss => some (ns :: nss)
    | _, _ => none)
  | _ :: _ => none
theorem tupsOf_some : ∀ {ds : List D} {nss : List (List Int)}, tupsOf ds = some nss → ds = nss.map tupD
  | [], nss, h => by cases h; rfl
  | d :: r, nss, h => by
    cases d with
    | tup ds =>
      unfold tupsOf at h
      cases q1 : intsOf ds with
      | none => rw [q1] at h; cases h
      | some ns =>
        cases q2 : tupsOf r with
        | none => rw [q1, q2] at h; cases h
        | some ms => rw [q1, q2] at h; cases h; rw [tupsOf_some q2, intsOf_some q1]; rfl
    | _ => cases h
theorem tupsOf_map : ∀ nss : List (List Int), tupsOf (nss.map tupD) = some nss
  | [] => rfl
  | ns :: r => by
    show (match intsOf (ns.map D.int), tupsOf (r.map tupD) with | some ns, some nss => some (ns :: nss) | _, _ => none) = _
    rw [intsOf_map, tupsOf_map r]
theorem isL_tups {F : Hp} {φ : List Addr} : ∀ {vs : List V} {nss : List (List Int)}, IsL n F φ vs (nss.map tupD) → ∃ ps : List (Addr × List Int), vs = (ps.map fun p => V.ref p.1) ∧ ps.map (·.2) = nss ∧ ∀ p ∈ ps, F p.1 = some (.tup (p.2.map V.int))
  | _, [], h => by cases h; exact ⟨[], rfl, rfl, fun p hp => by cases hp⟩
  | _, ns :: nss, h => by
    cases h with
    | cons h t =>
      obtain ⟨ps, rfl, h2, h3⟩ := isL_tups t
      obtain ⟨a, us, rfl, h4, h5⟩ := is_tupF h
      refine ⟨(a, ns) :: ps, rfl, by rw [List.map_cons, h2], fun p hp => ?_⟩
      rcases List.mem_cons.mp hp with rfl | hp
      · rw [h4, IsL.ints h5]
      · exact h3 p hp
theorem tups_isL {F : Hp} {φ : List Addr} : ∀ {ps : List (Addr × List Int)}, (∀ p ∈ ps, F p.1 = some (.tup (p.2.map V.int))) → IsL n F φ (ps.map fun p => V.ref p.1) ((ps.map (·.2)).map tupD)
  | [], _ => .nil
  | p :: ps, h => .cons (.tup (h p List.mem_cons_self) (isL_ints _)) (tups_isL fun q hq => h q (List.mem_cons_of_mem _ hq))
def lexSort (nss : List (List Int)) : List (List Int) := nss.mergeSort (fun a b => !HT.lexLt b a)
theorem lex_total : ∀ a b : List Int, HT.lexLt a b = false → HT.lexLt b a = false → a = b
  | [], [], _, _ => rfl
  | [], _ :: _, h, _ => by rw [HT.lexLt_nil_cons] at h; cases h
  | _ :: _, [], _, h => by rw [HT.lexLt_nil_cons] at h; cases h
  | x :: xs, y :: ys, h1, h2 => by
    rw [HT.lexLt_cons] at h1 h2
    by_cases e : x = y
    · subst e
      rw [if_pos rfl] at h1 h2
      rw [lex_total xs ys h1 h2]
    · rw [if_neg e] at h1
      rw [if_neg (fun z => e z.symm)] at h2
      have := of_decide_eq_false h1
      have := of_decide_eq_false h2
      omega
theorem lexSort_perm (nss : List (List Int)) : (lexSort nss).Perm nss := List.mergeSort_perm _ _
theorem lexSort_le (nss : List (List Int)) : (lexSort nss).Pairwise (fun a b => HT.lexLt b a = false) := by
  have h := List.pairwise_mergeSort (le := fun a b : List Int => !HT.lexLt b a) (fun a b c h1 h2 => by
    rw [Bool.not_eq_true'] at h1 h2 ⊢
    exact NtL.lex_tr _ _ _ h1 h2) (fun a b => by
    cases q : HT.lexLt b a with
    | false => rfl
    | true => rw [NtL.lex_asym _ _ q]; rfl) nss
  exact h.imp fun h => by simpa using h
theorem lexSort_is {nss ms : List (List Int)} (h1 : ms.Perm nss) (h2 : ms.Pairwise (fun a b => HT.lexLt b a = false)) : ms = lexSort nss :=
  (h1.trans (lexSort_perm nss).symm).eq_of_pairwise (fun a b _ _ h3 h4 => lex_total a b h4 h3) h2 (lexSort_le nss)
def pairOf : D → Option (Int × Int)
  | .tup [.int i, .int j] => some (i, j)
  | _ => none
def keysP : List (D × D) → Option (List (Int × Int))
  | [] => some []
  | p :: r => match pairOf p.1, keysP r with
    | some i, some ks => some (i :: ks)
    | _, _ => none
theorem pairOf_key {d : D} {p : Int × Int} (h : pairOf d = some p) : tkeyOf d = some [Sum.inl p.1, Sum.inl p.2] := by
  unfold pairOf at h
  split at h
  · cases h; rfl
  · cases h
theorem keysP_ok {F : Hp} {φ : List Addr} : ∀ {ds : List (D × D)} {vs : List (List Key × V)} {ks : List (Int × Int)}, IsKT n F φ vs ds → keysP ds = some ks → vs.map (·.1) = ks.map fun p => [Sum.inl p.1, Sum.inl p.2]
  | [], _, _, h, _ => by obtain ⟨_, _, _, _, _, _, _, e, _⟩ := h.cut; cases e
  | p :: ds, vs, ks, h, e => by
    obtain ⟨k, v, kd, d, vs', ds', rfl, e2, hk, _, t⟩ := h.cut
    cases e2
    unfold keysP at e
    cases q1 : pairOf kd with
    | none => rw [q1] at e; cases e
    | some i =>
      cases q2 : keysP ds with
      | none => rw [q1, q2] at e; cases e
      | some ks' =>
        rw [q1, q2] at e
        cases e
        have := pairOf_key q1
        rw [hk] at this
        have : k = _ := Option.some.inj this
        rcases t with ⟨rfl, rfl⟩ | t
        · cases q2; rw [this]; rfl
        · rw [List.map_cons, List.map_cons, keysP_ok t q2, this]
theorem keysP_K {F : Hp} {φ : List Addr} {vs : List (Key × V)} {ds : List (D × D)} {ks : List (Int × Int)} (h : IsK n F φ vs ds) (e : keysP ds = some ks) : ds = [] := by
  cases h with
  | nil => rfl
  | cons hk h t =>
    rename_i kd d ds
    unfold keysP at e
    cases q1 : pairOf kd with
    | none => rw [q1] at e; cases e
    | some i => have := pairOf_key q1; rw [tkeyOf_key hk] at this; cases this
end Bv

/-! dicts with numbers and texts as keys: displays, comprehensions, in, sorted -/
namespace Bv
open PySem PySem.Spec PyProof.Rows L2
variable {n : Nm} {W : WX} {X : Cx}
/-! ### comprehensions -/
def dcB (vs : List Nat) (a : AS) (t : M Bool) (kx e : M D) : List D → List (D × D) → S → Res (List (D × D))
  | [], acc, s => .ok acc s
  | d :: ds, acc, s => match a (.sh d) (wipeS s vs) with
    | none => .bad
    | some s1 => match t s1 with
      | .ok true s2 => (match kx s2 with
        | .ok kd s3 => (match e s3 with
          | .ok y s4 => (match keyOf kd with
            | some k => if acc.length < lineN then dcB vs a t kx e ds (putQ acc k kd y) s4 else .bad
            | none => .bad)
          | _ => .bad)
        | _ => .bad)
      | .ok false s2 => dcB vs a t kx e ds acc s2
      | _ => .bad
def dcM (m : M (List D)) (vs : List Nat) (a : AS) (t : M Bool) (kx e : M D) : M L := fun s => match m s with
  | .ok ds s1 => (match dcB vs a t kx e ds [] (wipeS s1 vs) with
    | .ok ys s2 => .ok (.od ys) (restS s1 s2 vs)
    | _ => .bad)
  | .exc C fs s1 => .exc C fs s1
  | .bad => .bad
/-- a turn's configuration: the list so far at d -/
structure DcI (n : Nm) (c1 : Cf) (vs : List Nat) (d : Addr) (acc : List (D × D)) (c : Cf) : Prop where
  ok : Ok n c
  st : Stp (c1.wipe vs) c
  sg : L2.wipe c.σ vs = L2.wipe c1.σ vs
  hd : ∃ ys, c.H d = some (.dK ys) ∧ IsK n c.F c.φ ys acc
  nf : c.F d = none
  nm : ¬ Mut c d
theorem DcI.step {c1 c c' : Cf} {vs : List Nat} {d : Addr} {acc : List (D × D)} (h : DcI n c1 vs d acc c) (s : Stp c c') (k : Ok n c') (e : L2.wipe c'.σ vs = L2.wipe c1.σ vs) : DcI n c1 vs d acc c' := by
  obtain ⟨ys, h1, h2⟩ := h.hd
  refine ⟨k, h.st.trans s, e, ⟨ys, s.H d _ h1 h.nm (fun _ z => by cases z), s.isK h2⟩, ?_, fun m => ?_⟩
  · cases q : c'.F d with
    | none => rfl
    | some u =>
      rcases s.new d (by rw [q]; simp) with z | z | z | ⟨xs, z⟩
      · exact absurd h.nf z
      · rw [h1] at z; cases z
      · exact absurd z h.nm
      · rw [s.H d _ h1 h.nm (fun _ z => by cases z)] at z; cases z
  · rcases s.mono d m with z | z
    · exact h.nm z
    · rw [h1] at z; cases z
/-- the list grows -/
theorem DcI.grow {c1 c : Cf} {vs : List Nat} {d : Addr} {acc : List (D × D)} {y : V} {e kd : D} {k : Key} {ys : List (Key × V)} (hk : keyOf kd = some k) (h : DcI n c1 vs d acc c) (hd0 : c1.H d = none) (i : Is n c.F c.φ y e) (hh : c.H d = some (.dK ys)) : DcI n c1 vs d (putQ acc k kd e) { c with H := upd c.H d (.dK (putK ys k y)) } := by
  obtain ⟨zs, h1, h2⟩ := h.hd
  rw [hh] at h1; cases h1
  have ne : ∀ {b : Addr}, b ≠ d → upd c.H d (.dK (putK ys k y)) b = c.H b := fun hb => upd_ne hb
  have keep : ∀ {b : Addr} {o : HO}, (∀ xs, o ≠ .dK xs) ∨ b ≠ d → c.H b = some o → upd c.H d (.dK (putK ys k y)) b = some o := fun {b o} hb e => by
    by_cases z : b = d
    · subst z
      rcases hb with hb | hb
      · rw [hh] at e; exact absurd (Option.some.inj e).symm (hb ys)
      · exact absurd rfl hb
    · rw [ne z]; exact e
  refine ⟨⟨h.ok.len, fun b u e => ?_, fun j x e => ?_, h.ok.dist, h.ok.nd, h.ok.slen, fun j o a e1 e2 => ?_, h.ok.fφ⟩, ⟨h.st.F, fun b o e m t => ?_, fun b hb => (h.st.new b hb).imp_right fun z => z.imp_right fun z => z.imp_right fun ⟨xs, z⟩ => ⟨xs, keep (.inl fun _ q => by cases q) z⟩, h.st.mono, fun b e => ?_, h.st.φ, h.st.an⟩, h.sg, ⟨putK ys k y, upd_same, IsK.put hk i h2⟩, h.nf, h.nm⟩
  · have hb : b ≠ d := fun z => by
      subst z
      have := h.nf
      rw [e] at this; cases this
    show upd c.H d (.dK (putK ys k y)) b = some u
    rw [ne hb]; exact h.ok.sub _ _ e
  · obtain ⟨v, h3, h4⟩ := h.ok.sl j x e
    refine ⟨v, h3, ?_⟩
    have hv : x.own = true → ∀ a, v = .ref a → a ≠ d := fun o a ea z => by
      subst z ea
      exact h.nm (.inl ⟨j, x, e, o, h3⟩)
    cases x with
    | sh w => exact h4
    | ol ds => obtain ⟨a, us, ea, h5, h6, h7, h8⟩ := h4; exact ⟨a, us, ea, keep (.inr (hv rfl a ea)) h5, h6, h7, h8⟩
    | od kvs =>
      obtain ⟨a, ea, h6, h7, ⟨us, h5, h8⟩ | ⟨us, h5, h8⟩⟩ := h4
      · exact ⟨a, ea, h6, h7, .inl ⟨us, keep (.inr (hv rfl a ea)) h5, h8⟩⟩
      · exact ⟨a, ea, h6, h7, .inr ⟨us, keep (.inr (hv rfl a ea)) h5, h8⟩⟩
    | oi b C fs => obtain ⟨a, C, dx, us, ea, hb, hC, h5, h6, h7, h8⟩ := h4; exact ⟨a, C, dx, us, ea, hb, hC, keep (.inr (hv rfl a ea)) h5, h6, h7, h8⟩
  · have z := h.ok.st j o a e1 e2
    cases o with
    | dic p => obtain ⟨lc, h3, h4⟩ := z; exact ⟨lc, keep (.inr fun z' => h.nm (.inr (z' ▸ List.mem_of_getElem? e2))) h3, h4⟩
    | inst C fs => obtain ⟨C, dx, us, h3, h4, h5⟩ := z; exact ⟨C, dx, us, h3, keep (.inl fun _ q => by cases q) h4, h5⟩
  · have hb : b ≠ d := fun z => by
      subst z
      have e : c1.H b = some o := e
      rw [hd0] at e; cases e
    show upd c.H d (.dK (putK ys k y)) b = some o
    rw [ne hb]; exact h.st.H b o e m t
  · exact h.st.there b (upd_none' e).2
/-- behind the block -/
theorem DcI.rest {c1 c : Cf} {vs : List Nat} {d : Addr} {acc : List (D × D)} (h : DcI n c1 vs d acc c) (k1 : Ok n c1) (hd0 : c1.H d = none) : let c2 : Cf := { c with S := restS c1.S c.S vs, σ := c1.σ }; Ok n c2 ∧ Stp c1 c2 ∧ RV n c1 c2 (.ref d) (.od acc) := by
  have σ_eq : ∀ (i : Nat), i ∉ vs → c.σ[i]? = c1.σ[i]? := fun i hi => by rw [← wipe_get (σ := c.σ) hi, h.sg, wipe_get hi]
  have lens : c.σ.length = c1.σ.length := by
    have z := congrArg List.length h.sg
    rw [wipe_length, wipe_length] at z
    exact z
  -- a hidden own object
  have hid : ∀ (i : Nat) (x : L), i ∈ vs → c1.S.sl[i]? = some (some x) → x.own = true → ∀ a : Addr, c1.σ[i]? = some (some (V.ref a)) → ¬ Mut (c1.wipe vs) a ∧ a ∉ c.φ ∧ ¬ Mut c a := fun i x hi e o a ea => by
    obtain ⟨v, e1, e2⟩ := k1.sl i x e
    rw [ea] at e1; cases e1
    obtain ⟨_, ee, hf, hφ, u, hu, _⟩ := e2.at o
    cases ee
    have m1 : ¬ Mut (c1.wipe vs) a := fun m => by
      rcases m with m | m
      · obtain ⟨j, y, hj, f1, f2, f3⟩ := own_wipe m
        exact k1.dist i j x y a (fun z => hj (z ▸ hi)) e f1 o f2 ea f3
      · exact hφ m
    have m2 : ¬ Mut c a := fun m => by
      rcases h.st.mono a m with z | z
      · exact m1 z
      · have z : c1.H a = none := z
        rw [hu] at z; cases z
    exact ⟨m1, fun m => m2 (.inr m), m2⟩
  have mutS : ∀ b, Mut { c with S := restS c1.S c.S vs, σ := c1.σ } b → Mut c1 b ∨ c1.H b = none := fun b m => by
    rcases m with ⟨i, x, e, o, s⟩ | m
    · have s : c1.σ[i]? = some (some (V.ref b)) := s
      rcases restS_get e with ⟨hi, e⟩ | ⟨hi, e⟩
      · exact .inl (.inl ⟨i, x, e, o, s⟩)
      · rcases h.st.mono b (.inl ⟨i, x, e, o, (σ_eq i hi).trans s⟩) with z | z
        · exact .inl (mut_wipe z)
        · exact .inr z
    · rcases h.st.mono b (.inr m) with z | z
      · exact .inl (mut_wipe z)
      · exact .inr z
  obtain ⟨ys, h1, h2⟩ := h.hd
  refine ⟨⟨?_, h.ok.sub, fun i x e => ?_, fun i j x y a hij e1 e2 o1 o2 s1 s2 => ?_, h.ok.nd, h.ok.slen, fun j o a e1 e2 => ?_, h.ok.fφ⟩, ⟨h.st.F, fun b o e m t => h.st.H b o e (fun z => m (mut_wipe z)) t, fun b e => ?_, mutS, h.st.there, h.st.φ, h.st.an⟩, ⟨⟨d, rfl, h.nf, fun m => h.nm (.inr m), .inl ⟨ys, h1, h2⟩⟩, fun _ a ea => ?_⟩⟩
  · show (restS c1.S c.S vs).sl.length = c1.σ.length
    rw [restS_len, h.ok.len, lens]
  · rcases restS_get e with ⟨hi, e⟩ | ⟨hi, e⟩
    · obtain ⟨v, e1, e2⟩ := k1.sl i x e
      refine ⟨v, e1, ?_⟩
      have e3 : OIs n (c1.wipe vs) v x := by cases x <;> exact e2
      have e4 := e3.step h.st fun o a ea => by
        subst ea
        obtain ⟨m1, m2, _⟩ := hid i x hi e o a e1
        exact ⟨m1, m2⟩
      cases x <;> exact e4
    · obtain ⟨v, e1, e2⟩ := h.ok.sl i x e
      exact ⟨v, (σ_eq i hi).symm.trans e1, by cases x <;> exact e2⟩
  · have s1 : c1.σ[i]? = some (some (V.ref a)) := s1
    have s2 : c1.σ[j]? = some (some (V.ref a)) := s2
    rcases restS_get e1 with ⟨hi, e1⟩ | ⟨hi, e1⟩
    · rcases restS_get e2 with ⟨hj, e2⟩ | ⟨hj, e2⟩
      · exact k1.dist i j x y a hij e1 e2 o1 o2 s1 s2
      · exact (hid i x hi e1 o1 a s1).2.2 (.inl ⟨j, y, e2, o2, (σ_eq j hj).trans s2⟩)
    · rcases restS_get e2 with ⟨hj, e2⟩ | ⟨hj, e2⟩
      · exact (hid j y hj e2 o2 a s2).2.2 (.inl ⟨i, x, e1, o1, (σ_eq i hi).trans s1⟩)
      · exact h.ok.dist i j x y a hij e1 e2 o1 o2 ((σ_eq i hi).trans s1) ((σ_eq j hj).trans s2)
  · have e1 : c.S.st[j]? = some o := e1
    have z := h.ok.st j o a e1 e2
    cases o <;> exact z
  · rcases h.st.new b e with z | z | z | z
    · exact .inl z
    · exact .inr (.inl z)
    · exact .inr (.inr (.inl (mut_wipe z)))
    · exact .inr (.inr (.inr z))
  · cases ea
    refine ⟨fun ⟨i, x, e, o, s⟩ => ?_, .inl hd0⟩
    have s : c1.σ[i]? = some (some (V.ref d)) := s
    rcases restS_get e with ⟨hi, e⟩ | ⟨hi, e⟩
    · obtain ⟨v, e1, e2⟩ := k1.sl i x e
      rw [s] at e1; cases e1
      obtain ⟨_, ee, _, _, u, hu, _⟩ := e2.at o
      cases ee
      rw [hd0] at hu; cases hu
    · exact h.nm (.inl ⟨i, x, e, o, (σ_eq i hi).trans s⟩)
/-- the reading of a comprehension -/
theorem dc_read {m : M (List D)} {vs ix : List Nat} {a : AS} {t : M Bool} {kx e : M D} (hix : ∀ i ∈ ix, i ∈ vs) {σ : L2.St} {H : Hp} {Q : VK} (o : tO n W (dcM m vs a t kx e) σ H Q) : tDc (tI n W m) (tG n ix a) (tT n WF t) (tX n WF kx) (tX n WF e) vs σ H Q := by
  obtain ⟨c, rfl, rfl, k, o⟩ := o
  refine ⟨c, rfl, rfl, k, ?_⟩
  unfold dcM at o
  cases q : m c.S with
  | bad => rw [q] at o; exact o
  | exc C fs S1 => rw [q] at o; exact o
  | ok ds S1 =>
    rw [q] at o
    dsimp only at o
    intro J c1 h1 h2 s1 k1 w1 D hD
    cases q1 : dcB vs a t kx e ds [] (wipeS S1 vs) with
    | bad => rw [q1] at o; exact o.elim
    | exc C fs S2 => rw [q1] at o; exact o.elim
    | ok ys0 S2 =>
      rw [q1] at o
      dsimp only at o
      -- the first configuration
      have kw := k1.wipe (n := n) vs
      obtain ⟨ka, sa, na, nf, no⟩ := kw.alloc (o := .dK []) (show (c1.wipe vs).H D = none from hD)
      have I0 : DcI n c1 vs D [] { c1.wipe vs with H := upd c1.H D (.dK []) } := ⟨ka, sa, wipe_wipe vs, ⟨[], upd_same, .nil⟩, nf, fun mm => by
        rcases mm with mm | mm
        · exact no mm
        · exact na mm⟩
      refine ⟨fun i m H => m = ds.length - i ∧ i ≤ ds.length ∧ ∃ (c2 : Cf) (acc : List (Bv.D × Bv.D)), c2.H = H ∧ DcI n c1 vs D acc c2 ∧ dcB vs a t kx e (ds.drop i) acc c2.S = .ok ys0 S2, ⟨ds.length, by simp, Nat.zero_le _, _, _, rfl, I0, by rw [List.drop_zero, ← q1, ← h1]; rfl⟩, ?_⟩
      rintro i m H ⟨rfl, hi, c2, acc, rfl, I2, e2⟩
      have I2w : DcI n c1 vs D acc (c2.wipe vs) := I2.step (Stp.wiped vs) (I2.ok.wipe vs) ((wipe_wipe vs).trans I2.sg)
      have fw : ∀ {c3 : Cf}, DcI n c1 vs D acc c3 → Fwd c1 c3 := fun I => ⟨I.st.F, I.st.φ⟩
      by_cases hlt : i < ds.length
      · refine .inr ⟨w1.go i c2 hlt I2.ok (fw I2), fun H' => ∃ (c4 : Cf) (acc' : List (Bv.D × Bv.D)), c4.H = H' ∧ DcI n c1 vs D acc' c4 ∧ dcB vs a t kx e (ds.drop (i + 1)) acc' c4.S = .ok ys0 S2, fun H' hN => ⟨ds.length - (i + 1), by omega, rfl, hlt, hN⟩, fun x H' y => ?_⟩
        obtain ⟨c3, d, f1, f2, rfl, s3, k3, f4, f5⟩ := w1.yld i (c2.wipe vs) x H' hlt I2w.ok (fw I2w) y
        have hd : ds.drop i = d :: ds.drop (i + 1) := by
          rw [List.getElem?_eq_getElem hlt] at f4
          rw [List.drop_eq_getElem_cons hlt]
          rw [Option.some.inj f4]
        rw [hd] at e2
        unfold dcB at e2
        have f1 : c3.S = wipeS c2.S vs := f1
        have f2 : c3.σ = L2.wipe c2.σ vs := f2
        have I3 : DcI n c1 vs D acc c3 := I2w.step s3 k3 (by rw [f2, wipe_wipe, I2.sg])
        rw [← f1] at e2
        cases q3 : a (.sh d) c3.S with
        | none => rw [q3] at e2; cases e2
        | some S3 =>
          rw [q3] at e2
          dsimp only at e2
          have eσ : c3.σ = L2.wipe c.σ vs := by rw [f2, I2.sg, h2]
          refine ⟨c3, c3, .sh d, eσ, rfl, Stp.refl c3, k3, ⟨OIs.sh f5, fun z => by cases z⟩, S3, q3, fun c4 g1 s4 k4 g4 => ?_⟩
          have w4 : L2.wipe c4.σ vs = L2.wipe c3.σ vs := wipe_agr g4 hix
          have w4' : L2.wipe c4.σ vs = L2.wipe c.σ vs := by rw [w4, eσ, wipe_wipe]
          have I4 : DcI n c1 vs D acc c4 := I3.step s4 k4 (by rw [w4', h2])
          refine ⟨w4', c4, rfl, rfl, k4, ?_⟩
          rw [g1]
          cases q4 : t S3 with
          | bad => rw [q4] at e2; cases e2
          | exc C fs S4 => rw [q4] at e2; cases e2
          | ok b S4 =>
            rw [q4] at e2
            intro v c5 g5 g6 s5 k5 g7
            have g7 : v = b := g7
            subst g7
            have I5 : DcI n c1 vs D acc c5 := I4.step s5 k5 (by rw [g6, w4', h2])
            cases v with
            | false =>
              dsimp only at e2
              exact iteF ⟨c5, acc, rfl, I5, by rw [g5]; exact e2⟩
            | true =>
              dsimp only at e2
              refine iteT ⟨c5, g6, rfl, k5, ?_⟩
              rw [g5]
              cases q5 : kx S4 with
              | bad => rw [q5] at e2; cases e2
              | exc C fs S5 => rw [q5] at e2; cases e2
              | ok kd5 S5 =>
                rw [q5] at e2
                dsimp only at e2
                intro y c6 j1 j2 s6 k6 j3
                have I6 : DcI n c1 vs D acc c6 := I5.step s6 k6 (by rw [j2, g6, w4', h2])
                refine ⟨c6, j2.trans g6, rfl, k6, ?_⟩
                rw [j1]
                cases q6 : e S5 with
                | bad => rw [q6] at e2; cases e2
                | exc C fs S6 => rw [q6] at e2; cases e2
                | ok y5 S6 =>
                  rw [q6] at e2
                  dsimp only at e2
                  intro v c7 l1 l2 s7 k7 l3
                  have I7 : DcI n c1 vs D acc c7 := I6.step s7 k7 (by rw [l2, j2, g6, w4', h2])
                  obtain ⟨zs, z1, z2⟩ := I7.hd
                  cases q7 : keyOf kd5 with
                  | none => rw [q7] at e2; cases e2
                  | some kk =>
                    rw [q7] at e2
                    dsimp only at e2
                    split at e2
                    · rename_i hz
                      have j4 : Is n c7.F c7.φ y kd5 := s7.is j3
                      exact ⟨zs, kk, key_is j4 q7, z1, by rw [z2.length, lineN_eq]; exact hz, { c7 with H := upd c7.H D (.dK (putK zs kk v)) }, putQ acc kk kd5 y5, rfl, I7.grow q7 hD l3 z1, by rw [← e2, ← l1]⟩
                    · cases e2
      · have e : i = ds.length := by omega
        subst e
        rw [List.drop_length] at e2
        unfold dcB at e2
        have ea : acc = ys0 := by injection e2
        have es : c2.S = S2 := by injection e2
        subst ea es
        obtain ⟨kr, sr, rr⟩ := I2.rest k1 hD
        refine .inl ⟨w1.stop c2 I2.ok (fw I2), ?_⟩
        have z := o.later trO s1 h2
        exact z (.ref D) { c2 with S := restS c1.S c2.S vs, σ := c1.σ } (by rw [h1]) rfl sr kr rr

/-- a dict of a comprehension, stored under a name at once -/
theorem ps_setDc {i : Nat} {y : Str} {py : Pos} {kx vx tg iter : Expr} {ifs : List Expr} {scope : Scope} {own : List (Str × Nat)} {pos spos : Pos} {wi : TI} {g : TG} {tt : TT} {tk tv : TE} (hc : X.calm = true) (hN : X.N.Nodup) (hy : X.N[i]? = some y) (hyl : X.env.scope.names.lookup y = some .local)
    (hsw : swapsWith (.DictComp kx vx [⟨tg, iter, ifs, 0⟩] scope pos) (some (.Name y py)) spos.line X.env = pure true) (hi : PI X tg iter wi) (ok : BlkOk X.N X.env.scope scope own)
    (hg : ∀ (s : Shared) (H : Hp) (C : Addr) (cl : List (Str × Addr)) (fp : List Addr), PG (X.blk s H scope (compEnvC scope cl C X.env) fp) tg g)
    (ht : ∀ (s : Shared) (H : Hp) (C : Addr) (cl : List (Str × Addr)) (fp : List Addr), PTs (X.blk s H scope (compEnvC scope cl C X.env) fp) ifs tt)
    (hk : ∀ (s : Shared) (H : Hp) (C : Addr) (cl : List (Str × Addr)) (fp : List Addr), PE (X.blk s H scope (compEnvC scope cl C X.env) fp) kx tk)
    (he : ∀ (s : Shared) (H : Hp) (C : Addr) (cl : List (Str × Addr)) (fp : List Addr), PE (X.blk s H scope (compEnvC scope cl C X.env) fp) vx tv) (hs : ∀ x, foldedSetIterable iter X.env x = pure x) :
    PS X (.Assign [.Name y py] (.DictComp kx vx [⟨tg, iter, ifs, 0⟩] scope pos) spos) (tAsg (tDc wi g tt tk tv (own.map (·.2))) (gName i)) := by
  constructor
  intro pins s σ H D I hDc
  rw [exec_Assign_Name_used _ _ _ _ hsw]; refine wpAny_bind (wpAny_standAt (wpAny_bind ?_))
  show wpAny _ X.A (do let _ ← comprehension (.DictComp kx vx [⟨tg, iter, ifs, 0⟩] scope pos) scope X.env (firstIterPos [⟨tg, iter, ifs, 0⟩] pos) newDict false (eval iter X.env) (some (assign (.Name y py) X.env))) _ _ s
  have hDc : tDc wi g tt tk tv (own.map (·.2)) σ H (fun x H1 => gName i x σ H1 D.nx) := hDc
  refine wpAny_bind (thn (dc_core (Qf := fun _ s1 => SP X pins D .next s1) hc hN I hi ok hg ht hk he hs hDc fun P C s1 m H1 I1 q hn ff => ?_) fun _ s1 hq => wpAny_pure (wpAny_pure hq))
  show wpAny _ _ (assign (.Name y py) X.env (.ref P)) _ _ _
  refine wpAny_assign_Name (store_ok2 (v := V.ref P) I1 hN hy (.inl hyl) rfl (fun s2 I2 ⟨a, sb, ha⟩ => ?_) (.inr hyl))
  obtain ⟨z0, z1, z2, z3, z4, z5⟩ := ff
  have hCa : C ≠ a := ha.elim (fun z => by rw [z]; exact z1) (fun z e => z4 y a z e.symm)
  exact ⟨m, hn.sameBut sb hCa, fun h3 sb3 => ⟨_, H1, I2.turned (t' := s2.toks) (fun b o hb e => (sb3.2 b hb).trans e) z0 z1 z3 z4 z5, q⟩⟩
section
variable {kx vx tg iter : Expr} {ifs : List Expr} {scope : Scope} {own : List (Str × Nat)} {pos : Pos} {m : M (List D)} {a : AS} {ix : List Nat} {t : M Bool} {k e : M D}
theorem be_dc (hc : X.calm = true) (hN : X.N.Nodup) (hi : PI X tg iter (tI n W m)) (ok : BlkOk X.N X.env.scope scope own) (hix : ∀ i ∈ ix, i ∈ own.map (·.2))
    (hg : ∀ (s : Shared) (H : Hp) (C : Addr) (cl : List (Str × Addr)) (fp : List Addr), PG (X.blk s H scope (compEnvC scope cl C X.env) fp) tg (tG n ix a))
    (ht : ∀ (s : Shared) (H : Hp) (C : Addr) (cl : List (Str × Addr)) (fp : List Addr), PTs (X.blk s H scope (compEnvC scope cl C X.env) fp) ifs (tT n WF t))
    (hk : ∀ (s : Shared) (H : Hp) (C : Addr) (cl : List (Str × Addr)) (fp : List Addr), PE (X.blk s H scope (compEnvC scope cl C X.env) fp) kx (tX n WF k))
    (he : ∀ (s : Shared) (H : Hp) (C : Addr) (cl : List (Str × Addr)) (fp : List Addr), PE (X.blk s H scope (compEnvC scope cl C X.env) fp) vx (tX n WF e)) (hs : ∀ x, foldedSetIterable iter X.env x = pure x) :
    PE X (.DictComp kx vx [⟨tg, iter, ifs, 0⟩] scope pos) (tO n W (dcM m (own.map (·.2)) a t k e)) := (pe_dc hc hN hi ok hg ht hk he hs).imp fun _ _ _ o => dc_read hix o
theorem bs_setDc {fb : Bool} {i : Nat} {y : Str} {py spos : Pos} (hc : X.calm = true) (hN : X.N.Nodup) (hy : X.N[i]? = some y) (hyl : X.env.scope.names.lookup y = some .local)
    (hsw : swapsWith (.DictComp kx vx [⟨tg, iter, ifs, 0⟩] scope pos) (some (.Name y py)) spos.line X.env = pure true) (hi : PI X tg iter (tI n W m)) (ok : BlkOk X.N X.env.scope scope own) (hix : ∀ i ∈ ix, i ∈ own.map (·.2))
    (hg : ∀ (s : Shared) (H : Hp) (C : Addr) (cl : List (Str × Addr)) (fp : List Addr), PG (X.blk s H scope (compEnvC scope cl C X.env) fp) tg (tG n ix a))
    (ht : ∀ (s : Shared) (H : Hp) (C : Addr) (cl : List (Str × Addr)) (fp : List Addr), PTs (X.blk s H scope (compEnvC scope cl C X.env) fp) ifs (tT n WF t))
    (hk : ∀ (s : Shared) (H : Hp) (C : Addr) (cl : List (Str × Addr)) (fp : List Addr), PE (X.blk s H scope (compEnvC scope cl C X.env) fp) kx (tX n WF k))
    (he : ∀ (s : Shared) (H : Hp) (C : Addr) (cl : List (Str × Addr)) (fp : List Addr), PE (X.blk s H scope (compEnvC scope cl C X.env) fp) vx (tX n WF e)) (hs : ∀ x, foldedSetIterable iter X.env x = pure x) :
    PS X (.Assign [.Name y py] (.DictComp kx vx [⟨tg, iter, ifs, 0⟩] scope pos) spos) (tS n W (agS (fzM fb (dcM m (own.map (·.2)) a t k e)) (asN i))) := (ps_setDc hc hN hy hyl hsw hi ok hg ht hk he hs).imp fun E σ H ⟨c, e1, e2, k, o⟩ => by
  subst e1 e2
  have z : tO n W (fzM fb (dcM m (own.map (·.2)) a t _ e)) c.σ c.H (fun v H' => gName i v c.σ H' E.nx) := ⟨c, rfl, rfl, k, Out.imp (o.asg (ix := [i])) fun v H' q => by
    obtain ⟨c0, c1, l, h1, h2, s, k1, r, S', h3, q⟩ := q
    cases h3
    obtain ⟨k2, s2⟩ := k1.put (i := i) s r
    have z := q { c1 with S := { c1.S with sl := c1.S.sl.set i (some l) }, σ := c1.σ.set i (some v) } rfl s2 k2 ⟨List.length_set, fun j hj => List.getElem?_set_ne (fun z => hj (by simp [z]))⟩
    show E.nx (c.σ.set i (some v)) H'
    rw [← h1, ← h2]
    exact z⟩
  exact dc_read hix (fz_ok z)
end

/-! ### in -/
def rDIn (neg : Bool) : R2 := fun y x H Q => ∃ (a : Addr) (o : Option V), x = .ref a ∧ DGet H a y o ∧ Q (.bl (if neg then !o.isSome else o.isSome)) H
theorem op_dIn (hu : X.A.units + 65 < cLine) : OpR X (compareOp .In) (rDIn false) := by
  intro pins s σ H x y v u Q I rx ry h
  obtain ⟨a, o, rfl, g, q⟩ := h
  obtain rfl : u = Value.ref a := ry
  exact d_in (by omega) I g rx fun s3 I3 => ⟨.bl _, H, I3, rfl, q⟩
theorem op_dNotIn (hu : X.A.units + 65 < cLine) : OpR X (compareOp .NotIn) (rDIn true) := by
  intro pins s σ H x y v u Q I rx ry h
  obtain ⟨a, o, rfl, g, q⟩ := h
  obtain rfl : u = Value.ref a := ry
  exact d_notIn (by omega) I g rx fun s3 I3 => ⟨.bl _, H, I3, rfl, q⟩
theorem upd_upd {H : Hp} {a : Addr} {o u : HO} : upd (upd H a o) a u = upd H a u := by
  funext b
  by_cases e : b = a
  · subst e; rw [upd_same, upd_same]
  · rw [upd_ne e, upd_ne e, upd_ne e]
theorem toT {pins : List (Addr × Obj)} {σ : L2.St} {H : Hp} {s : Shared} {a : Addr} (I : Inv X pins σ H s) (e : H a = some (.dK [])) : Inv X pins σ (upd H a (.dT [])) s := by
  obtain ⟨z, hd, vs, rel, o, es, ep, ho, hc, hdat, _, hp, _⟩ := dk_of I.hok e
  cases rel
  have he : es = #[] := by
    have := hp.length
    simp only [Array.length_toList, List.length_nil] at this
    exact Array.eq_empty_of_size_eq_zero this
  subst he
  exact d_write (h' := s.heap) (t' := s.toks) I (by rw [e]; exact True.intro) ⟨rfl, fun b hb => rfl⟩ ⟨o, ho⟩ ⟨Nat.zero_le _, hd, [], .nil, o, #[], ep, ho, hc, hdat, rfl, List.nodup_nil⟩
theorem fromT {pins : List (Addr × Obj)} {σ : L2.St} {H : Hp} {s : Shared} {a : Addr} (I : Inv X pins σ H s) (e : H a = some (.dT [])) : Inv X pins σ (upd H a (.dK [])) s := by
  obtain ⟨z, hd, vs, rel, o, es, ep, ho, hc, hdat, hp, _, _⟩ := dt_of I.hok e
  cases rel
  have he : es = #[] := by
    have := congrArg List.length hp
    simp only [Array.length_toList, List.map_nil, List.length_nil] at this
    exact Array.eq_empty_of_size_eq_zero this
  subst he
  exact d_write (h' := s.heap) (t' := s.toks) I (by rw [e]; exact True.intro) ⟨rfl, fun b hb => rfl⟩ ⟨o, ho⟩ ⟨Nat.zero_le _, hd, [], .nil, o, #[], ep, ho, hc, hdat, (fun e he => by simp at he), .nil, List.nodup_nil⟩
/-- a tuple looked for in an empty dict -/
def rDIn0 (neg : Bool) : R2 := fun y x H Q => ∃ (a b : Addr) (ks : List Key), x = .ref a ∧ H a = some (.dK []) ∧ y = .ref b ∧ H b = some (.tup (ks.map kV)) ∧ Q (.bl neg) H
theorem back0 {pins : List (Addr × Obj)} {σ : L2.St} {H : Hp} {s : Shared} {a : Addr} (e : H a = some (.dK [])) (I : Inv X pins σ (upd H a (.dT [])) s) : Inv X pins σ H s := by
  have z := fromT I upd_same
  rw [upd_upd] at z
  have e2 : upd H a (.dK []) = H := by
    funext b
    by_cases h : b = a
    · subst h; rw [upd_same, e]
    · rw [upd_ne h]
  rw [e2] at z
  exact z
theorem get0 {H : Hp} {a b : Addr} {ks : List Key} (e1 : H a = some (.dK [])) (e2 : H b = some (.tup (ks.map kV))) : DGet (upd H a (.dT [])) a (.ref b) none :=
  .inr ⟨[], ks, b, .inl upd_same, rfl, by rw [upd_ne (fun z => by subst z; rw [e1] at e2; cases e2)]; exact e2, rfl⟩
theorem op_dIn0 (hu : X.A.units + 65 < cLine) : OpR X (compareOp .In) (rDIn0 false) := by
  intro pins s σ H x y v u Q I rx ry h
  obtain ⟨a, b, ks, rfl, e1, rfl, e2, q⟩ := h
  obtain rfl : u = Value.ref a := ry
  exact d_in (by omega) (toT I e1) (get0 e1 e2) rx fun s3 I3 => ⟨.bl _, H, back0 e1 I3, rfl, q⟩
theorem op_dNotIn0 (hu : X.A.units + 65 < cLine) : OpR X (compareOp .NotIn) (rDIn0 true) := by
  intro pins s σ H x y v u Q I rx ry h
  obtain ⟨a, b, ks, rfl, e1, rfl, e2, q⟩ := h
  obtain rfl : u = Value.ref a := ry
  exact d_notIn (by omega) (toT I e1) (get0 e1 e2) rx fun s3 I3 => ⟨.bl _, H, back0 e1 I3, rfl, q⟩
def gInD (neg : Bool) (d : D) (kvs : List (D × D)) : M L := match atD kvs d with
  | some r => pure (.sh (.bl (if neg then !r.isSome else r.isSome)))
  | none => if kvs.isEmpty && (tkeyOf d).isSome then pure (.sh (.bl neg)) else bad
/-- a text of one sign -/
def sgn1 (x : Str) : Option Nat := if x.cps.size = 1 then x.cps[0]? else none
theorem sgn1_some {x : Str} {c : Nat} (h : sgn1 x = some c) : x = ⟨#[c]⟩ := by
  unfold sgn1 at h
  split at h
  · rename_i hs
    refine Str.ext' (Array.ext (by simpa using hs) fun i h1 h2 => ?_)
    have : i = 0 := by simp at h2; omega
    subst this
    rw [Array.getElem?_eq_getElem h1] at h
    simpa using h
  · cases h
def gInS (neg : Bool) (d : D) (z : Str) : M L := match d with
  | .str x => (match sgn1 x with
    | some c => pure (.sh (.bl (if neg then !decide (c ∈ z.cps.toList) else decide (c ∈ z.cps.toList))))
    | none => bad)
  | _ => bad
def gIn2 (neg : Bool) (d e : D) : M L := match e with
  | .dic kvs => gInD neg d kvs
  | .str z => gInS neg d z
  | e => gIn neg d e
def rInSn (neg : Bool) : R2 := fun x y H Q => ∃ (c : Nat) (z : Str), x = .str ⟨#[c]⟩ ∧ y = .str z ∧ Q (.bl (if neg then !decide (c ∈ z.cps.toList) else decide (c ∈ z.cps.toList))) H
def rInB (K : PySem.W.Frag) (neg : Bool) : R2 := fun x y H Q => rInA K neg x y H Q ∨ ((rDIn neg x y H Q ∨ rDIn0 neg x y H Q) ∨ rInSn neg x y H Q)
theorem op_inSn : OpR X (compareOp .In) (rInSn false) := by
  intro pins s σ H x y v u Q I rx ry h
  obtain ⟨c, z, rfl, rfl, q⟩ := h
  exact op_in_sign _ _ _ _ _ _ _ _ _ I rx ry ⟨c, z, rfl, rfl, q⟩
theorem op_notInSn : OpR X (compareOp .NotIn) (rInSn true) := by
  intro pins s σ H x y v u Q I rx ry h
  obtain ⟨c, z, rfl, rfl, q⟩ := h
  exact op_notIn_sign _ _ _ _ _ _ _ _ _ I rx ry ⟨c, z, rfl, rfl, q⟩
theorem op_inB (hu : X.A.units + 65 < cLine) : OpR X (compareOp .In) (rInB X.K false) := OpR.or (op_inA hu) (OpR.or (OpR.or (op_dIn hu) (op_dIn0 hu)) op_inSn)
theorem op_notInB (hu : X.A.units + 65 < cLine) : OpR X (compareOp .NotIn) (rInB X.K true) := OpR.or (op_notInA hu) (OpR.or (OpR.or (op_dNotIn hu) (op_dNotIn0 hu)) op_notInSn)
theorem inD_ok (neg : Bool) {c : Cf} {x : V} {a : Addr} {d : D} {kvs : List (D × D)} {Q : VK} (k : Ok n c) (hi : Is n c.F c.φ x d) (hd : (∃ vs, c.H a = some (.dK vs) ∧ IsK n c.F c.φ vs kvs) ∨ ∃ vs, c.H a = some (.dT vs) ∧ IsKT n c.F c.φ vs kvs) (o : Out n W (RV n) c (gInD neg d kvs c.S) Q) : rDIn neg x (.ref a) c.H Q ∨ rDIn0 neg x (.ref a) c.H Q := by
  unfold gInD at o
  cases hk : atD kvs d with
  | none =>
    rw [hk] at o
    dsimp only at o
    split at o
    · rename_i hz
      rw [Bool.and_eq_true, List.isEmpty_iff, Option.isSome_iff_exists] at hz
      obtain ⟨rfl, ks, h2⟩ := hz
      obtain ⟨b, rfl, hb⟩ := tkey_is hi h2
      rcases hd with ⟨vs, h1, t⟩ | ⟨vs, h1, t⟩
      · cases t
        exact .inr ⟨a, b, ks, rfl, h1, rfl, k.sub _ _ hb, o.sh k (.bl _)⟩
      · cases t
    · exact o.not_bad
  | some r =>
    rw [hk] at o
    obtain ⟨ov, g, g2, _⟩ := atD_get k (hd.imp (fun ⟨vs, h1, h2⟩ => ⟨vs, .inl h1, h2⟩) fun ⟨vs, h1, h2⟩ => ⟨vs, .inl h1, h2⟩) hi hk
    refine .inl ⟨a, ov, rfl, g, ?_⟩
    rw [g2]
    exact o.sh k (.bl _)
theorem ops_in2 (neg : Bool) : OpS n W (rInB n.K neg) (gIn2 neg) := fun c x y d e Q k hi hj o => by
  cases e with
  | dic kvs =>
    have o : Out n W (RV n) c (gInD neg d kvs c.S) Q := o
    have hj2 : OIs n c y (.sh (.dic kvs)) := OIs.sh hj
    obtain ⟨a, rfl, hd⟩ := hj2.dic k rfl
    exact .inr (.inl (inD_ok neg k hi hd o))
  | str z =>
    have o : Out n W (RV n) c (gInS neg d z c.S) Q := o
    unfold gInS at o
    cases d with
    | str w =>
      dsimp only at o
      cases hs : sgn1 w with
      | none => rw [hs] at o; exact o.not_bad
      | some ch =>
        rw [hs] at o
        exact .inr (.inr ⟨ch, z, by rw [is_str hi, sgn1_some hs], is_str hj, o.sh k (.bl _)⟩)
    | _ => exact o.not_bad
  | _ => exact .inl (ops_in neg c x y d _ Q k hi hj o)
/-! ### in a list of one's own -/
def inL (neg : Bool) (d : D) (l : L) : M L := match l with
  | .sh e => gIn2 neg d e
  | .ol ds => gIn neg d (.lst ds)
  | .od kvs => gInD neg d kvs
  | _ => bad
theorem ops_inO (neg : Bool) {c : Cf} {x y : V} {d : D} {l : L} {Q : VK} (k : Ok n c) (hi : Is n c.F c.φ x d) (hj : OIs n c y l) (o : Out n W (RV n) c (inL neg d l c.S) Q) : rInB n.K neg x y c.H Q := by
  cases l with
  | od kvs =>
    obtain ⟨a, rfl, hd⟩ := OIs.dic k hj (kvs := kvs) rfl
    exact .inr (.inl (inD_ok neg k hi hd o))
  | sh e => exact ops_in2 neg c x y d e Q k hi hj o
  | ol ds =>
    have o : Out n W (RV n) c (gIn neg d (.lst ds) c.S) Q := o
    obtain ⟨a, vs, rfl, h1, _, _, h2⟩ := hj
    left
    unfold gIn at o
    cases hb : inD d (.lst ds) with
    | none => rw [hb] at o; exact o.not_bad
    | some b =>
      rw [hb] at o
      have hb2 : (match d.py, pyL ds with | some p, some qs => if SeqAt.shaped p && SeqAt.shaped (.list qs) then some (qs.any fun z => PyData.eqv z p) else none | _, _ => none) = some b := hb
      split at hb2
      · rename_i p qs g1 g2
        split at hb2
        · rename_i h3
          rw [Bool.and_eq_true] at h3
          cases hb2
          refine .inl ?_
          cases neg with
          | true => exact ⟨p, qs, hi.dp k.sub g1, .lst (.of h1) (h2.dp k.sub g2), h3.1, h3.2, o.sh k (.bl _)⟩
          | false => exact ⟨p, qs, hi.dp k.sub g1, .lst (.of h1) (h2.dp k.sub g2), h3.1, h3.2, o.sh k (.bl _)⟩
        · cases hb2
      · cases hb2
  | _ => exact o.not_bad
def inN (fa : M D) (i : Nat) (neg : Bool) : M L := do
  let d ← fa
  let l ← slN i
  inL neg d l
section
variable {a : Expr} {fa : M D} {pos p : Pos} {x : Str} {i : Nat} {op : CmpOp} {neg : Bool}
theorem be_inN (ho : OpR X (compareOp op) (rInB n.K neg)) (hN : X.N[i]? = some x) (hv : Vis X.env.scope x) (hd : (x == ("__debug__" : Str)) = false) (hcd : (x == ("__classdict__" : Str)) = false) (ha : PE X a (tX n W fa)) (hm : behindInMarks op (.Name x p) = false) :
    PE X (.Compare a [op] [.Name x p] pos) (tO n W (inN fa i neg)) :=
  (pe_cmpR ho ha (pe_var hN hv hd hcd) hm).imp fun σ H Q ⟨c, e1, e2, k, o⟩ => by
    subst e1 e2
    refine ⟨c, rfl, rfl, k, Out.bind (P1 := PX n) trO o fun x c1 d e1 s1 k1 i1 o1 => ?_⟩
    obtain ⟨l, v, h1, h2, h3, o2⟩ := slN_some o1 k1
    rw [e1] at h2
    exact ⟨v, h2, ops_inO neg k1 i1 h3 o2⟩
theorem bt_inN (ho : OpR X (compareOp op) (rInB n.K neg)) (hN : X.N[i]? = some x) (hv : Vis X.env.scope x) (hd : (x == ("__debug__" : Str)) = false) (hcd : (x == ("__classdict__" : Str)) = false) (ha : PE X a (tX n W fa)) (hm : behindInMarks op (.Name x p) = false) :
    PT X (.Compare a [op] [.Name x p] pos) (tT n W (blT (inN fa i neg))) :=
  (pt_cmpR ho ha (pe_var hN hv hd hcd) hm).imp fun σ H Q ⟨c, e1, e2, k, o⟩ => by
    subst e1 e2
    have o := Out.isBl (n := n) o
    refine ⟨c, rfl, rfl, k, Out.bind (P1 := PX n) trO o fun x c1 d e1 s1 k1 i1 o1 => ?_⟩
    obtain ⟨l, v, h1, h2, h3, o2⟩ := slN_some o1 k1
    rw [e1] at h2
    exact ⟨v, h2, ops_inO neg k1 i1 h3 o2⟩
end
/-! ### sorted -/
def intOf : D → Option Int
  | .int i => some i
  | _ => none
def keysI : List (D × D) → Option (List Int)
  | [] => some []
  | p :: r => match intOf p.1, keysI r with
    | some i, some ks => some (i :: ks)
    | _, _ => none
theorem keysI_ok {F : Hp} {φ : List Addr} : ∀ {vs : List (Key × V)} {ds : List (D × D)} {ks : List Int}, IsK n F φ vs ds → keysI ds = some ks → vs.map (·.1) = ks.map Sum.inl
  | _, _, _, .nil, h => by cases h; rfl
  | _, _, _, .cons (kd := kd) (ds := ds) hk h t, e => by
    unfold keysI at e
    cases kd with
    | int i =>
      cases q : keysI ds with
      | none => rw [q] at e; cases e
      | some ks =>
        rw [q] at e; cases e
        have hk : some (Sum.inl i) = some _ := hk
        cases hk
        rw [List.map_cons, List.map_cons, keysI_ok t q]
    | _ => cases e
theorem keysI_plain : ∀ {ds : List (D × D)} {ks : List Int}, keysI ds = some ks → plainK ds = true
  | [], _, _ => rfl
  | (kd, d) :: ds, ks, e => by
    unfold keysI at e
    cases kd with
    | int i =>
      cases q : keysI ds with
      | none => rw [q] at e; cases e
      | some ks =>
        have := keysI_plain q
        unfold plainK at this ⊢
        rw [List.all_cons, this]
        rfl
    | _ => cases e
def sortW2 (l : L) : M L := match l.d with
  | .lst ds => (match intsOf ds with
    | some ns => pure (.ol ((sortI ns).map D.int))
    | none => (match tupsOf ds with
      | some nss => if nss.head? = some [] then pure (.ol ((lexSort nss).map tupD)) else bad
      | none => bad))
  | .tup ds => (match intsOf ds with
    | some ns => pure (.ol ((sortI ns).map D.int))
    | none => bad)
  | .dic kvs => (match keysI kvs with
    | some ns => if ns.length < 64 then pure (.ol ((sortI ns).map D.int)) else bad
    | none => (match keysP kvs with
      | some ks => pure (.ol ((lexSort (ks.map fun p => [p.1, p.2])).map tupD))
      | none => bad))
  | _ => bad
def rSort3 (K : PySem.W.Frag) : List V → Hp → VK → Prop := fun xs H Q => (rSortedI K xs H Q ∨ (∃ (a : Addr) (kvs : List (Key × V)) (ks : List Int), xs = [.ref a] ∧ Rd H a (.dK kvs) ∧ kvs.map (·.1) = ks.map Sum.inl ∧ ks.length < 64 ∧ ∀ (ys : List Int) (p : Addr), ys.Perm ks → ys.Pairwise (· ≤ ·) → H p = none → Q (.ref p) (upd H p (.lst (ys.map V.int))))) ∨ ((rSortE K xs H Q ∨ rSortTI K xs H Q) ∨ rSortDT xs H Q)
theorem cr_sort3 (hc : X.calm = true) (hu : X.A.units + 64 < cLine) : CallR X (.builtin "sorted") (rSort3 X.K) := CallR.or (CallR.or cr_sortedI (call_sortedDI hc)) (CallR.or (CallR.or (cr_sortE hu) cr_sortTI) (cr_sortDT hc))
theorem calls_sorted2 : CallW n W (rSort3 n.K) sortW2 := fun c x l Q k i o => by
  unfold sortW2 at o
  cases e : l.d with
  | lst ds =>
    rw [e] at o
    dsimp only at o
    cases q : intsOf ds with
    | some ns =>
      rw [q] at o
      obtain ⟨a, rfl, h⟩ := i.ints k e q
      exact .inl (.inl ⟨a, ns, rfl, h, fun ms p h1 h2 hp => by rw [sortI_is h1 h2]; exact o.newLst k (isL_ints _) hp⟩)
    | none =>
      rw [q] at o
      dsimp only at o
      cases q2 : tupsOf ds with
      | none => rw [q2] at o; exact o.not_bad
      | some nss =>
        rw [q2] at o
        dsimp only at o
        by_cases hz : nss.head? = some []
        · rw [if_pos hz] at o
          obtain ⟨a, vs, rfl, h1, h2⟩ := i.lst k e
          rw [tupsOf_some q2] at h2
          obtain ⟨ps, rfl, h3, h4⟩ := isL_tups h2
          refine .inr (.inl (.inl ⟨a, ps, rfl, .of h1, fun p hp => .of (k.sub _ _ (h4 p hp)), fun p hp => ?_, fun qs p g1 g2 hp => ?_⟩))
          · rw [← h3, List.head?_map, hp] at hz
            exact Option.some.inj hz
          · have z : lexSort nss = qs.map (·.2) := (lexSort_is (by have := g1.map (·.2); rw [h3] at this; exact this) (List.pairwise_map.mpr g2)).symm
            rw [z] at o
            exact o.newLst k (tups_isL fun q hq => h4 q (g1.mem_iff.mp hq)) hp
        · rw [if_neg hz] at o; exact o.not_bad
  | tup ds =>
    rw [e] at o
    dsimp only at o
    cases q : intsOf ds with
    | some ns =>
      rw [q] at o
      obtain ⟨a, vs, rfl, h1, h2⟩ := i.tup k e
      have h3 : vs = ns.map V.int := by
        rw [intsOf_some q] at h2
        exact h2.ints
      subst h3
      exact .inr (.inl (.inr ⟨a, ns, rfl, h1, fun ms p h1 h2 hp => by rw [sortI_is h1 h2]; exact o.newLst k (isL_ints _) hp⟩))
    | none => rw [q] at o; exact o.not_bad
  | dic kvs =>
    rw [e] at o
    dsimp only at o
    cases q : keysI kvs with
    | some ns =>
      rw [q] at o
      dsimp only at o
      split at o
      · rename_i hz
        obtain ⟨a, rfl, ⟨vs, h1, h2⟩ | ⟨vs, h1, h2⟩⟩ := i.dic k e
        · exact .inl (.inr ⟨a, vs, ns, rfl, .inl h1, keysI_ok h2 q, hz, fun ms p h1 h2 hp => by rw [sortI_is h1 h2]; exact o.newLst k (isL_ints _) hp⟩)
        · have := keysI_plain q
          rw [plainK_T h2] at this
          cases this
      · exact o.not_bad
    | none =>
      rw [q] at o
      dsimp only at o
      cases q2 : keysP kvs with
      | none => rw [q2] at o; exact o.not_bad
      | some ks =>
        rw [q2] at o
        dsimp only at o
        obtain ⟨a, rfl, ⟨vs, h1, h2⟩ | ⟨vs, h1, h2⟩⟩ := i.dic k e
        · rw [keysP_K h2 q2] at q; cases q
        · refine .inr (.inr ⟨a, vs, ks, rfl, .inl h1, keysP_ok h2 q2, fun qs p g1 g2 g3 hp => ?_⟩)
          obtain ⟨k2, s2, h3⟩ := k.withT
          have z : lexSort (ks.map fun p => [p.1, p.2]) = (qs.map fun q => (q.1, [q.2.1, q.2.2])).map (·.2) := (lexSort_is (by
            have := g1.map (fun p : Int × Int => [p.1, p.2])
            rw [List.map_map] at this ⊢
            exact this) (by
            rw [List.map_map, List.pairwise_map]
            exact g2.imp fun {x y} h => by
              show HT.lexLt [y.2.1, y.2.2] [x.2.1, x.2.2] = false
              rw [lexB_ints y.2 x.2]; exact h)).symm
          rw [z] at o
          have i2 : IsL n c.withT.F c.withT.φ ((qs.map fun q => (q.1, [q.2.1, q.2.2])).map fun p : Addr × List Int => V.ref p.1) (((qs.map fun q => (q.1, [q.2.1, q.2.2])).map (·.2)).map tupD) := tups_isL fun p hp => by
            obtain ⟨q, hq, rfl⟩ := List.mem_map.mp hp
            exact h3 _ _ (g3 q hq)
          obtain ⟨k4, s4, f1, f2, f3⟩ := k2.alloc (p := p) (o := .lst ((qs.map fun q => (q.1, [q.2.1, q.2.2])).map fun p : Addr × List Int => V.ref p.1)) hp
          have e1 : ((qs.map fun q => (q.1, [q.2.1, q.2.2])).map fun p : Addr × List Int => V.ref p.1) = qs.map fun q => V.ref q.1 := by rw [List.map_map]; rfl
          have fin := o.to (c' := { c.withT with H := upd c.H p (.lst ((qs.map fun q => (q.1, [q.2.1, q.2.2])).map fun p : Addr × List Int => V.ref p.1)) }) rfl rfl (s2.trans s4) k4 (v := .ref p) ⟨⟨p, _, rfl, upd_same, f2, f1, s4.isL i2⟩, fun _ a e => by
            cases e
            exact ⟨fun ⟨j, y, a1, a2, a3⟩ => f3 ⟨j, y, a1, a2, a3⟩, .inl hp⟩⟩
          rw [e1] at fin
          exact fin
  | _ => rw [e] at o; exact o.not_bad
theorem be_dnew {pos : Pos} : PE X (.Dict [] [] pos) (tO n W (pure (.od []))) := pe_dnewK.imp fun σ H Q ⟨c, e1, e2, k, o⟩ => by
  subst e1 e2
  intro p hp
  obtain ⟨k2, s2, h1, h2, h3⟩ := k.alloc (o := .dK []) hp
  have o : Out n W (RV n) c (.ok (.od []) c.S) Q := o
  refine o.to (c' := { c with H := upd c.H p (.dK []) }) rfl rfl s2 k2 ⟨⟨p, rfl, h2, h1, .inl ⟨[], upd_same, .nil⟩⟩, fun _ a e => ?_⟩
  cases e
  exact ⟨fun ⟨j, y, a1, a2, a3⟩ => h3 ⟨j, y, a1, a2, a3⟩, .inl hp⟩
/-! ### sorted(e, reverse=True) -/
def sortR (l : L) : M L := match l.d with
  | .lst ds => (match intsOf ds with
    | some ns => pure (.ol ((sortI ns).reverse.map D.int))
    | none => bad)
  | _ => bad
theorem sort_down {ns ms : List Int} (h1 : ms.Perm ns) (h2 : ms.Pairwise (· ≥ ·)) : ms = (sortI ns).reverse := by
  rw [← sortI_is (ns := ns) (ms := ms.reverse) ((List.reverse_perm ms).trans h1) (by rw [List.pairwise_reverse]; exact h2), List.reverse_reverse]
theorem be_sortR {f : M L} {e : Expr} {p pos p2 kp : Pos} {j : Nat} (hg : Gl X "sorted") (hm : X.mg "sorted" = none) (hK : X.K = n.K) (ha : PE X e (tW n W f)) (he : starEach (e :: []) X.env = (false, eval e X.env) :: starEach [] X.env) :
    PE X (.Call (.Name "sorted" p) [e] [⟨some "reverse", .Constant (.bool true) j p2, kp⟩] pos) (tO n W (thM f sortR)) :=
  (pe_callBK (cr_sortedRev (b := true)) hg hm boot_sorted (pa_cons ha pa_nil he) (pk_cons pe_bl pk_nil) (by decide) (by decide) (by rw [he]; rfl) (by rw [he]; rfl)).imp fun σ H Q ⟨c, e1, e2, k, o⟩ => by
    subst e1 e2
    refine ⟨c, rfl, rfl, k, Out.bind (P1 := PB n) trO o fun x c1 l e1 s1 k1 i1 o1 => ?_⟩
    unfold sortR at o1
    cases q0 : l.d with
    | lst ds =>
      rw [q0] at o1
      dsimp only at o1
      cases q : intsOf ds with
      | some ns =>
        rw [q] at o1
        obtain ⟨a, rfl, h⟩ := (show OIs n c1 x l from i1).ints k1 q0 q
        refine ⟨a, ns, rfl, rfl, by rw [hK]; exact h, fun ms p h1 h2 hp => ?_⟩
        rw [sort_down h1 h2]
        exact o1.newLst k1 (isL_ints _) hp
      | none => rw [q] at o1; exact o1.not_bad
    | _ => rw [q0] at o1; exact o1.not_bad
end Bv

/-! texts: str(int), sep.join(texts) -/
namespace Bv
open PySem PySem.Spec PyProof.Rows L2
variable {n : Nm} {W : WX} {X : Cx}
def strW (l : L) : M L := match l.d with
  | .int i => if i.natAbs.log2 < 1920 then pure (.sh (.str (toString i))) else bad
  | _ => bad
theorem calls_strI : CallW n W (fun xs H Q => ∃ i, xs = [.int i] ∧ i.natAbs.log2 < 1920 ∧ Q (.str (toString i)) H) strW := fun c x l Q k i o => by
  unfold strW at o
  cases e : l.d with
  | int j =>
    rw [e] at o
    dsimp only at o
    by_cases hz : j.natAbs.log2 < 1920
    · rw [if_pos hz] at o
      rw [i.int e]
      exact ⟨_, rfl, hz, o.sh k (.str _)⟩
    · rw [if_neg hz] at o; exact o.not_bad
  | _ => rw [e] at o; exact o.not_bad
def strsOf : List D → Option (List Str)
  | [] => some []
  | .str x :: r => (strsOf r).map (x :: ·)
  | _ :: _ => none
theorem strsOf_some : ∀ {ds : List D} {ys : List Str}, strsOf ds = some ys → ds = ys.map D.str
  | [], _, h => by cases h; rfl
  | d :: r, ys, h => by
    cases d with
    | str x =>
      have h : (strsOf r).map (x :: ·) = some ys := h
      cases e : strsOf r with
      | none => rw [e] at h; cases h
      | some q => rw [e] at h; cases h; rw [strsOf_some e]; rfl
    | _ => cases h
theorem strsOf_map : ∀ ys : List Str, strsOf (ys.map D.str) = some ys
  | [] => rfl
  | y :: r => by show (strsOf (r.map D.str)).map (y :: ·) = _; rw [strsOf_map r]; rfl
theorem isL_strs {F : Hp} {φ : List Addr} : ∀ {ys : List Str} {vs : List V}, IsL n F φ vs (ys.map D.str) → vs = ys.map V.str
  | [], _, h => by cases h; rfl
  | y :: r, _, h => by
    cases h with
    | cons a t => rw [is_str a, isL_strs t]; rfl
def joW (x : Str) (ds : List D) : M L := match strsOf ds with
  | some ys => if (ys.map (·.length)).sum + ys.length * x.length ≤ 16777216 then pure (.sh (.str (Txt.join x ys))) else bad
  | none => bad
def joM (fo fe : M D) : M L := do
  let d ← fo
  match d with
  | .str x => (do
    let e ← fe
    match e with
    | .lst ds => joW x ds
    | .tup ds => joW x ds
    | _ => bad)
  | _ => bad
theorem jo_out {c : Cf} {x : Str} {ds : List D} {vs : List V} {Q : VK} (k : Ok n c) (h : IsL n c.F c.φ vs ds) (o : Out n W (RV n) c (joW x ds c.S) Q) : ∃ ys : List Str, vs = ys.map V.str ∧ (ys.map (·.length)).sum + ys.length * x.length ≤ 16777216 ∧ Q (.str (Txt.join x ys)) c.H := by
  unfold joW at o
  cases e : strsOf ds with
  | none => rw [e] at o; exact o.elim
  | some ys =>
    rw [e] at o
    dsimp only at o
    by_cases hz : (ys.map (·.length)).sum + ys.length * x.length ≤ 16777216
    · rw [if_pos hz] at o
      rw [strsOf_some e] at h
      exact ⟨ys, isL_strs h, hz, o.sh k (.str _)⟩
    · rw [if_neg hz] at o; exact o.elim
theorem be_join {o e : Expr} {apos pos : Pos} {fo fe : M D} (hK : X.K = n.K) (ho : PE X o (tX n W fo)) (he : PE X e (tX n W fe)) (hs : starEach [e] X.env = [(false, eval e X.env)]) (hbase : attributeBase o "join" X.env (eval o X.env) = eval o X.env) (hline : (apos.endLine == pos.line) = true) :
    PE X (.Call (.Attribute o "join" apos) [e] [] pos) (tO n W (joM fo fe)) :=
  (pe_join ho he hs hbase hline).imp fun σ H Q ⟨c, e1, e2, k, oo⟩ => by
    subst e1 e2
    refine ⟨c, rfl, rfl, k, Out.bind (P1 := PX n) trO oo fun x c1 d e1 s1 k1 i1 o1 => ?_⟩
    cases d with
    | str z =>
      refine ⟨⟨z, is_str i1⟩, c1, e1, rfl, k1, Out.bind (P1 := PX n) trO o1 fun y c2 e e2 s2 k2 i2 o2 => ?_⟩
      cases e with
      | lst ds =>
        obtain ⟨a, vs, rfl, h1, h2⟩ := is_lst i2
        obtain ⟨ys, rfl, hz, q⟩ := jo_out k2 h2 o2
        exact ⟨z, a, ys, is_str i1, rfl, .inl (.of (k2.sub _ _ h1)), hz, q⟩
      | tup ds =>
        obtain ⟨a, vs, rfl, h1, h2⟩ := is_tup i2
        obtain ⟨ys, rfl, hz, q⟩ := jo_out k2 h2 o2
        exact ⟨z, a, ys, is_str i1, rfl, .inr (by rw [hK]; exact k2.sub.seqT h1), hz, q⟩
      | _ => exact o2.not_bad
    | _ => exact o1.not_bad
/-! ### dicts of one's own, written -/
def DPut2 (H : Hp) (a : Addr) (y v : V) (H' : Hp) : Prop := DPut H a y v H' ∨ ∃ (k : List Key) (b : Addr), H a = some (.dK []) ∧ y = .ref b ∧ H b = some (.tup (k.map kV)) ∧ H' = upd H a (.dT [(k, v)])
def sDPut2 (td ty tv : TE) : TS := fun D σ H => tv σ H fun v H1 => td σ H1 fun x H2 => ty σ H2 fun y H3 => ∃ a H4, x = .ref a ∧ DPut2 H3 a y v H4 ∧ D.nx σ H4
section
variable {o i e value : Expr} {pos pos' tpos : Pos} {td ty tv : TE}
theorem ps_dput2 (hu : X.A.units + 1 < cLine) (ho : PE X o td) (hi : PE X i ty) (hv : PE X value tv) (hs : swapsWith value (some (.Subscript o i pos')) pos.line X.env = pure false) :
    PS X (.Assign [.Subscript o i pos'] value pos) (sDPut2 td ty tv) := by
  refine ⟨fun pins s σ H D I h => ?_⟩
  refine wpAny_Assign_Subscript (thn (hv.run pins s σ H _ I h) fun r s1 ⟨v, H1, I1, rv, q1⟩ => thn (ho.run pins s1 σ H1 _ I1 q1) fun u s2 ⟨x, H2, I2, rx, q2⟩ => thn (hi.run pins s2 σ H2 _ I2 q2) fun iv s3 ⟨y, H3, I3, ry, a, H4, ex, g, q3⟩ => ?_) hs
  subst ex
  obtain rfl : u = Value.ref a := rx
  rcases g with g | ⟨k, b, e1, ey, e2, e3⟩
  · exact d_setItem hu I3 g ry rv fun s4 I4 => ⟨σ, H4, I4, q3⟩
  · subst ey e3
    have hb : b ≠ a := fun z => by subst z; rw [e1] at e2; cases e2
    have g := DPut.t (H := upd H3 a (.dT [])) (a := a) (kvs := []) (k := k) (v := v) upd_same ((upd_ne hb).trans e2) (by rw [sizeLine_eq]; simp)
    rw [upd_upd] at g
    exact d_setItem hu (toT I3 e1) g ry rv fun s4 I4 => ⟨σ, _, I4, q3⟩
end
def putO (kvs : List (D × D)) (kd y : D) : Option (List (D × D)) := match keyOf kd with
  | some k => if plainK kvs && decide (kvs.length < lineN) then some (putQ kvs k kd y) else none
  | none => match tkeyOf kd with
    | some k => if tupK kvs && decide (kvs.length < lineN) then some (putT kvs k kd y) else none
    | none => none
def chkD (i : Nat) : M Unit := fun s => match s.sl[i]? with
  | some (some (.od _)) => .ok () s
  | _ => .bad
def opN (i : Nat) (kd y : D) : MS := fun s => match s.sl[i]? with
  | some (some (.od kvs)) => (match putO kvs kd y with
    | some ks => .nx { s with sl := s.sl.set i (some (.od ks)) }
    | none => .bad)
  | _ => .bad
def opS (i : Nat) (mk mv : M D) : MS := thS mv fun y => thS (chkD i) fun _ => thS mk fun kd => opN i kd y
theorem chkD_some {c : Cf} {i : Nat} {k : MS} {E : Ends} (o : OutS n W c (thS (chkD i) (fun _ => k) c.S) E) : ∃ kvs, c.S.sl[i]? = some (some (.od kvs)) ∧ OutS n W c (k c.S) E := by
  unfold thS chkD at o
  cases e : c.S.sl[i]? with
  | none => rw [e] at o; exact o.elim
  | some y =>
    cases y with
    | none => rw [e] at o; exact o.elim
    | some y =>
      cases y with
      | od kvs => rw [e] at o; exact ⟨kvs, rfl, o⟩
      | _ => rw [e] at o; exact o.elim
theorem bs_op {i : Nat} {x : Str} {p pos pos' : Pos} {e ke : Expr} {mk mv : M D} (hu : X.A.units + 65 < cLine) (hN : X.N[i]? = some x) (hv : Vis X.env.scope x) (hd : (x == ("__debug__" : Str)) = false) (hcd : (x == ("__classdict__" : Str)) = false) (he : PE X e (tX n W mv)) (hk : PE X ke (tX n W mk))
    (hs : swapsWith e (some (.Subscript (.Name x p) ke pos')) pos.line X.env = pure false) : PS X (.Assign [.Subscript (.Name x p) ke pos'] e pos) (tS n W (opS i mk mv)) :=
  (ps_dput2 (by omega) (pe_var hN hv hd hcd) hk he hs).imp fun E σ H ⟨c, e1, e2, k, o⟩ => by
    subst e1 e2
    refine ⟨c, rfl, rfl, k, OutS.bind o fun y c1 d e1 s1 k1 i1 o1 => ?_⟩
    obtain ⟨kvs1, h1, o2⟩ := chkD_some o1
    obtain ⟨v, h2, h3⟩ := k1.sl i _ h1
    refine ⟨v, by rw [← e1]; exact h2, c1, e1, rfl, k1, OutS.bind o2 fun kv c2 kd e2 s2 k2 i2 o3 => ?_⟩
    unfold opN at o3
    cases q : c2.S.sl[i]? with
    | none => rw [q] at o3; exact o3.elim
    | some z =>
      cases z with
      | none => rw [q] at o3; exact o3.elim
      | some z =>
        cases z with
        | od kvs =>
          rw [q] at o3
          dsimp only at o3
          cases hp : putO kvs kd d with
          | none => rw [hp] at o3; exact o3.elim
          | some ks =>
            rw [hp] at o3
            dsimp only at o3
            obtain ⟨v2, g1, a, rfl, g4, g5, g6⟩ := k2.sl i _ q
            rw [e2, h2] at g1
            cases g1
            have hσ : c2.σ[i]? = some (some (.ref a)) := by rw [e2]; exact h2
            have iy : Is n c2.F c2.φ y d := s2.is i1
            have fin : ∀ (ob : HO), OIs n { c2 with H := upd c2.H a ob } (.ref a) (.od ks) → E.nx c.σ (upd c2.H a ob) := fun ob hy => by
              obtain ⟨k3, s3⟩ := k2.setOwn (y := .od ks) (o := ob) q rfl rfl hσ hy
              rw [← e1, ← e2]
              exact o3 { c2 with S := { c2.S with sl := c2.S.sl.set i (some (.od ks)) }, H := upd c2.H a ob } rfl s3 k3
            unfold putO at hp
            cases hk1 : keyOf kd with
            | some k0 =>
              rw [hk1] at hp
              dsimp only at hp
              split at hp
              · rename_i hz
                cases hp
                rw [Bool.and_eq_true, decide_eq_true_eq] at hz
                rcases g6 with ⟨us, h, t⟩ | ⟨us, h, t⟩
                · have hl : us.length < sizeLine := by rw [t.length, lineN_eq]; exact hz.2
                  refine ⟨a, _, rfl, .inl ?_, fin (.dK (putK us k0 y)) ⟨a, rfl, g4, g5, .inl ⟨_, upd_same, t.put hk1 iy⟩⟩⟩
                  rw [key_is i2 hk1]
                  exact DPut.k h hl
                · rw [plainK_T t] at hz; cases hz.1
              · cases hp
            | none =>
              rw [hk1] at hp
              dsimp only at hp
              cases hk2 : tkeyOf kd with
              | none => rw [hk2] at hp; cases hp
              | some k0 =>
                rw [hk2] at hp
                dsimp only at hp
                split at hp
                · rename_i hz
                  cases hp
                  rw [Bool.and_eq_true, decide_eq_true_eq] at hz
                  obtain ⟨b, rfl, hb⟩ := tkey_is i2 hk2
                  have hb := k2.sub _ _ hb
                  rcases g6 with ⟨us, h, t⟩ | ⟨us, h, t⟩
                  · have := tupK_K t hz.1
                    subst this
                    cases t
                    exact ⟨a, _, rfl, .inr ⟨k0, b, h, rfl, hb, rfl⟩, fin (.dT [(k0, y)]) ⟨a, rfl, g4, g5, .inr ⟨_, upd_same, .one hk2 iy⟩⟩⟩
                  · have hl : us.length < sizeLine := by rw [t.length, lineN_eq]; exact hz.2
                    exact ⟨a, _, rfl, .inl (DPut.t h hb hl), fin (.dT (putK us k0 y)) ⟨a, rfl, g4, g5, .inr ⟨_, upd_same, t.put hk2 iy⟩⟩⟩
                · cases hp
        | _ => rw [q] at o3; exact o3.elim
end Bv

/-! ==, != by an own def -/
namespace Bv
open PySem PySem.Spec PyProof.Rows L2
variable {n : Nm} {W : WX} {X : Cx}
def gOwn (F : FnS) (d e : D) : M L := fun s => match F [d, e] ⟨[], s.st⟩ with
  | .ok x s' => .ok x ⟨s.sl, s'.st⟩
  | _ => .bad
/-- both of the class at C, compared by its own def -/
def rOwn (n : Nm) (C : Addr) (F : FnS) : R2 := fun x y H Q => ∃ a b dx dy fs gs, x = .ref a ∧ y = .ref b ∧ H a = some (.ins C dx fs) ∧ H b = some (.ins C dy gs) ∧ spB n 2 F [x, y] H (fun v H' => (∃ k, v = .bl k) ∧ Q v H') (fun _ _ _ => False)
theorem op_own {op : CmpOp} {C f : Addr} {fd : FuncData} {ps : List Str} {k : Nat} {F : FnS} (FO : FnOk X.prog X.w X.K X.mg X.base (L2.CX X.prog X.w) k f fd ps (spB n 2 F)) (hr : Room k X.A)
    (hs : PySem.W.findIn X.K (.ref C) (cmpInfo op).2.1 = some (some (.ref f))) (hf : PySem.W.isFn X.K (.ref f) = true) (hb : Binds X.K fd ps []) (hop : compareOp op = richCompare op) : OpR X (compareOp op) (rOwn n C F) := by
  intro pins s σ H x y u v Q I rx ry d
  obtain ⟨a, b, dx, dy, fs, gs, rfl, rfl, ha, hb', hsp⟩ := d
  cases rx
  cases ry
  obtain ⟨mA, J, _⟩ := ins_get I.hok ha
  obtain ⟨mB, J', _⟩ := ins_get I.hok hb'
  obtain ⟨od, J, _⟩ := J.look
  obtain ⟨od', J', _⟩ := J'.look
  obtain ⟨m, hF⟩ := I.fr
  rw [hop]
  refine PySem.W.cmp_K (op := op) (tb := .ref C) hr.units0 hF I.ok.mod.kin J J'.type (by simp [PySem.W.notFirst]) hs hf ?_
  have hl := FO.len _ _ _ _ hsp
  have r2 : Vals [V.ref a, V.ref b] [Value.ref a, Value.ref b] := .cons rfl (.cons rfl .nil)
  refine wpAny_call (codeAny_mono (FO.run X.A X.stack s H ⟨[.ref a, .ref b], []⟩ [.ref a, .ref b] [.ref a, .ref b] _ (fun _ _ _ => False) hr I.env0 (by
    have := hb s [.ref a, .ref b] I.kIn (by simpa using hl)
    simpa using this) r2 hsp) fun r s' hq => ?_)
  cases r with
  | error e =>
    obtain ⟨_, _, _, _, _, _, _, _, _, _, _, _, z⟩ := hq
    exact z.elim
  | ok fl =>
    cases fl with
    | ret w =>
      obtain ⟨z, H', I', rz, ⟨k, ez⟩, q⟩ := I.after hq
      subst ez
      cases rz
      exact ⟨.bl k, H', I', rfl, q⟩
    | next => exact False.elim hq
    | brk => exact False.elim hq
    | cont => exact False.elim hq
theorem own_ok {C : Addr} {cn : Str} {F : FnS} {fs gs : List (Str × D)} (hC : n.cA cn = some C) {c : Cf} {x y : V} {Q : VK} (k : Ok n c) (hi : Is n c.F c.φ x (.inst cn fs)) (hj : Is n c.F c.φ y (.inst cn gs))
    (o : Out n W (RV n) c ((match gOwn F (.inst cn fs) (.inst cn gs) c.S with | .ok (.sh (.bl b)) s' => Res.ok (.sh (.bl b)) s' | _ => .bad : Res L)) Q) : rOwn n C F x y c.H Q := by
  cases hi with
  | inst h1 h2 h3 =>
    cases hj with
    | inst g1 g2 g3 =>
      rw [hC] at h1 g1
      cases h1
      cases g1
      refine ⟨_, _, _, _, _, _, rfl, rfl, k.sub _ _ h2, k.sub _ _ g2, ?_⟩
      refine call_ok (W := fun _ _ _ _ => False) (m := 2) k (.cons (.inst hC h2 h3) (.cons (.inst hC g2 g3) .nil)) rfl ?_
      unfold gOwn at o
      unfold callM
      cases q : F [.inst cn fs, .inst cn gs] ⟨[], c.S.st⟩ with
      | ok l s' =>
        rw [q] at o
        cases l with
        | sh d =>
          cases d with
          | bl b => exact fun v c' e1 e2 s1 k1 r1 => ⟨⟨b, is_bl r1.is⟩, o v c' e1 e2 s1 k1 r1⟩
          | _ => exact o.elim
        | _ => exact o.elim
      | exc Ce fe s' => rw [q] at o; exact o.elim
      | bad => rw [q] at o; exact o.elim
end Bv

/-! a call that only looks at own lists -/
namespace Bv
open PySem PySem.Spec PyProof.Rows L2
variable {n : Nm} {W : WX} {X : Cx}
/-! what a value holds -/
mutual
def noM : D → Bool
  | .non => true
  | .bl _ => true
  | .int _ => true
  | .str _ => true
  | .lst xs => noMs xs
  | .tup xs => noMs xs
  | _ => false
def noMs : List D → Bool
  | [] => true
  | d :: ds => noM d && noMs ds
end
mutual
def noL : D → Bool
  | .non => true
  | .bl _ => true
  | .int _ => true
  | .str _ => true
  | .tup xs => noLs xs
  | _ => false
def noLs : List D → Bool
  | [] => true
  | d :: ds => noL d && noLs ds
end
mutual
theorem Is.free {F : Hp} {φ : List Addr} : ∀ {v : V} {d : D}, Is n F φ v d → noM d = true → Is n F [] v d
  | _, _, .non, _ => .non
  | _, _, .bl b, _ => .bl b
  | _, _, .int i, _ => .int i
  | _, _, .str x, _ => .str x
  | _, _, .lst h t, e => .lst h (IsL.free t (by unfold noM at e; exact e))
  | _, _, .tup h t, e => .tup h (IsL.free t (by unfold noM at e; exact e))
  | _, _, .dicK h t, e => by unfold noM at e; cases e
  | _, _, .dicT h t, e => by unfold noM at e; cases e
  | _, _, .inst c h t, e => by unfold noM at e; cases e
  | _, _, .fn h, e => by unfold noM at e; cases e
  | _, _, .mref h, e => by unfold noM at e; cases e
  | _, _, .scr h t, e => by unfold noM at e; cases e
theorem IsL.free {F : Hp} {φ : List Addr} : ∀ {v : List V} {d : List D}, IsL n F φ v d → noMs d = true → IsL n F [] v d
  | _, _, .nil, _ => .nil
  | _, _, .cons h t, e => by
    unfold noMs at e
    rw [Bool.and_eq_true] at e
    exact .cons (Is.free h e.1) (IsL.free t e.2)
end
mutual
theorem Is.unl {F G : Hp} {φ : List Addr} (hG : ∀ b xs, F b = some (.tup xs) → G b = some (.tup xs)) : ∀ {v : V} {d : D}, Is n F [] v d → noL d = true → Is n G φ v d
  | _, _, .non, _ => .non
  | _, _, .bl b, _ => .bl b
  | _, _, .int i, _ => .int i
  | _, _, .str x, _ => .str x
  | _, _, .lst h t, e => by unfold noL at e; cases e
  | _, _, .tup h t, e => .tup (hG _ _ h) (IsL.unl hG t (by unfold noL at e; exact e))
  | _, _, .dicK h t, e => by unfold noL at e; cases e
  | _, _, .dicT h t, e => by unfold noL at e; cases e
  | _, _, .inst c h t, e => by unfold noL at e; cases e
  | _, _, .fn h, e => by unfold noL at e; cases e
  | _, _, .mref h, e => by unfold noL at e; cases e
  | _, _, .scr h t, e => by unfold noL at e; cases e
theorem IsL.unl {F G : Hp} {φ : List Addr} (hG : ∀ b xs, F b = some (.tup xs) → G b = some (.tup xs)) : ∀ {v : List V} {d : List D}, IsL n F [] v d → noLs d = true → IsL n G φ v d
  | _, _, .nil, _ => .nil
  | _, _, .cons h t, e => by
    unfold noLs at e
    rw [Bool.and_eq_true] at e
    exact .cons (Is.unl hG h e.1) (IsL.unl hG t e.2)
end
/-! names as arguments -/
inductive NamesAt (X : Cx) : List Expr → List Nat → Prop
  | nil : NamesAt X [] []
  | cons {x : Str} {p : Pos} {i : Nat} {es : List Expr} {is : List Nat} : X.N[i]? = some x → Vis X.env.scope x → (x == ("__debug__" : Str)) = false → (x == ("__classdict__" : Str)) = false → NamesAt X es is → NamesAt X (.Name x p :: es) (i :: is)
def tVars : List Nat → TA
  | [] => tNil
  | i :: is => tCons (tVar i) (tVars is)
theorem pa_vars : ∀ {es : List Expr} {is : List Nat}, NamesAt X es is → PA X es (tVars is)
  | _, _, .nil => pa_nil
  | _, _, .cons h1 h2 h3 h4 t => pa_cons (pe_var h1 h2 h3 h4) (pa_vars t) rfl
def slL (s : S) : List Nat → Option (List L)
  | [] => some []
  | i :: is => match s.sl[i]?, slL s is with
    | some (some (.sh d)), some ls => some (.sh d :: ls)
    | some (some (.ol ds)), some ls => some (.ol ds :: ls)
    | _, _ => none
def brM (m : Nat) (f : FnS) (is : List Nat) : M L := fun s => match slL s is with
  | some ls => if ls.length = m ∧ noMs (ls.map L.d) = true then (match f (ls.map L.d) ⟨[], []⟩ with
    | .ok (.sh d) ⟨_, []⟩ => if noL d = true then .ok (.sh d) s else .bad
    | _ => .bad) else .bad
  | none => .bad
/-- own lists shown as shared for the time of a call -/
def Lent (c : Cf) (b : Addr) : Prop := OwnA c b ∧ ∃ vs, c.H b = some (.lst vs)
open Classical in
noncomputable def lentF (c : Cf) : Hp := fun b => if Lent c b then c.H b else c.F b
theorem lent_none {c : Cf} (k : Ok n c) {b : Addr} (h : Lent c b) : c.F b = none := by
  obtain ⟨⟨i, x, e1, e2, e3⟩, _⟩ := h
  obtain ⟨v, h1, h2⟩ := k.sl i x e1
  rw [e3] at h1; cases h1
  obtain ⟨_, ee, hf, _⟩ := h2.at e2
  cases ee
  exact hf
theorem lent_sub {c : Cf} (k : Ok n c) : Sub c.F (lentF c) := fun b o e => by
  unfold lentF
  rw [if_neg (fun h => by rw [lent_none k h] at e; cases e)]
  exact e
theorem lent_is {c : Cf} (k : Ok n c) : ∀ {is : List Nat} {ls : List L}, slL c.S is = some ls → noMs (ls.map L.d) = true → ∃ vs : List V, vs.length = ls.length ∧ IsL n (lentF c) [] vs (ls.map L.d) ∧ ∀ (H : Hp) (Q : List V → Hp → Prop), Q vs H → tVars is c.σ H Q
  | [], ls, h, _ => by cases h; exact ⟨[], rfl, .nil, fun H Q q => q⟩
  | i :: is, ls, h, hm => by
    unfold slL at h
    split at h
    · rename_i d ls' h1 h2
      cases h
      rw [List.map_cons] at hm ⊢
      unfold noMs at hm
      rw [Bool.and_eq_true] at hm
      obtain ⟨vs, g1, g2, g3⟩ := lent_is k h2 hm.2
      obtain ⟨v, g4, g5⟩ := k.sl i _ h1
      have g6 : Is n c.F [] v d := Is.free (φ := c.φ) g5 hm.1
      have g7 := Is.mono (ψ := []) (lent_sub k) g6
      exact ⟨v :: vs, by rw [List.length_cons, List.length_cons, g1], .cons g7 g2, fun H Q q => ⟨v, g4, g3 H _ q⟩⟩
    · rename_i ds ls' h1 h2
      cases h
      rw [List.map_cons] at hm ⊢
      unfold noMs at hm
      rw [Bool.and_eq_true] at hm
      obtain ⟨vs, g1, g2, g3⟩ := lent_is k h2 hm.2
      obtain ⟨v, g4, a, us, rfl, g5, g6, g7, g8⟩ := k.sl i _ h1
      have hl : Lent c a := ⟨⟨i, _, h1, rfl, g4⟩, us, g5⟩
      have hF : lentF c a = some (.lst us) := by unfold lentF; rw [if_pos hl]; exact g5
      have hds : noMs ds = true := by have := hm.1; unfold L.d noM at this; exact this
      have g9 : IsL n c.F [] us ds := IsL.free (φ := c.φ) g8 hds
      have g10 := IsL.mono (ψ := []) (lent_sub k) g9
      exact ⟨.ref a :: vs, by rw [List.length_cons, List.length_cons, g1], .cons (.lst hF g10) g2, fun H Q q => ⟨.ref a, g4, g3 H _ q⟩⟩
    · cases h
open Classical in
theorem be_br {x : Str} {p pos : Pos} {e : Expr} {es : List Expr} {is : List Nat} {f : FnS} {k m : Nat} {a : Addr} {fd : FuncData} {ps : List Str} (tk : Takes X W) (F : FnOk X.prog X.w X.K X.mg X.base (L2.CX X.prog X.w) k a fd ps (spB n m f)) (hr : Room k X.A) (hg : Gl X x) (hm : X.mg x = some (.ref a)) (hk : PySem.W.keepIn X.K (.ref a) = true)
    (hb : Binds X.K fd ps []) (ha : NamesAt X (e :: es) is) (hdb : (x == ("__debug__" : Str)) = false) (he : starEach (e :: es) X.env = (false, eval e X.env) :: starEach es X.env) (hpl : (backTo pos (starEach es X.env)).any (·.1) = false) :
    PE X (.Call (.Name x p) (e :: es) [] pos) (tO n W (brM m f is)) :=
  (pe_callS F hr hg hm hk hb (fun σ => passAt tk σ) (pa_vars ha) hdb he hpl).imp fun σ H Q ⟨c, e1, e2, kc, o⟩ => by
    subst e1 e2
    unfold brM at o
    cases hs : slL c.S is with
    | none => rw [hs] at o; exact o.elim
    | some ls =>
      rw [hs] at o
      dsimp only at o
      by_cases hc : ls.length = m ∧ noMs (ls.map L.d) = true
      · rw [if_pos hc] at o
        obtain ⟨vs, g1, g2, g3⟩ := lent_is kc hs hc.2
        refine g3 c.H _ ?_
        have own0 : ∀ (i : Nat) (x : L), (([] : List (Option L)))[i]? = some (some x) → False := fun i x h => by rw [List.getElem?_nil] at h; cases h
        refine ⟨{ S := ⟨[], []⟩, σ := [], φ := [], F := lentF c, H := c.H, an := c.an }, ls.map L.d, rfl, rfl, rfl, ⟨rfl, fun b u hu => ?_, fun i x h => (own0 i x h).elim, fun i j x y b _ h => (own0 i x h).elim, List.nodup_nil, rfl, fun j u b h => by simp at h, fun b h => by cases h⟩, g2, by rw [g1]; exact hc.1, ?_⟩
        · have hu : lentF c b = some u := hu
          unfold lentF at hu
          split at hu
          · exact hu
          · exact kc.sub _ _ hu
        · show OutF n _ (f (ls.map L.d) ⟨[], []⟩) Q _
          split at o
          · rename_i d sl0 hfd
            rw [hfd]
            split at o
            · rename_i hnl
              intro v c' h1 h2 s' k' i' own
              have hφ : c'.φ = [] := by
                have := k'.slen
                rw [h1] at this
                exact List.eq_nil_of_length_eq_zero this.symm
              have noMut : ∀ b, ¬ Mut ({ S := ⟨[], []⟩, σ := [], φ := [], F := lentF c, H := c.H, an := c.an } : Cf) b := fun b hm => by
                rcases hm with ⟨i, x, q1, _⟩ | hm
                · exact own0 i x q1
                · cases hm
              have hH : ∀ b u, c.H b = some u → NT u → c'.H b = some u := fun b u hu ht => s'.H b u hu (noMut b) ht
              -- what is frozen behind the call, without what was lent
              have hnew : ∀ b, c'.F b ≠ none → ¬ Lent c b → c.F b ≠ none ∨ c.H b = none ∨ ∃ xs, c'.H b = some (.tup xs) := fun b hb hl => by
                rcases s'.new b hb with z | z | z | z
                · have z : lentF c b ≠ none := z
                  unfold lentF at z
                  rw [if_neg hl] at z
                  exact .inl z
                · exact .inr (.inl z)
                · exact absurd z (noMut b)
                · exact .inr (.inr z)
              have hFF : Sub c.F (fun b => if Lent c b then none else c'.F b) := fun b u hu => by
                show (if Lent c b then none else c'.F b) = some u
                rw [if_neg (fun h => by rw [lent_none kc h] at hu; cases hu)]
                exact s'.F _ _ (lent_sub kc _ _ hu)
              have ownN : ∀ (i : Nat) (x : L) (b : Addr), c.S.sl[i]? = some (some x) → x.own = true → c.σ[i]? = some (some (V.ref b)) → (if Lent c b then none else c'.F b) = none := fun i x b q1 q2 q3 => by
                by_cases hl : Lent c b
                · rw [if_pos hl]
                · rw [if_neg hl]
                  cases q : c'.F b with
                  | none => rfl
                  | some u =>
                    obtain ⟨w, r1, r2⟩ := kc.sl i x q1
                    rw [q3] at r1; cases r1
                    obtain ⟨_, ee, hf, _, ob, hob, ht⟩ := r2.at q2
                    cases ee
                    rcases hnew b (fun z => by rw [q] at z; cases z) hl with z | z | ⟨xs, z⟩
                    · exact absurd hf z
                    · rw [hob] at z; cases z
                    · rw [hH b ob hob ht] at z
                      cases z
                      exact absurd hob ((Mut.noTup kc (.inl ⟨i, x, q1, q2, q3⟩)).2 xs)
              have φN : ∀ b ∈ c.φ, (if Lent c b then none else c'.F b) = none := fun b hb => by
                by_cases hl : Lent c b
                · rw [if_pos hl]
                · rw [if_neg hl]
                  cases q : c'.F b with
                  | none => rfl
                  | some u =>
                    obtain ⟨j, hj⟩ := List.getElem?_of_mem hb
                    have hjl : j < c.S.st.length := by rw [kc.slen]; exact (List.getElem?_eq_some_iff.mp hj).1
                    have hm := kc.st j c.S.st[j] b (List.getElem?_eq_getElem hjl) hj
                    have hob : ∃ ob, c.H b = some ob ∧ NT ob := by
                      cases qq : c.S.st[j] with
                      | dic fs => rw [qq] at hm; obtain ⟨us, r1, _⟩ := hm; exact ⟨_, r1, fun _ z => by cases z⟩
                      | inst C fs => rw [qq] at hm; obtain ⟨_, _, us, _, r1, _⟩ := hm; exact ⟨_, r1, fun _ z => by cases z⟩
                    obtain ⟨ob, hob, ht⟩ := hob
                    rcases hnew b (fun z => by rw [q] at z; cases z) hl with z | z | ⟨xs, z⟩
                    · exact absurd (kc.fφ b hb) z
                    · rw [hob] at z; cases z
                    · rw [hH b ob hob ht] at z
                      cases z
                      exact absurd hob ((Mut.noTup kc (.inr hb)).2 xs)
              have up : ∀ {v : V} {d : D}, Is n c.F c.φ v d → Is n (fun b => if Lent c b then none else c'.F b) c.φ v d := fun {v d} h => by
                have z := Is.mono (ψ := []) hFF h
                rw [List.append_nil] at z; exact z
              have upL : ∀ {v : List V} {d : List D}, IsL n c.F c.φ v d → IsL n (fun b => if Lent c b then none else c'.F b) c.φ v d := fun {v d} h => by
                have z := IsL.mono (ψ := []) hFF h
                rw [List.append_nil] at z; exact z
              have upK : ∀ {v : List (Key × V)} {d : List (D × D)}, IsK n c.F c.φ v d → IsK n (fun b => if Lent c b then none else c'.F b) c.φ v d := fun {v d} h => by
                have z := IsK.mono (ψ := []) hFF h
                rw [List.append_nil] at z; exact z
              have upT : ∀ {v : List (List Key × V)} {d : List (D × D)}, IsKT n c.F c.φ v d → IsKT n (fun b => if Lent c b then none else c'.F b) c.φ v d := fun {v d} h => by
                have z := IsKT.mono (ψ := []) hFF h
                rw [List.append_nil] at z; exact z
              have upF : ∀ {v : List (Str × V)} {d : List (Str × D)}, IsF n c.F c.φ v d → IsF n (fun b => if Lent c b then none else c'.F b) c.φ v d := fun {v d} h => by
                have z := IsF.mono (ψ := []) hFF h
                rw [List.append_nil] at z; exact z
              refine o.to (c' := { S := c.S, σ := c.σ, φ := c.φ, F := fun b => if Lent c b then none else c'.F b, H := c'.H, an := c.an }) rfl rfl ⟨hFF, fun b u hu _ ht => hH b u hu ht, fun b hb => ?_, fun b hb => .inl (by
                rcases hb with ⟨i, x, q1, q2, q3⟩ | hb
                · exact .inl ⟨i, x, q1, q2, q3⟩
                · exact .inr hb), fun b hb => s'.there b hb, ⟨[], by simp⟩, rfl⟩ ⟨kc.len, fun b u hu => ?_, fun i x q1 => ?_, kc.dist, kc.nd, kc.slen, fun j u b q1 q2 => ?_, φN⟩ ⟨OIs.sh ?_, fun z => by cases z⟩
              · have hb : (if Lent c b then none else c'.F b) ≠ none := hb
                by_cases hl : Lent c b
                · rw [if_pos hl] at hb; exact absurd rfl hb
                · rw [if_neg hl] at hb
                  rcases hnew b hb hl with z | z | z
                  · exact .inl z
                  · exact .inr (.inl z)
                  · exact .inr (.inr (.inr z))
              · have hu : (if Lent c b then none else c'.F b) = some u := hu
                split at hu
                · cases hu
                · exact k'.sub _ _ hu
              · obtain ⟨v, r1, r2⟩ := kc.sl i x q1
                refine ⟨v, r1, ?_⟩
                cases x with
                | sh d => exact up r2
                | ol ds => obtain ⟨b, us, rfl, h5, h6, h7, h8⟩ := r2; exact ⟨b, us, rfl, hH _ _ h5 (fun _ z => by cases z), ownN i _ b q1 rfl r1, h7, upL h8⟩
                | od kvs =>
                  obtain ⟨b, rfl, h6, h7, ⟨us, h5, h8⟩ | ⟨us, h5, h8⟩⟩ := r2
                  · exact ⟨b, rfl, ownN i _ b q1 rfl r1, h7, .inl ⟨us, hH _ _ h5 (fun _ z => by cases z), upK h8⟩⟩
                  · exact ⟨b, rfl, ownN i _ b q1 rfl r1, h7, .inr ⟨us, hH _ _ h5 (fun _ z => by cases z), upT h8⟩⟩
                | oi b0 C fs => obtain ⟨b, C, dx, us, rfl, hb, hC, h5, h6, h7, h8⟩ := r2; exact ⟨b, C, dx, us, rfl, hb, hC, hH _ _ h5 (fun _ z => by cases z), ownN i _ b q1 rfl r1, h7, upF h8⟩
              · have z := kc.st j u b q1 q2
                cases u with
                | dic fs => obtain ⟨us, h5, h8⟩ := z; exact ⟨us, hH _ _ h5 (fun _ z => by cases z), upF h8⟩
                | inst C fs => obtain ⟨C, dx, us, h4, h5, h8⟩ := z; exact ⟨C, dx, us, h4, hH _ _ h5 (fun _ z => by cases z), upF h8⟩
              · have i2 : Is n c'.F c'.φ v d := i'
                rw [hφ] at i2
                refine Is.unl (fun b xs hb => ?_) i2 hnl
                show (if Lent c b then none else c'.F b) = some (.tup xs)
                rw [if_neg (fun hl => ?_)]
                · exact hb
                · obtain ⟨_, us, hu⟩ := hl
                  have := k'.sub _ _ hb
                  rw [hH b _ hu (fun _ z => by cases z)] at this
                  cases this
            · exact o.elim
          · exact o.elim
      · rw [if_neg hc] at o; exact o.elim
/-! ==, != of an own list that stays own -/
def cmL (neg : Bool) (l : L) (e : D) : M L := match l with
  | .sh d => if neg then gNe d e else gEq d e
  | .ol ds => (match eqD (.lst ds) e with
    | some b => pure (.sh (.bl (if neg then !b else b)))
    | none => bad)
  | _ => bad
def cmN (i : Nat) (neg : Bool) (fb : M D) : M L := do
  let _ ← slN i
  let e ← fb
  let l ← slN i
  cmL neg l e
def rEN (K : PySem.W.Frag) (neg : Bool) : R2 := fun x y H Q => if neg then rNeD K x y H Q else rEqD K x y H Q
theorem ops_cmL (neg : Bool) {c : Cf} {x y : V} {l : L} {e : D} {Q : VK} (k : Ok n c) (hi : OIs n c x l) (hj : Is n c.F c.φ y e) (o : Out n W (RV n) c (cmL neg l e c.S) Q) : rEN n.K neg x y c.H Q := by
  unfold rEN
  cases l with
  | sh d =>
    cases neg with
    | true => exact ops_ne c x y d e Q k hi hj o
    | false => exact ops_eq c x y d e Q k hi hj o
  | ol ds =>
    obtain ⟨a, vs, rfl, h1, _, _, h2⟩ := hi
    unfold cmL at o
    dsimp only at o
    cases hb : eqD (.lst ds) e with
    | none => rw [hb] at o; exact o.not_bad
    | some b =>
      rw [hb] at o
      obtain ⟨p, q, g1, g2, g3, g4, rfl⟩ := eqD_some hb
      have hp : Dp n.K c.H (.ref a) p := by
        unfold D.py at g1
        cases g5 : pyL ds with
        | none => rw [g5] at g1; cases g1
        | some qs => rw [g5] at g1; cases g1; exact .lst (.of h1) (h2.dp k.sub g5)
      cases neg with
      | true => exact ⟨p, q, hp, hj.dp k.sub g2, g3, g4, o.sh k (.bl _)⟩
      | false => exact ⟨p, q, hp, hj.dp k.sub g2, g3, g4, o.sh k (.bl _)⟩
  | _ => exact o.not_bad
section
variable {b : Expr} {fb : M D} {pos p : Pos} {x : Str} {i : Nat} {op : CmpOp} {neg : Bool}
theorem cmN_t (o : OpR X (compareOp op) (rEN n.K neg)) {c : Cf} {Q : VK} (k : Ok n c) (oo : Out n W (RV n) c (cmN i neg fb c.S) Q) : tOp (rEN n.K neg) (tVar i) (tX n W fb) c.σ c.H Q := by
  obtain ⟨l, v, h1, h2, h3, o1⟩ := slN_some oo k
  refine ⟨v, h2, c, rfl, rfl, k, Out.bind (P1 := PX n) trO o1 fun y c1 e e1 s1 k1 i1 o2 => ?_⟩
  obtain ⟨l', v', h4, h5, h6, o3⟩ := slN_some o2 k1
  rw [e1, h2] at h5
  cases h5
  exact ops_cmL neg k1 h6 i1 o3
theorem be_cmN (ho : OpR X (compareOp op) (rEN n.K neg)) (hN : X.N[i]? = some x) (hv : Vis X.env.scope x) (hd : (x == ("__debug__" : Str)) = false) (hcd : (x == ("__classdict__" : Str)) = false) (hb : PE X b (tX n W fb)) (hm : behindInMarks op b = false) :
    PE X (.Compare (.Name x p) [op] [b] pos) (tO n W (cmN i neg fb)) :=
  (pe_cmpR ho (pe_var hN hv hd hcd) hb hm).imp fun σ H Q ⟨c, e1, e2, k, o⟩ => by
    subst e1 e2
    exact cmN_t ho k o
theorem bt_cmN (ho : OpR X (compareOp op) (rEN n.K neg)) (hN : X.N[i]? = some x) (hv : Vis X.env.scope x) (hd : (x == ("__debug__" : Str)) = false) (hcd : (x == ("__classdict__" : Str)) = false) (hb : PE X b (tX n W fb)) (hm : behindInMarks op b = false) :
    PT X (.Compare (.Name x p) [op] [b] pos) (tT n W (blT (cmN i neg fb))) :=
  (pt_cmpR ho (pe_var hN hv hd hcd) hb hm).imp fun σ H Q ⟨c, e1, e2, k, o⟩ => by
    subst e1 e2
    have o := Out.isBl (n := n) o
    exact cmN_t ho k o
end
end Bv

/-! comprehensions of two clauses; tuples with a star; range with a step -/
namespace Bv
open PySem PySem.Spec PyProof.Rows L2
variable {n : Nm} {W : WX} {X : Cx}
theorem rgC_len {a c : Int} {m : Nat} : (rgC a c m).length = m := by unfold rgC; rw [List.length_map, List.length_range]
theorem wk_rangeC {c1 : Cf} {a s : Int} {m : Nat} : Wk n c1 (Itc a s m) (rgC a s m) where
  go := fun j c hj k f => by
    show j < m
    rw [rgC_len] at hj; exact hj
  yld := fun j c x H' hj k f y => by
    obtain ⟨e, y⟩ := y
    subst e y
    refine ⟨c, _, rfl, rfl, rfl, Stp.refl c, k, ?_, .int _⟩
    rw [rgC_len] at hj
    unfold rgC
    rw [List.getElem?_map, List.getElem?_range hj]
    rfl
  stop := fun c k f => by
    rw [rgC_len]
    exact Nat.le_refl _
theorem bi_range3 {tg a b d : Expr} {p pos : Pos} {fs : M (List D)} (hg : Gl X "range") (hm : X.mg "range" = none) (ha : PA X [a, b, d] (tA n W fs)) (hs : starEach [a, b, d] X.env = (false, eval a X.env) :: starEach [b, d] X.env) (hs2 : ((backTo pos (starEach [b, d] X.env)).any fun x => x.1) = false) :
    PI X tg (.Call (.Name "range" p) [a, b, d] [] pos) (tI n W (rgM fs rg3W)) := (pi_range3 hg hm ha hs hs2).imp fun σ H R ⟨c, e1, e2, k, o⟩ => by
  subst e1 e2
  refine ⟨c, rfl, rfl, k, Out.bind (P1 := PL n) trI o fun vs c1 ds e1 s1 k1 i1 o1 => ?_⟩
  unfold rg3W at o1
  split at o1
  · rename_i i j s
    split at o1
    · rename_i hz
      simp only [Bool.and_eq_true, decide_eq_true_eq] at hz
      obtain ⟨u, v, w, rfl, hu, hv, hw⟩ : ∃ u v w, vs = [u, v, w] ∧ Is n c1.F c1.φ u (.int i) ∧ Is n c1.F c1.φ v (.int j) ∧ Is n c1.F c1.φ w (.int s) := by
        cases i1 with
        | cons h t =>
          cases t with
          | cons h2 t =>
            cases t with
            | cons h3 t => cases t; exact ⟨_, _, _, rfl, h, h2, h3⟩
      rw [is_int hu, is_int hv, is_int hw]
      have hn : 0 ≤ Builtin.Range.rangeSize i j s := by
        unfold Builtin.Range.rangeSize
        split
        · split
          · have := Int.ediv_nonneg (show 0 ≤ j - i - 1 by omega) (show 0 ≤ s by omega); omega
          · omega
        · split
          · have := Int.ediv_nonneg (show 0 ≤ i - j - 1 by omega) (show 0 ≤ -s by omega); omega
          · omega
      exact ⟨i, j, s, (Builtin.Range.rangeSize i j s).toNat, rfl, ⟨hz.1.1, hz.1.2, hz.2, by omega⟩, o1.fin k1 wk_rangeC⟩
    · exact o1.not_bad
  · exact o1.not_bad
/-! ### a star in a display -/
def starM (f : M D) (fs : M (List D)) : M (List D) := do
  let d ← f
  match d with
  | .tup ds => do let es ← fs; pure (ds ++ es)
  | .lst ds => do let es ← fs; pure (ds ++ es)
  | _ => bad
theorem ba_star {e : Expr} {p : Pos} {es : List Expr} {f : M D} {fs : M (List D)} (hK : X.K = n.K) (h : PE X e (tX n W f)) (hs : PA X es (tA n W fs)) : PA X (.Starred e p :: es) (tA n W (starM f fs)) :=
  (StX.pa_star h hs).imp fun σ H Q ⟨c, e1, e2, k, o⟩ => by
    subst e1 e2
    refine ⟨c, rfl, rfl, k, Out.bind (P1 := PX n) trL o fun x c1 d e1 s1 k1 i1 o1 => ?_⟩
    cases d with
    | tup ds =>
      obtain ⟨a, xs, rfl, h1, h2⟩ := is_tupF i1
      refine ⟨a, xs, rfl, .inl (by rw [hK]; exact .of (k1.sub _ _ h1)), c1, e1, rfl, k1, Out.bind (P1 := PL n) trL o1 fun ys c2 es e2 s2 k2 i2 o2 => ?_⟩
      exact o2 (xs ++ ys) c2 rfl rfl (Stp.refl c2) k2 ((s2.isL h2).append i2)
    | lst ds =>
      obtain ⟨a, xs, rfl, h1, h2⟩ := is_lst i1
      refine ⟨a, xs, rfl, .inr (by rw [hK]; exact .of (k1.sub _ _ h1)), c1, e1, rfl, k1, Out.bind (P1 := PL n) trL o1 fun ys c2 es e2 s2 k2 i2 o2 => ?_⟩
      exact o2 (xs ++ ys) c2 rfl rfl (Stp.refl c2) k2 ((s2.isL h2).append i2)
    | _ => exact o1.not_bad
/-! ### two clauses -/
def lcB2 (vs : List Nat) (a : AS) (t : M Bool) (m1 : M (List D)) (vs1 : List Nat) (a1 : AS) (t1 : M Bool) (e : M D) : List D → List D → S → Res (List D)
  | [], acc, s => .ok acc s
  | d :: ds, acc, s => match a (.sh d) (wipeS s vs) with
    | none => .bad
    | some s1 => match t s1 with
      | .ok true s2 => (match m1 s2 with
        | .ok ds1 s3 => (match lcB vs1 a1 t1 e ds1 acc s3 with
          | .ok acc1 s4 => lcB2 vs a t m1 vs1 a1 t1 e ds acc1 s4
          | _ => .bad)
        | _ => .bad)
      | .ok false s2 => lcB2 vs a t m1 vs1 a1 t1 e ds acc s2
      | _ => .bad
def lcM2 (m : M (List D)) (vs : List Nat) (a : AS) (t : M Bool) (m1 : M (List D)) (vs1 : List Nat) (a1 : AS) (t1 : M Bool) (e : M D) : M L := fun s => match m s with
  | .ok ds s1 => (match lcB2 vs a t m1 vs1 a1 t1 e ds [] (wipeS s1 vs) with
    | .ok ys s2 => .ok (.ol ys) (restS s1 s2 vs)
    | _ => .bad)
  | .exc C fs s1 => .exc C fs s1
  | .bad => .bad
theorem wipe_sub {σ : L2.St} {vs vs1 : List Nat} (h : ∀ i ∈ vs1, i ∈ vs) : wipe (wipe σ vs1) vs = wipe σ vs := by
  apply List.ext_getElem?
  intro i
  by_cases hi : i ∈ vs
  · by_cases hl : i < σ.length
    · rw [wipe_in hi (by rw [wipe_length]; exact hl), wipe_in hi hl]
    · rw [List.getElem?_eq_none (by rw [wipe_length, wipe_length]; omega), List.getElem?_eq_none (by rw [wipe_length]; omega)]
  · rw [wipe_get hi, wipe_get hi, wipe_get fun z => hi (h i z)]
theorem lc2_read {m m1 : M (List D)} {vs ix vs1 : List Nat} {a a1 : AS} {t t1 : M Bool} {e : M D} (hix : ∀ i ∈ ix, i ∈ vs) (hv : ∀ i ∈ vs1, i ∈ vs) {σ : L2.St} {H : Hp} {Q : VK} (o : tO n W (lcM2 m vs a t m1 vs1 a1 t1 e) σ H Q) :
    tLc2 (tI n W m) (tG n ix a) (tT n WF t) (tI n WF m1) (tG n vs1 a1) (tT n WF t1) (tX n WF e) vs vs1 σ H Q := by
  obtain ⟨c, rfl, rfl, k, o⟩ := o
  refine ⟨c, rfl, rfl, k, ?_⟩
  unfold lcM2 at o
  cases q : m c.S with
  | bad => rw [q] at o; exact o
  | exc C fs S1 => rw [q] at o; exact o
  | ok ds S1 =>
    rw [q] at o
    dsimp only at o
    intro J c1 h1 h2 s1 k1 w1 D hD
    cases q1 : lcB2 vs a t m1 vs1 a1 t1 e ds [] (wipeS S1 vs) with
    | bad => rw [q1] at o; exact o.elim
    | exc C fs S2 => rw [q1] at o; exact o.elim
    | ok ys0 S2 =>
      rw [q1] at o
      dsimp only at o
      have kw := k1.wipe (n := n) vs
      obtain ⟨ka, sa, na, nf, no⟩ := kw.alloc (o := .lst []) (show (c1.wipe vs).H D = none from hD)
      have I0 : LcI n c1 vs D [] { c1.wipe vs with H := upd c1.H D (.lst []) } := ⟨ka, sa, wipe_wipe vs, ⟨[], upd_same, .nil⟩, nf, fun mm => by
        rcases mm with mm | mm
        · exact no mm
        · exact na mm⟩
      refine ⟨fun i m H => m = ds.length - i ∧ i ≤ ds.length ∧ ∃ (c2 : Cf) (acc : List Bv.D), c2.H = H ∧ LcI n c1 vs D acc c2 ∧ lcB2 vs a t m1 vs1 a1 t1 e (ds.drop i) acc c2.S = .ok ys0 S2, ⟨ds.length, by simp, Nat.zero_le _, _, _, rfl, I0, by rw [List.drop_zero, ← q1, ← h1]; rfl⟩, ?_⟩
      rintro i m H ⟨rfl, hi, c2, acc, rfl, I2, e2⟩
      have I2w : LcI n c1 vs D acc (c2.wipe vs) := I2.step (Stp.wiped vs) (I2.ok.wipe vs) ((wipe_wipe vs).trans I2.sg)
      have fw : ∀ {acc : List Bv.D} {c3 : Cf}, LcI n c1 vs D acc c3 → Fwd c1 c3 := fun I => ⟨I.st.F, I.st.φ⟩
      by_cases hlt : i < ds.length
      · refine .inr ⟨w1.go i c2 hlt I2.ok (fw I2), fun H' => ∃ (c4 : Cf) (acc' : List Bv.D), c4.H = H' ∧ LcI n c1 vs D acc' c4 ∧ lcB2 vs a t m1 vs1 a1 t1 e (ds.drop (i + 1)) acc' c4.S = .ok ys0 S2, fun H' hN => ⟨ds.length - (i + 1), by omega, rfl, hlt, hN⟩, fun x H' y => ?_⟩
        obtain ⟨c3, d, f1, f2, rfl, s3, k3, f4, f5⟩ := w1.yld i (c2.wipe vs) x H' hlt I2w.ok (fw I2w) y
        have hd : ds.drop i = d :: ds.drop (i + 1) := by
          rw [List.getElem?_eq_getElem hlt] at f4
          rw [List.drop_eq_getElem_cons hlt]
          rw [Option.some.inj f4]
        rw [hd] at e2
        unfold lcB2 at e2
        have f1 : c3.S = wipeS c2.S vs := f1
        have f2 : c3.σ = L2.wipe c2.σ vs := f2
        have I3 : LcI n c1 vs D acc c3 := I2w.step s3 k3 (by rw [f2, wipe_wipe, I2.sg])
        rw [← f1] at e2
        cases q3 : a (.sh d) c3.S with
        | none => rw [q3] at e2; cases e2
        | some S3 =>
          rw [q3] at e2
          dsimp only at e2
          have eσ : c3.σ = L2.wipe c.σ vs := by rw [f2, I2.sg, h2]
          refine ⟨c3, c3, .sh d, eσ, rfl, Stp.refl c3, k3, ⟨OIs.sh f5, fun z => by cases z⟩, S3, q3, fun c4 g1 s4 k4 g4 => ?_⟩
          have w4 : L2.wipe c4.σ vs = L2.wipe c3.σ vs := wipe_agr g4 hix
          have w4' : L2.wipe c4.σ vs = L2.wipe c.σ vs := by rw [w4, eσ, wipe_wipe]
          have I4 : LcI n c1 vs D acc c4 := I3.step s4 k4 (by rw [w4', h2])
          refine ⟨w4', c4, rfl, rfl, k4, ?_⟩
          rw [g1]
          cases q4 : t S3 with
          | bad => rw [q4] at e2; cases e2
          | exc C fs S4 => rw [q4] at e2; cases e2
          | ok b S4 =>
            rw [q4] at e2
            intro v c5 g5 g6 s5 k5 g7
            have g7 : v = b := g7
            subst g7
            have I5 : LcI n c1 vs D acc c5 := I4.step s5 k5 (by rw [g6, w4', h2])
            cases v with
            | false =>
              dsimp only at e2
              exact iteF ⟨c5, acc, rfl, I5, by rw [g5]; exact e2⟩
            | true =>
              dsimp only at e2
              refine iteT ⟨c5, g6, rfl, k5, ?_⟩
              rw [g5]
              cases q5 : m1 S4 with
              | bad => rw [q5] at e2; cases e2
              | exc C fs S5 => rw [q5] at e2; cases e2
              | ok ds1 S5 =>
                rw [q5] at e2
                dsimp only at e2
                intro J1 c6 j1 j2 s6 k6 w6
                have I6 : LcI n c1 vs D acc c6 := I5.step s6 k6 (by rw [j2, g6, w4', h2])
                cases q6 : lcB vs1 a1 t1 e ds1 acc S5 with
                | bad => rw [q6] at e2; cases e2
                | exc C fs S6 => rw [q6] at e2; cases e2
                | ok acc6 S6 =>
                  rw [q6] at e2
                  dsimp only at e2
                  have kp : ∀ {σ' : L2.St}, L2.wipe σ' vs1 = L2.wipe c4.σ vs1 → L2.wipe σ' vs = L2.wipe c1.σ vs := fun {σ'} z => by
                    rw [← wipe_sub (σ := σ') hv, z, wipe_sub hv, w4', h2]
                  refine ⟨fun j k H => k = ds1.length - j ∧ j ≤ ds1.length ∧ ∃ (c7 : Cf) (acc7 : List Bv.D), c7.H = H ∧ LcI n c1 vs D acc7 c7 ∧ L2.wipe c7.σ vs1 = L2.wipe c4.σ vs1 ∧ Fwd c6 c7 ∧ lcB vs1 a1 t1 e (ds1.drop j) acc7 c7.S = .ok acc6 S6, ⟨ds1.length, by simp, Nat.zero_le _, c6, acc, rfl, I6, by rw [j2, g6], Fwd.refl _, by rw [List.drop_zero, j1]; exact q6⟩, ?_⟩
                  rintro j m H ⟨rfl, hj, c7, acc7, rfl, I7, u7, fw7, e7⟩
                  have u7w : L2.wipe (L2.wipe c7.σ vs1) vs1 = L2.wipe c4.σ vs1 := by rw [wipe_wipe, u7]
                  have I7w : LcI n c1 vs D acc7 (c7.wipe vs1) := I7.step (Stp.wiped vs1) (I7.ok.wipe vs1) (kp u7w)
                  by_cases hlt1 : j < ds1.length
                  · refine .inr ⟨w6.go j c7 hlt1 I7.ok fw7, fun H' => ∃ (c9 : Cf) (acc9 : List Bv.D), c9.H = H' ∧ LcI n c1 vs D acc9 c9 ∧ L2.wipe c9.σ vs1 = L2.wipe c4.σ vs1 ∧ Fwd c6 c9 ∧ lcB vs1 a1 t1 e (ds1.drop (j + 1)) acc9 c9.S = .ok acc6 S6, fun H' hN => ⟨ds1.length - (j + 1), by omega, rfl, hlt1, hN⟩, fun x H' y => ?_⟩
                    obtain ⟨c8, d1, l1, l2, rfl, s8, k8, l4, l5⟩ := w6.yld j (c7.wipe vs1) x H' hlt1 I7w.ok (fw7.step (Stp.wiped vs1)) y
                    have hd1 : ds1.drop j = d1 :: ds1.drop (j + 1) := by
                      rw [List.getElem?_eq_getElem hlt1] at l4
                      rw [List.drop_eq_getElem_cons hlt1]
                      rw [Option.some.inj l4]
                    rw [hd1] at e7
                    unfold lcB at e7
                    have l1 : c8.S = wipeS c7.S vs1 := l1
                    have l2 : c8.σ = L2.wipe c7.σ vs1 := l2
                    have eσ8 : c8.σ = L2.wipe c4.σ vs1 := by rw [l2, u7]
                    have fw8 : Fwd c6 c8 := (fw7.step (Stp.wiped vs1)).step s8
                    have I8 : LcI n c1 vs D acc7 c8 := I7w.step s8 k8 (kp (by rw [eσ8, wipe_wipe]))
                    rw [← l1] at e7
                    cases q8 : a1 (.sh d1) c8.S with
                    | none => rw [q8] at e7; cases e7
                    | some S8 =>
                      rw [q8] at e7
                      dsimp only at e7
                      refine ⟨c8, c8, .sh d1, eσ8, rfl, Stp.refl c8, k8, ⟨OIs.sh l5, fun z => by cases z⟩, S8, q8, fun c9 p1 s9 k9 p4 => ?_⟩
                      have w9 : L2.wipe c9.σ vs1 = L2.wipe c4.σ vs1 := by rw [wipe_agr p4 (fun i h => h), eσ8, wipe_wipe]
                      have I9 : LcI n c1 vs D acc7 c9 := I8.step s9 k9 (kp w9)
                      refine ⟨w9, c9, rfl, rfl, k9, ?_⟩
                      rw [p1]
                      cases q9 : t1 S8 with
                      | bad => rw [q9] at e7; cases e7
                      | exc C fs S9 => rw [q9] at e7; cases e7
                      | ok b S9 =>
                        rw [q9] at e7
                        intro v c10 r5 r6 s10 k10 r7
                        have r7 : v = b := r7
                        subst r7
                        have w10 : L2.wipe c10.σ vs1 = L2.wipe c4.σ vs1 := by rw [r6, w9]
                        have I10 : LcI n c1 vs D acc7 c10 := I9.step s10 k10 (kp w10)
                        have fw10 : Fwd c6 c10 := (fw8.step s9).step s10
                        cases v with
                        | false =>
                          dsimp only at e7
                          exact iteF ⟨c10, acc7, rfl, I10, w10, fw10, by rw [r5]; exact e7⟩
                        | true =>
                          dsimp only at e7
                          refine iteT ⟨c10, r6, rfl, k10, ?_⟩
                          rw [r5]
                          cases q10 : e S9 with
                          | bad => rw [q10] at e7; cases e7
                          | exc C fs S10 => rw [q10] at e7; cases e7
                          | ok y10 S10 =>
                            rw [q10] at e7
                            dsimp only at e7
                            intro v c11 v1 v2 s11 k11 v3
                            have w11 : L2.wipe c11.σ vs1 = L2.wipe c4.σ vs1 := by rw [v2, w10]
                            have I11 : LcI n c1 vs D acc7 c11 := I10.step s11 k11 (kp w11)
                            obtain ⟨zs, z1, z2⟩ := I11.hd
                            split at e7
                            · rename_i hz
                              exact ⟨zs, z1, by rw [z2.length, lineN_eq]; exact hz, { c11 with H := upd c11.H D (.lst (zs ++ [v])) }, acc7 ++ [y10], rfl, I11.grow hD v3 z1, w11, ⟨(fw10.step s11).F, (fw10.step s11).φ⟩, by rw [← e7, ← v1]⟩
                            · cases e7
                  · have ej : j = ds1.length := by omega
                    subst ej
                    rw [List.drop_length] at e7
                    unfold lcB at e7
                    have ea : acc7 = acc6 := by injection e7
                    have es : c7.S = S6 := by injection e7
                    subst ea es
                    exact .inl ⟨w6.stop c7 I7.ok fw7, c7, acc7, rfl, I7, e2⟩
      · have e : i = ds.length := by omega
        subst e
        rw [List.drop_length] at e2
        unfold lcB2 at e2
        have ea : acc = ys0 := by injection e2
        have es : c2.S = S2 := by injection e2
        subst ea es
        obtain ⟨kr, sr, rr⟩ := I2.rest k1 hD
        refine .inl ⟨w1.stop c2 I2.ok (fw I2), ?_⟩
        have z := o.later trO s1 h2
        exact z (.ref D) { c2 with S := restS c1.S c2.S vs, σ := c1.σ } (by rw [h1]) rfl sr kr rr
section
variable {elt tg iter tg1 iter1 : Expr} {ifs ifs1 : List Expr} {scope : Scope} {own : List (Str × Nat)} {pos : Pos} {m m1 : M (List D)} {a a1 : AS} {ix ix1 : List Nat} {t t1 : M Bool} {e : M D}
theorem be_lc2 (hc : X.calm = true) (hN : X.N.Nodup) (hi : PI X tg iter (tI n W m)) (ok : BlkOk X.N X.env.scope scope own) (hix : ∀ i ∈ ix, i ∈ own.map (·.2)) (hv : ∀ i ∈ ix1, i ∈ own.map (·.2))
    (hg : ∀ (s : Shared) (H : Hp) (C : Addr) (cl : List (Str × Addr)) (fp : List Addr), PG (X.blk s H scope (compEnvC scope cl C X.env) fp) tg (tG n ix a))
    (ht : ∀ (s : Shared) (H : Hp) (C : Addr) (cl : List (Str × Addr)) (fp : List Addr), PTs (X.blk s H scope (compEnvC scope cl C X.env) fp) ifs (tT n WF t))
    (hi1 : ∀ (s : Shared) (H : Hp) (C : Addr) (cl : List (Str × Addr)) (fp : List Addr), PI (X.blk s H scope (compEnvC scope cl C X.env) fp) tg1 iter1 (tI n WF m1))
    (hg1 : ∀ (s : Shared) (H : Hp) (C : Addr) (cl : List (Str × Addr)) (fp : List Addr), PG (X.blk s H scope (compEnvC scope cl C X.env) fp) tg1 (tG n ix1 a1))
    (ht1 : ∀ (s : Shared) (H : Hp) (C : Addr) (cl : List (Str × Addr)) (fp : List Addr), PTs (X.blk s H scope (compEnvC scope cl C X.env) fp) ifs1 (tT n WF t1))
    (he : ∀ (s : Shared) (H : Hp) (C : Addr) (cl : List (Str × Addr)) (fp : List Addr), PE (X.blk s H scope (compEnvC scope cl C X.env) fp) elt (tX n WF e)) (hs : ∀ x, foldedSetIterable iter X.env x = pure x) (hs1 : ∀ env x, foldedSetIterable iter1 env x = pure x) :
    PE X (.ListComp elt [⟨tg, iter, ifs, 0⟩, ⟨tg1, iter1, ifs1, 0⟩] scope pos) (tO n W (lcM2 m (own.map (·.2)) a t m1 ix1 a1 t1 e)) := (pe_lc2 hc hN hi ok hv hg ht hi1 hg1 ht1 he hs hs1).imp fun _ _ _ o => lc2_read hix hv o
end
end Bv

/-! dict comprehensions whose keys may be tuples -/
namespace Bv
open PySem PySem.Spec PyProof.Rows L2
variable {n : Nm} {W : WX} {X : Cx}
theorem d_dictSet2 {pins : List (Addr × Obj)} {σ : L2.St} {H H' : Hp} {s : Shared} {E : Value → Shared → Prop} {a : Addr} {y v : V} {u r : Value} {Q : Unit → Shared → Prop} (hu : X.A.units + 1 < cLine) (I : L2.Inv X pins σ H s) (g : DPut2 H a y v H') (ry : RelV y u) (rv : RelV v r)
    (h : ∀ s', L2.Inv X pins σ H' s' → Q () s') : wpAny (model X.prog X.w) X.A (dictSet a u r) Q E s := by
  have tup : ∀ (H : Hp) (s : Shared), L2.Inv X pins σ H s → ∀ (kvs : List (List Key × V)) (k : List Key) (b : Addr), H a = some (.dT kvs) → y = .ref b → H b = some (.tup (k.map kV)) → kvs.length < sizeLine → (∀ s', L2.Inv X pins σ (upd H a (.dT (putK kvs k v))) s' → Q () s') → wpAny (model X.prog X.w) X.A (dictSet a u r) Q E s := by
    intro H s I kvs k b e ey eb l h
    subst ey
    obtain rfl : u = Value.ref b := ry
    obtain ⟨z, hd, xs, rel, dd⟩ := dt_of I.hok e
    have hz : xs.length ≤ sizeLine := by rw [← rel.length]; exact z
    refine wpAny_dictSet_heap (knd := tupleKind (mixKind X.prog X.w)) (show X.A.units < cLine by omega) (key_of I.hok eb) dd (fun h' dd' hs => h _ ?_) hz
    obtain ⟨q, es, ep, hq, h2, h3, h4, h5⟩ := dd'
    have hl := length_putK kvs k v
    refine d_write I (by rw [e]; exact True.intro) hs ⟨_, hq⟩ ⟨by omega, hd, _, (KT.put rel k eb rv).keeps fun c ys ec => ?_, q, es, ep, hq, h2, h3, h4, h5.2⟩
    rw [upd_ne (ne_of ec e fun z => by cases z)]
    exact ec
  rcases g with (⟨kvs, k, e, ey, l, eH⟩ | ⟨kvs, k, b, e, ey, eb, l, eH⟩) | ⟨k, b, e1, ey, e2, e3⟩
  · subst ey eH
    exact d_dictSet I e l ry rv h
  · subst eH
    exact tup H s I kvs k b e ey eb l h
  · subst e3
    have hb : b ≠ a := fun z => by subst z; rw [e1] at e2; cases e2
    refine tup (upd H a (.dT [])) s (toT I e1) [] k b upd_same ey ((upd_ne hb).trans e2) (by rw [sizeLine_eq]; simp) fun s' I' => h s' ?_
    rw [upd_upd] at I'
    exact I'
def tDcP (wi : TI) (g : TG) (tt : TT) (tk tv : TE) (vs : List Nat) : TE := fun σ H Q =>
  wi σ H fun J H1 => ∀ D, H1 D = none → ∃ W : Nat → Nat → Hp → Prop, (∃ m, W 0 m (upd H1 D (.dK []))) ∧ ∀ i m H, W i m H → (J.stop i H ∧ Q (.ref D) H) ∨ (J.go i H ∧ ∃ Nx : Hp → Prop, (∀ H', Nx H' → ∃ m', m' < m ∧ W (i + 1) m' H') ∧
    ∀ x H', J.yld i H x H' → g x (wipe σ vs) H' fun σ2 H2 => wipe σ2 vs = wipe σ vs ∧ tt σ2 H2 fun b H3 => if b = true then tk σ2 H3 fun y H4 => tv σ2 H4 fun z H5 => ∃ H6, DPut2 H5 D y z H6 ∧ Nx H6 else Nx H3)
theorem dc_core2 {pins : List (Addr × Obj)} {s : Shared} {σ : L2.St} {H : Hp} {Q : VK} {kx vx tg iter : Expr} {ifs : List Expr} {scope : Scope} {own : List (Str × Nat)} {pos pos' : Pos} {wi : TI} {g : TG} {tt : TT} {tk tv : TE} {use : Option (Value → Sem Unit)} {Qf : Value → Shared → Prop}
    (hu : X.A.units + 1 < cLine) (hc : X.calm = true) (hN : X.N.Nodup) (I : L2.Inv X pins σ H s) (hi : PI X tg iter wi) (ok : BlkOk X.N X.env.scope scope own)
    (hg : ∀ (s : Shared) (H : Hp) (C : Addr) (cl : List (Str × Addr)) (fp : List Addr), PG (X.blk s H scope (compEnvC scope cl C X.env) fp) tg g)
    (ht : ∀ (s : Shared) (H : Hp) (C : Addr) (cl : List (Str × Addr)) (fp : List Addr), PTs (X.blk s H scope (compEnvC scope cl C X.env) fp) ifs tt)
    (hk : ∀ (s : Shared) (H : Hp) (C : Addr) (cl : List (Str × Addr)) (fp : List Addr), PE (X.blk s H scope (compEnvC scope cl C X.env) fp) kx tk)
    (he : ∀ (s : Shared) (H : Hp) (C : Addr) (cl : List (Str × Addr)) (fp : List Addr), PE (X.blk s H scope (compEnvC scope cl C X.env) fp) vx tv) (hs : ∀ x, foldedSetIterable iter X.env x = pure x)
    (h : tDcP wi g tt tk tv (own.map (·.2)) σ H Q)
    (hRR : ∀ (D C : Addr) (s' : Shared) (m : Str → Option Value) (H' : Hp), L2.Inv X pins σ H' s' → Q (V.ref D) H' → s'.heap.Ns C m → FpOk X pins H' C → compPost (model X.prog X.w) X.A X.xe use Qf (Value.ref D) C (.ok .next) s') :
    wpAny (model X.prog X.w) X.A (comprehension (.DictComp kx vx [⟨tg, iter, ifs, 0⟩] scope pos) scope X.env pos' newDict false (eval iter X.env) use) Qf X.xe s := by
  have hfree : ∀ y ∈ scope.names, y.2 = .free → ∃ c, List.lookup y.1 X.env.cells = some c := fun y hy e => (ok.free y hy e).elim (fun k => I.ok.has y.1 (.inl k)) fun k => I.ok.has y.1 (.inr k)
  refine wpAny_comprehension_free rfl hs (closure_ok hfree) ok.kind (fun y hy e => by rw [ok.uniq y hy, e]) ?_
  refine thn (hi.run pins s σ H _ I h) fun xv s1 hx => thn hx fun itv s2 h2 => ?_
  obtain ⟨it, fp, tn, J, H2, e, I2, T, st2, f2, q⟩ := h2
  subst e
  refine wpAny_newObj_type (newEnv_comp ?_) (by unfold sizeOk; rw [sizeLine_eq]; simp)
  have hDn : H2 s2.heap.objs.size = none := HOk.fresh I2.hok (Nat.le_refl _)
  obtain ⟨Wk, ⟨m0, w0⟩, turn⟩ := q _ hDn
  have I3 := I2.laid (t' := s2.toks) (fun b o e => Heap.get?_push_of_some _ e) (Nat.le_refl _) (dk_empty (P := X.prog) (w := X.w) (H := upd H2 s2.heap.objs.size (.dK [])) s2.heap I2.big)
  generalize hs3 : (⟨s2.heap.push { cls := Value.type "dict", data := Data.dict #[] }, s2.gens, s2.drawn, s2.toks, s2.os⟩ : Shared) = s3 at I3
  generalize hH3 : upd H2 s2.heap.objs.size (.dK []) = H3 at I3 w0
  have h3 : s3.heap = s2.heap.push { cls := Value.type "dict", data := Data.dict #[] } := by rw [← hs3]
  have f3 : ∀ b ∈ fp, FpOk X pins H3 b ∧ b < s3.heap.objs.size := fun b hb => by
    obtain ⟨o, e, _⟩ := T.obj 0 s2.heap st2 b hb
    have hlt := Heap.lt_size e
    refine ⟨⟨?_, (f2 b hb).2⟩, ?_⟩
    · rw [← hH3, upd_ne (Nat.ne_of_lt hlt)]; exact (f2 b hb).1
    · rw [h3, Heap.size_push]; exact Nat.lt_succ_of_lt hlt
  have st3 : tn 0 s3.heap := T.keep 0 _ _ st2 fun b _ o e => by rw [h3]; exact Heap.get?_push_of_some _ e
  have I4 := block_start I3 ok hN f3
  have pg := hg s3 H3 s3.heap.objs.size (cellsFrom (s3.heap.objs.size + 1) scope.names (cloFrom X.env.cells scope.names [])) fp
  have pt := ht s3 H3 s3.heap.objs.size (cellsFrom (s3.heap.objs.size + 1) scope.names (cloFrom X.env.cells scope.names [])) fp
  have pk := hk s3 H3 s3.heap.objs.size (cellsFrom (s3.heap.objs.size + 1) scope.names (cloFrom X.env.cells scope.names [])) fp
  have pe := he s3 H3 s3.heap.objs.size (cellsFrom (s3.heap.objs.size + 1) scope.names (cloFrom X.env.cells scope.names [])) fp
  generalize hC : s3.heap.objs.size = C at I4 pg pt pk pe ⊢
  show codeAny (model X.prog X.w) X.A (Code.compStart _ 0 (Value.ref it) (Value.ref s2.heap.objs.size) (compEnvC scope (cellsFrom (C + 1) scope.names (cloFrom X.env.cells scope.names [])) C X.env)) (compPost (model X.prog X.w) X.A X.xe use Qf (Value.ref s2.heap.objs.size) C) _
  have hcl : (compEnvC scope (cellsFrom (C + 1) scope.names (cloFrom X.env.cells scope.names [])) C X.env).locals = C := rfl
  generalize hce : compEnvC scope (cellsFrom (C + 1) scope.names (cloFrom X.env.cells scope.names [])) C X.env = ce at I4 pg pt pk pe hcl ⊢
  have nfp : ∀ b ∈ fp, H3 b = none := fun b hb => (f3 b hb).1.1
  have st4 : tn 0 (pushCells (s3.heap.push { cls := Value.type "dict", data := Data.dict #[] }) scope.names) := T.keep 0 _ _ st3 fun b _ o e => pushCells_keeps _ _ _ _ (Heap.get?_push_of_some _ e)
  have stat : ∀ (σ' : L2.St) (H' : Hp) (s' : Shared), L2.Inv (X.blk s3 H3 scope ce fp) [] σ' H' s' → (∀ b ∈ fp, H' b = none) → ∀ b ∈ fp, FpOk (X.blk s3 H3 scope ce fp) [] H' b := fun σ' H' s' I' hn b hb => ⟨hn b hb, (I'.ok.exf b hb).1, I'.ok.exfs b hb, .inl hb, fun x c e => (I'.ok.exf b hb).2 x c e, fun p hp => by cases hp⟩
  have loop : codeAny (model X.prog X.w) X.A (Code.compLoop (.DictComp kx vx [⟨tg, iter, ifs, 0⟩] scope pos) 0 (Value.ref it) (Value.ref s2.heap.objs.size) ce) (compPost (model X.prog X.w) X.A X.xe use Qf (Value.ref s2.heap.objs.size) C) ⟨pushCells (s3.heap.push { cls := Value.type "dict", data := Data.dict #[] }) scope.names, s3.gens, s3.drawn, s3.toks, s3.os⟩ := by
    refine compLoop_anyD (fun n s5 => ∃ (i : Nat) (H5 : Hp), L2.Inv (X.blk s3 H3 scope ce fp) [] (wipe σ (own.map (·.2))) H5 s5 ∧ tn i s5.heap ∧ (∀ b ∈ fp, H5 b = none) ∧ Wk i n H5) (fun n s5 hI5 => ?_) m0 ⟨0, H3, I4, st4, nfp, w0⟩
    obtain ⟨i, H5, I5, st5, n5, w5⟩ := hI5
    rcases turn i n H5 w5 with ⟨stop, qq⟩ | ⟨go, Nx, hNx, step⟩
    · have td := T.done (X.blk s3 H3 scope ce fp) rfl rfl rfl hc i [] s5 _ H5 (fun _ _ => False) I5 (stat _ _ _ I5 n5) st5 stop
      refine thnF td fun r s6 hx6 => ?_
      obtain ⟨hr, I6⟩ := hx6
      subst hr
      have I7 : L2.Inv X pins σ H5 s6 := I3.call' I6.os I6.base I6.hok I6.bare fun b hb => ⟨(f3 b hb).1.2.2.2.1, (f3 b hb).1.2.1, (f3 b hb).1.2.2.2.2.1, (f3 b hb).1.2.2.2.2.2⟩
      have nC : H5 C = none := by
        have z : H5 ce.locals = none := I6.free
        rw [hcl] at z; exact z
      obtain ⟨m, hn, _⟩ := I6.loc
      have hn : s6.heap.Ns ce.locals m := hn
      rw [hcl] at hn
      exact hRR _ C s6 m H5 I7 qq hn (I3.fpOk (by rw [hC]; exact Nat.le_refl _) nC)
    · have ti := T.item (X.blk s3 H3 scope ce fp) rfl rfl rfl hc i [] s5 _ H5 (fun _ _ => False) I5 (stat _ _ _ I5 n5) st5 go
      refine thnF ti fun r s6 hx6 => ?_
      obtain ⟨u, hr, h6⟩ := hx6
      subst hr
      refine thnF h6 fun _ s7 hx7 => ?_
      obtain ⟨x, H7, I7, r7, y7, st7, n7⟩ := hx7
      have I7' := I7.pinned (stat _ _ _ I7 n7) (T.obj _ _ st7)
      refine thnF (pg.run _ s7 _ H7 x u _ I7' r7 (step x H7 y7)) fun _ s8 hx8 => ?_
      obtain ⟨σ8, H8, I8, hw8, q8⟩ := hx8
      refine thnF (pt.run _ s8 σ8 H8 _ I8 q8) fun b s9 hx9 => ?_
      obtain ⟨H9, I9, q9⟩ := hx9
      have fin : ∀ (s' : Shared) (H' : Hp), L2.Inv (X.blk s3 H3 scope ce fp) ([] ++ pinsAt fp s7.heap) σ8 H' s' → Nx H' → ∃ m, m < n ∧ ∃ (i : Nat) (H5 : Hp), L2.Inv (X.blk s3 H3 scope ce fp) [] (wipe σ (own.map (·.2))) H5 s' ∧ tn i s'.heap ∧ (∀ b ∈ fp, H5 b = none) ∧ Wk i m H5 := fun s' H' I' nx => by
        obtain ⟨m', hm, w'⟩ := hNx H' nx
        have pin' : ∀ b ∈ fp, ∀ o, s7.heap.get? b = some o → s'.heap.get? b = some o ∧ H' b = none := fun b hb o e => by
          have z := I'.pin (b, o) (List.mem_append_right _ (List.mem_append_right _ (mem_pinsAt hb e)))
          exact ⟨z.1, z.2.1⟩
        have hl : (wipe σ (own.map (·.2))).length = σ8.length := by rw [← hw8, wipe_length]
        exact ⟨m', hm, i + 1, H', (I'.unpinned).weak hl (fun j v e => by rw [← hw8] at e; exact (wipe_some e).1), T.keep _ _ _ st7 (fun b hb o e => (pin' b hb o e).1), (fun b hb => by
          obtain ⟨o, e, _⟩ := T.obj _ _ st7 b hb
          exact (pin' b hb o e).2), w'⟩
      cases b with
      | false =>
        rw [if_neg (by simp)] at q9
        rw [if_neg (by simp)]
        exact fin _ _ I9 q9
      | true =>
        rw [if_pos rfl] at q9
        rw [if_pos rfl]
        refine thnF (pk.run _ s9 _ _ _ I9 q9) fun z s10 hx10 => ?_
        obtain ⟨yk, H10, I10, r10, q10⟩ := hx10
        refine thnF (pe.run _ s10 _ _ _ I10 q10) fun z2 s11 hx11 => ?_
        obtain ⟨yv, H11, I11, r11, H12, g, nx⟩ := hx11
        exact d_dictSet2 (X := X.blk s3 H3 scope ce fp) hu I11 g r10 r11 fun s12 I12 => fin _ _ I12 nx
  subst hs3
  exact codeAny_compStart_dict loop (T.self X.A 0 _ _ _ st4 loop)
end Bv

/-! dict comprehensions by value, keys of all kinds -/
namespace Bv
open PySem PySem.Spec PyProof.Rows L2
variable {n : Nm} {W : WX} {X : Cx}
def dcB2 (vs : List Nat) (a : AS) (t : M Bool) (kx e : M D) : List D → List (D × D) → S → Res (List (D × D))
  | [], acc, s => .ok acc s
  | d :: ds, acc, s => match a (.sh d) (wipeS s vs) with
    | none => .bad
    | some s1 => match t s1 with
      | .ok true s2 => (match kx s2 with
        | .ok kd s3 => (match e s3 with
          | .ok y s4 => (match putO acc kd y with
            | some acc1 => dcB2 vs a t kx e ds acc1 s4
            | none => .bad)
          | _ => .bad)
        | _ => .bad)
      | .ok false s2 => dcB2 vs a t kx e ds acc s2
      | _ => .bad
def dcM2 (m : M (List D)) (vs : List Nat) (a : AS) (t : M Bool) (kx e : M D) : M L := fun s => match m s with
  | .ok ds s1 => (match dcB2 vs a t kx e ds [] (wipeS s1 vs) with
    | .ok ys s2 => .ok (.od ys) (restS s1 s2 vs)
    | _ => .bad)
  | .exc C fs s1 => .exc C fs s1
  | .bad => .bad
/-- a turn's configuration: the list so far at d -/
structure DcJ (n : Nm) (c1 : Cf) (vs : List Nat) (d : Addr) (acc : List (D × D)) (c : Cf) : Prop where
  ok : Ok n c
  st : Stp (c1.wipe vs) c
  sg : L2.wipe c.σ vs = L2.wipe c1.σ vs
  hd : (∃ ys, c.H d = some (.dK ys) ∧ IsK n c.F c.φ ys acc) ∨ ∃ ys, c.H d = some (.dT ys) ∧ IsKT n c.F c.φ ys acc
  nf : c.F d = none
  nm : ¬ Mut c d
theorem DcJ.step {c1 c c' : Cf} {vs : List Nat} {d : Addr} {acc : List (D × D)} (h : DcJ n c1 vs d acc c) (s : Stp c c') (k : Ok n c') (e : L2.wipe c'.σ vs = L2.wipe c1.σ vs) : DcJ n c1 vs d acc c' := by
  have fin : ∀ o, c.H d = some o → (∀ xs, o ≠ .tup xs) → c'.H d = some o → ((∃ ys, c'.H d = some (.dK ys) ∧ IsK n c'.F c'.φ ys acc) ∨ ∃ ys, c'.H d = some (.dT ys) ∧ IsKT n c'.F c'.φ ys acc) → DcJ n c1 vs d acc c' := fun o h1 hl hs hd => by
    refine ⟨k, h.st.trans s, e, hd, ?_, fun m => ?_⟩
    · cases q : c'.F d with
      | none => rfl
      | some u =>
        rcases s.new d (by rw [q]; simp) with z | z | z | ⟨xs, z⟩
        · exact absurd h.nf z
        · rw [h1] at z; cases z
        · exact absurd z h.nm
        · rw [hs] at z; exact absurd (Option.some.inj z) (hl xs)
    · rcases s.mono d m with z | z
      · exact h.nm z
      · rw [h1] at z; cases z
  rcases h.hd with ⟨ys, h1, h2⟩ | ⟨ys, h1, h2⟩
  · have hs := s.H d _ h1 h.nm (fun _ z => by cases z)
    exact fin _ h1 (fun _ z => by cases z) hs (.inl ⟨ys, hs, s.isK h2⟩)
  · have hs := s.H d _ h1 h.nm (fun _ z => by cases z)
    exact fin _ h1 (fun _ z => by cases z) hs (.inr ⟨ys, hs, s.isKT h2⟩)
/-- the list grows -/
theorem DcJ.grow {c1 c : Cf} {vs : List Nat} {d : Addr} {acc acc2 : List (D × D)} {o2 : HO} (h : DcJ n c1 vs d acc c) (hd0 : c1.H d = none)
    (hn : (∃ ys, upd c.H d o2 d = some (.dK ys) ∧ IsK n c.F c.φ ys acc2) ∨ ∃ ys, upd c.H d o2 d = some (.dT ys) ∧ IsKT n c.F c.φ ys acc2) : DcJ n c1 vs d acc2 { c with H := upd c.H d o2 } := by
  obtain ⟨o1, hh, h2⟩ : ∃ o, c.H d = some o ∧ ((∃ ys, o = .dK ys) ∨ ∃ ys, o = .dT ys) := by
    rcases h.hd with ⟨ys, h1, _⟩ | ⟨ys, h1, _⟩
    · exact ⟨_, h1, .inl ⟨ys, rfl⟩⟩
    · exact ⟨_, h1, .inr ⟨ys, rfl⟩⟩
  have hl : ∀ xs, o1 ≠ .tup xs := fun xs z => by
    rcases h2 with ⟨ys, rfl⟩ | ⟨ys, rfl⟩ <;> cases z
  have ne : ∀ {b : Addr}, b ≠ d → upd c.H d o2 b = c.H b := fun hb => upd_ne hb
  have hi : ∀ C dx us, o1 ≠ .ins C dx us := fun C dx us z => by
    rcases h2 with ⟨ys, rfl⟩ | ⟨ys, rfl⟩ <;> cases z
  have keep : ∀ {b : Addr} {o : HO}, o ≠ o1 ∨ b ≠ d → c.H b = some o → upd c.H d o2 b = some o := fun {b o} hb e => by
    by_cases z : b = d
    · subst z
      rcases hb with hb | hb
      · rw [hh] at e; exact absurd (Option.some.inj e).symm hb
      · exact absurd rfl hb
    · rw [ne z]; exact e
  refine ⟨⟨h.ok.len, fun b u e => ?_, fun j x e => ?_, h.ok.dist, h.ok.nd, h.ok.slen, fun j o a e1 e2 => ?_, h.ok.fφ⟩, ⟨h.st.F, fun b o e m t => ?_, fun b hb => (h.st.new b hb).imp_right fun z => z.imp_right fun z => z.imp_right fun ⟨xs, z⟩ => ⟨xs, keep (.inl fun q => hl _ q.symm) z⟩, h.st.mono, fun b e => ?_, h.st.φ, h.st.an⟩, h.sg, hn, h.nf, h.nm⟩
  · have hb : b ≠ d := fun z => by
      subst z
      have := h.nf
      rw [e] at this; cases this
    show upd c.H d o2 b = some u
    rw [ne hb]; exact h.ok.sub _ _ e
  · obtain ⟨v, h3, h4⟩ := h.ok.sl j x e
    refine ⟨v, h3, ?_⟩
    have hv : x.own = true → ∀ a, v = .ref a → a ≠ d := fun o a ea z => by
      subst z ea
      exact h.nm (.inl ⟨j, x, e, o, h3⟩)
    cases x with
    | sh w => exact h4
    | ol ds => obtain ⟨a, us, ea, h5, h6, h7, h8⟩ := h4; exact ⟨a, us, ea, keep (.inr (hv rfl a ea)) h5, h6, h7, h8⟩
    | od kvs =>
      obtain ⟨a, ea, h6, h7, ⟨us, h5, h8⟩ | ⟨us, h5, h8⟩⟩ := h4
      · exact ⟨a, ea, h6, h7, .inl ⟨us, keep (.inr (hv rfl a ea)) h5, h8⟩⟩
      · exact ⟨a, ea, h6, h7, .inr ⟨us, keep (.inr (hv rfl a ea)) h5, h8⟩⟩
    | oi b C fs => obtain ⟨a, C, dx, us, ea, hb, hC, h5, h6, h7, h8⟩ := h4; exact ⟨a, C, dx, us, ea, hb, hC, keep (.inr (hv rfl a ea)) h5, h6, h7, h8⟩
  · have z := h.ok.st j o a e1 e2
    cases o with
    | dic p => obtain ⟨lc, h3, h4⟩ := z; exact ⟨lc, keep (.inr fun z' => h.nm (.inr (z' ▸ List.mem_of_getElem? e2))) h3, h4⟩
    | inst C fs => obtain ⟨C, dx, us, h3, h4, h5⟩ := z; exact ⟨C, dx, us, h3, keep (.inl fun q => hi _ _ _ q.symm) h4, h5⟩
  · have hb : b ≠ d := fun z => by
      subst z
      have e : c1.H b = some o := e
      rw [hd0] at e; cases e
    show upd c.H d o2 b = some o
    rw [ne hb]; exact h.st.H b o e m t
  · exact h.st.there b (upd_none' e).2
/-- behind the block -/
theorem DcJ.rest {c1 c : Cf} {vs : List Nat} {d : Addr} {acc : List (D × D)} (h : DcJ n c1 vs d acc c) (k1 : Ok n c1) (hd0 : c1.H d = none) : let c2 : Cf := { c with S := restS c1.S c.S vs, σ := c1.σ }; Ok n c2 ∧ Stp c1 c2 ∧ RV n c1 c2 (.ref d) (.od acc) := by
  have σ_eq : ∀ (i : Nat), i ∉ vs → c.σ[i]? = c1.σ[i]? := fun i hi => by rw [← wipe_get (σ := c.σ) hi, h.sg, wipe_get hi]
  have lens : c.σ.length = c1.σ.length := by
    have z := congrArg List.length h.sg
    rw [wipe_length, wipe_length] at z
    exact z
  -- a hidden own object
  have hid : ∀ (i : Nat) (x : L), i ∈ vs → c1.S.sl[i]? = some (some x) → x.own = true → ∀ a : Addr, c1.σ[i]? = some (some (V.ref a)) → ¬ Mut (c1.wipe vs) a ∧ a ∉ c.φ ∧ ¬ Mut c a := fun i x hi e o a ea => by
    obtain ⟨v, e1, e2⟩ := k1.sl i x e
    rw [ea] at e1; cases e1
    obtain ⟨_, ee, hf, hφ, u, hu, _⟩ := e2.at o
    cases ee
    have m1 : ¬ Mut (c1.wipe vs) a := fun m => by
      rcases m with m | m
      · obtain ⟨j, y, hj, f1, f2, f3⟩ := own_wipe m
        exact k1.dist i j x y a (fun z => hj (z ▸ hi)) e f1 o f2 ea f3
      · exact hφ m
    have m2 : ¬ Mut c a := fun m => by
      rcases h.st.mono a m with z | z
      · exact m1 z
      · have z : c1.H a = none := z
        rw [hu] at z; cases z
    exact ⟨m1, fun m => m2 (.inr m), m2⟩
  have mutS : ∀ b, Mut { c with S := restS c1.S c.S vs, σ := c1.σ } b → Mut c1 b ∨ c1.H b = none := fun b m => by
    rcases m with ⟨i, x, e, o, s⟩ | m
    · have s : c1.σ[i]? = some (some (V.ref b)) := s
      rcases restS_get e with ⟨hi, e⟩ | ⟨hi, e⟩
      · exact .inl (.inl ⟨i, x, e, o, s⟩)
      · rcases h.st.mono b (.inl ⟨i, x, e, o, (σ_eq i hi).trans s⟩) with z | z
        · exact .inl (mut_wipe z)
        · exact .inr z
    · rcases h.st.mono b (.inr m) with z | z
      · exact .inl (mut_wipe z)
      · exact .inr z
  refine ⟨⟨?_, h.ok.sub, fun i x e => ?_, fun i j x y a hij e1 e2 o1 o2 s1 s2 => ?_, h.ok.nd, h.ok.slen, fun j o a e1 e2 => ?_, h.ok.fφ⟩, ⟨h.st.F, fun b o e m t => h.st.H b o e (fun z => m (mut_wipe z)) t, fun b e => ?_, mutS, h.st.there, h.st.φ, h.st.an⟩, ⟨⟨d, rfl, h.nf, fun m => h.nm (.inr m), h.hd⟩, fun _ a ea => ?_⟩⟩
  · show (restS c1.S c.S vs).sl.length = c1.σ.length
    rw [restS_len, h.ok.len, lens]
  · rcases restS_get e with ⟨hi, e⟩ | ⟨hi, e⟩
    · obtain ⟨v, e1, e2⟩ := k1.sl i x e
      refine ⟨v, e1, ?_⟩
      have e3 : OIs n (c1.wipe vs) v x := by cases x <;> exact e2
      have e4 := e3.step h.st fun o a ea => by
        subst ea
        obtain ⟨m1, m2, _⟩ := hid i x hi e o a e1
        exact ⟨m1, m2⟩
      cases x <;> exact e4
    · obtain ⟨v, e1, e2⟩ := h.ok.sl i x e
      exact ⟨v, (σ_eq i hi).symm.trans e1, by cases x <;> exact e2⟩
  · have s1 : c1.σ[i]? = some (some (V.ref a)) := s1
    have s2 : c1.σ[j]? = some (some (V.ref a)) := s2
    rcases restS_get e1 with ⟨hi, e1⟩ | ⟨hi, e1⟩
    · rcases restS_get e2 with ⟨hj, e2⟩ | ⟨hj, e2⟩
      · exact k1.dist i j x y a hij e1 e2 o1 o2 s1 s2
      · exact (hid i x hi e1 o1 a s1).2.2 (.inl ⟨j, y, e2, o2, (σ_eq j hj).trans s2⟩)
    · rcases restS_get e2 with ⟨hj, e2⟩ | ⟨hj, e2⟩
      · exact (hid j y hj e2 o2 a s2).2.2 (.inl ⟨i, x, e1, o1, (σ_eq i hi).trans s1⟩)
      · exact h.ok.dist i j x y a hij e1 e2 o1 o2 ((σ_eq i hi).trans s1) ((σ_eq j hj).trans s2)
  · have e1 : c.S.st[j]? = some o := e1
    have z := h.ok.st j o a e1 e2
    cases o <;> exact z
  · rcases h.st.new b e with z | z | z | z
    · exact .inl z
    · exact .inr (.inl z)
    · exact .inr (.inr (.inl (mut_wipe z)))
    · exact .inr (.inr (.inr z))
  · cases ea
    refine ⟨fun ⟨i, x, e, o, s⟩ => ?_, .inl hd0⟩
    have s : c1.σ[i]? = some (some (V.ref d)) := s
    rcases restS_get e with ⟨hi, e⟩ | ⟨hi, e⟩
    · obtain ⟨v, e1, e2⟩ := k1.sl i x e
      rw [s] at e1; cases e1
      obtain ⟨_, ee, _, _, u, hu, _⟩ := e2.at o
      cases ee
      rw [hd0] at hu; cases hu
    · exact h.nm (.inl ⟨i, x, e, o, (σ_eq i hi).trans s⟩)
/-- the reading of a comprehension -/
theorem dc_read2 {m : M (List D)} {vs ix : List Nat} {a : AS} {t : M Bool} {kx e : M D} (hix : ∀ i ∈ ix, i ∈ vs) {σ : L2.St} {H : Hp} {Q : VK} (o : tO n W (dcM2 m vs a t kx e) σ H Q) : tDcP (tI n W m) (tG n ix a) (tT n WF t) (tX n WF kx) (tX n WF e) vs σ H Q := by
  obtain ⟨c, rfl, rfl, k, o⟩ := o
  refine ⟨c, rfl, rfl, k, ?_⟩
  unfold dcM2 at o
  cases q : m c.S with
  | bad => rw [q] at o; exact o
  | exc C fs S1 => rw [q] at o; exact o
  | ok ds S1 =>
    rw [q] at o
    dsimp only at o
    intro J c1 h1 h2 s1 k1 w1 D hD
    cases q1 : dcB2 vs a t kx e ds [] (wipeS S1 vs) with
    | bad => rw [q1] at o; exact o.elim
    | exc C fs S2 => rw [q1] at o; exact o.elim
    | ok ys0 S2 =>
      rw [q1] at o
      dsimp only at o
      -- the first configuration
      have kw := k1.wipe (n := n) vs
      obtain ⟨ka, sa, na, nf, no⟩ := kw.alloc (o := .dK []) (show (c1.wipe vs).H D = none from hD)
      have I0 : DcJ n c1 vs D [] { c1.wipe vs with H := upd c1.H D (.dK []) } := ⟨ka, sa, wipe_wipe vs, .inl ⟨[], upd_same, .nil⟩, nf, fun mm => by
        rcases mm with mm | mm
        · exact no mm
        · exact na mm⟩
      refine ⟨fun i m H => m = ds.length - i ∧ i ≤ ds.length ∧ ∃ (c2 : Cf) (acc : List (Bv.D × Bv.D)), c2.H = H ∧ DcJ n c1 vs D acc c2 ∧ dcB2 vs a t kx e (ds.drop i) acc c2.S = .ok ys0 S2, ⟨ds.length, by simp, Nat.zero_le _, _, _, rfl, I0, by rw [List.drop_zero, ← q1, ← h1]; rfl⟩, ?_⟩
      rintro i m H ⟨rfl, hi, c2, acc, rfl, I2, e2⟩
      have I2w : DcJ n c1 vs D acc (c2.wipe vs) := I2.step (Stp.wiped vs) (I2.ok.wipe vs) ((wipe_wipe vs).trans I2.sg)
      have fw : ∀ {c3 : Cf}, DcJ n c1 vs D acc c3 → Fwd c1 c3 := fun I => ⟨I.st.F, I.st.φ⟩
      by_cases hlt : i < ds.length
      · refine .inr ⟨w1.go i c2 hlt I2.ok (fw I2), fun H' => ∃ (c4 : Cf) (acc' : List (Bv.D × Bv.D)), c4.H = H' ∧ DcJ n c1 vs D acc' c4 ∧ dcB2 vs a t kx e (ds.drop (i + 1)) acc' c4.S = .ok ys0 S2, fun H' hN => ⟨ds.length - (i + 1), by omega, rfl, hlt, hN⟩, fun x H' y => ?_⟩
        obtain ⟨c3, d, f1, f2, rfl, s3, k3, f4, f5⟩ := w1.yld i (c2.wipe vs) x H' hlt I2w.ok (fw I2w) y
        have hd : ds.drop i = d :: ds.drop (i + 1) := by
          rw [List.getElem?_eq_getElem hlt] at f4
          rw [List.drop_eq_getElem_cons hlt]
          rw [Option.some.inj f4]
        rw [hd] at e2
        unfold dcB2 at e2
        have f1 : c3.S = wipeS c2.S vs := f1
        have f2 : c3.σ = L2.wipe c2.σ vs := f2
        have I3 : DcJ n c1 vs D acc c3 := I2w.step s3 k3 (by rw [f2, wipe_wipe, I2.sg])
        rw [← f1] at e2
        cases q3 : a (.sh d) c3.S with
        | none => rw [q3] at e2; cases e2
        | some S3 =>
          rw [q3] at e2
          dsimp only at e2
          have eσ : c3.σ = L2.wipe c.σ vs := by rw [f2, I2.sg, h2]
          refine ⟨c3, c3, .sh d, eσ, rfl, Stp.refl c3, k3, ⟨OIs.sh f5, fun z => by cases z⟩, S3, q3, fun c4 g1 s4 k4 g4 => ?_⟩
          have w4 : L2.wipe c4.σ vs = L2.wipe c3.σ vs := wipe_agr g4 hix
          have w4' : L2.wipe c4.σ vs = L2.wipe c.σ vs := by rw [w4, eσ, wipe_wipe]
          have I4 : DcJ n c1 vs D acc c4 := I3.step s4 k4 (by rw [w4', h2])
          refine ⟨w4', c4, rfl, rfl, k4, ?_⟩
          rw [g1]
          cases q4 : t S3 with
          | bad => rw [q4] at e2; cases e2
          | exc C fs S4 => rw [q4] at e2; cases e2
          | ok b S4 =>
            rw [q4] at e2
            intro v c5 g5 g6 s5 k5 g7
            have g7 : v = b := g7
            subst g7
            have I5 : DcJ n c1 vs D acc c5 := I4.step s5 k5 (by rw [g6, w4', h2])
            cases v with
            | false =>
              dsimp only at e2
              exact iteF ⟨c5, acc, rfl, I5, by rw [g5]; exact e2⟩
            | true =>
              dsimp only at e2
              refine iteT ⟨c5, g6, rfl, k5, ?_⟩
              rw [g5]
              cases q5 : kx S4 with
              | bad => rw [q5] at e2; cases e2
              | exc C fs S5 => rw [q5] at e2; cases e2
              | ok kd5 S5 =>
                rw [q5] at e2
                dsimp only at e2
                intro y c6 j1 j2 s6 k6 j3
                have I6 : DcJ n c1 vs D acc c6 := I5.step s6 k6 (by rw [j2, g6, w4', h2])
                refine ⟨c6, j2.trans g6, rfl, k6, ?_⟩
                rw [j1]
                cases q6 : e S5 with
                | bad => rw [q6] at e2; cases e2
                | exc C fs S6 => rw [q6] at e2; cases e2
                | ok y5 S6 =>
                  rw [q6] at e2
                  dsimp only at e2
                  intro v c7 l1 l2 s7 k7 l3
                  have I7 : DcJ n c1 vs D acc c7 := I6.step s7 k7 (by rw [l2, j2, g6, w4', h2])
                  have j4 : Is n c7.F c7.φ y kd5 := s7.is j3
                  cases hp : putO acc kd5 y5 with
                  | none => rw [hp] at e2; cases e2
                  | some ks =>
                    rw [hp] at e2
                    dsimp only at e2
                    have fin : ∀ (ob : HO), ((∃ ys, upd c7.H D ob D = some (.dK ys) ∧ IsK n c7.F c7.φ ys ks) ∨ ∃ ys, upd c7.H D ob D = some (.dT ys) ∧ IsKT n c7.F c7.φ ys ks) → ∃ (c4 : Cf) (acc' : List (Bv.D × Bv.D)), c4.H = upd c7.H D ob ∧ DcJ n c1 vs D acc' c4 ∧ dcB2 vs a t kx e (ds.drop (i + 1)) acc' c4.S = .ok ys0 S2 := fun ob hn => ⟨{ c7 with H := upd c7.H D ob }, ks, rfl, I7.grow hD hn, by rw [← e2, ← l1]⟩
                    unfold putO at hp
                    cases hk1 : keyOf kd5 with
                    | some k0 =>
                      rw [hk1] at hp
                      dsimp only at hp
                      split at hp
                      · rename_i hz
                        cases hp
                        rw [Bool.and_eq_true, decide_eq_true_eq] at hz
                        rcases I7.hd with ⟨us, h, t⟩ | ⟨us, h, t⟩
                        · have hl : us.length < sizeLine := by rw [t.length, lineN_eq]; exact hz.2
                          refine ⟨_, .inl ?_, fin (.dK (putK us k0 v)) (.inl ⟨_, upd_same, t.put hk1 l3⟩)⟩
                          rw [key_is j4 hk1]
                          exact DPut.k h hl
                        · rw [plainK_T t] at hz; cases hz.1
                      · cases hp
                    | none =>
                      rw [hk1] at hp
                      dsimp only at hp
                      cases hk2 : tkeyOf kd5 with
                      | none => rw [hk2] at hp; cases hp
                      | some k0 =>
                        rw [hk2] at hp
                        dsimp only at hp
                        split at hp
                        · rename_i hz
                          cases hp
                          rw [Bool.and_eq_true, decide_eq_true_eq] at hz
                          obtain ⟨b, rfl, hb⟩ := tkey_is j4 hk2
                          have hb := I7.ok.sub _ _ hb
                          rcases I7.hd with ⟨us, h, t⟩ | ⟨us, h, t⟩
                          · have := tupK_K t hz.1
                            subst this
                            cases t
                            exact ⟨_, .inr ⟨k0, b, h, rfl, hb, rfl⟩, fin (.dT [(k0, v)]) (.inr ⟨_, upd_same, .one hk2 l3⟩)⟩
                          · have hl : us.length < sizeLine := by rw [t.length, lineN_eq]; exact hz.2
                            exact ⟨_, .inl (DPut.t h hb hl), fin (.dT (putK us k0 v)) (.inr ⟨_, upd_same, t.put hk2 l3⟩)⟩
                        · cases hp
      · have e : i = ds.length := by omega
        subst e
        rw [List.drop_length] at e2
        unfold dcB2 at e2
        have ea : acc = ys0 := by injection e2
        have es : c2.S = S2 := by injection e2
        subst ea es
        obtain ⟨kr, sr, rr⟩ := I2.rest k1 hD
        refine .inl ⟨w1.stop c2 I2.ok (fw I2), ?_⟩
        have z := o.later trO s1 h2
        exact z (.ref D) { c2 with S := restS c1.S c2.S vs, σ := c1.σ } (by rw [h1]) rfl sr kr rr

/-- a dict of a comprehension, stored under a name at once -/
theorem pe_dc2 {kx vx tg iter : Expr} {ifs : List Expr} {scope : Scope} {own : List (Str × Nat)} {pos : Pos} {wi : TI} {g : TG} {tt : TT} {tk tv : TE} (hu : X.A.units + 1 < cLine) (hc : X.calm = true) (hN : X.N.Nodup) (hi : PI X tg iter wi) (ok : BlkOk X.N X.env.scope scope own)
    (hg : ∀ (s : Shared) (H : Hp) (C : Addr) (cl : List (Str × Addr)) (fp : List Addr), PG (X.blk s H scope (compEnvC scope cl C X.env) fp) tg g)
    (ht : ∀ (s : Shared) (H : Hp) (C : Addr) (cl : List (Str × Addr)) (fp : List Addr), PTs (X.blk s H scope (compEnvC scope cl C X.env) fp) ifs tt)
    (hk : ∀ (s : Shared) (H : Hp) (C : Addr) (cl : List (Str × Addr)) (fp : List Addr), PE (X.blk s H scope (compEnvC scope cl C X.env) fp) kx tk)
    (he : ∀ (s : Shared) (H : Hp) (C : Addr) (cl : List (Str × Addr)) (fp : List Addr), PE (X.blk s H scope (compEnvC scope cl C X.env) fp) vx tv) (hs : ∀ x, foldedSetIterable iter X.env x = pure x) :
    PE X (.DictComp kx vx [⟨tg, iter, ifs, 0⟩] scope pos) (tDcP wi g tt tk tv (own.map (·.2))) := by
  constructor
  intro pins s σ H Q I h
  rw [arm_eval_DictComp]
  exact dc_core2 hu hc hN I hi ok hg ht hk he hs h fun D C s' m H' I' q hn f => ⟨m, hn, fun h'' sb => ⟨V.ref D, H', I'.turned (t' := s'.toks) (fun b o hb e => (sb.2 b hb).trans e) f.1 f.2.1 f.2.2.2.1 f.2.2.2.2.1 f.2.2.2.2.2, rfl, q⟩⟩
theorem ps_setDc2 {i : Nat} {y : Str} {py : Pos} {kx vx tg iter : Expr} {ifs : List Expr} {scope : Scope} {own : List (Str × Nat)} {pos spos : Pos} {wi : TI} {g : TG} {tt : TT} {tk tv : TE} (hu : X.A.units + 65 < cLine) (hc : X.calm = true) (hN : X.N.Nodup) (hy : X.N[i]? = some y) (hyl : X.env.scope.names.lookup y = some .local)
    (hsw : swapsWith (.DictComp kx vx [⟨tg, iter, ifs, 0⟩] scope pos) (some (.Name y py)) spos.line X.env = pure true) (hi : PI X tg iter wi) (ok : BlkOk X.N X.env.scope scope own)
    (hg : ∀ (s : Shared) (H : Hp) (C : Addr) (cl : List (Str × Addr)) (fp : List Addr), PG (X.blk s H scope (compEnvC scope cl C X.env) fp) tg g)
    (ht : ∀ (s : Shared) (H : Hp) (C : Addr) (cl : List (Str × Addr)) (fp : List Addr), PTs (X.blk s H scope (compEnvC scope cl C X.env) fp) ifs tt)
    (hk : ∀ (s : Shared) (H : Hp) (C : Addr) (cl : List (Str × Addr)) (fp : List Addr), PE (X.blk s H scope (compEnvC scope cl C X.env) fp) kx tk)
    (he : ∀ (s : Shared) (H : Hp) (C : Addr) (cl : List (Str × Addr)) (fp : List Addr), PE (X.blk s H scope (compEnvC scope cl C X.env) fp) vx tv) (hs : ∀ x, foldedSetIterable iter X.env x = pure x) :
    PS X (.Assign [.Name y py] (.DictComp kx vx [⟨tg, iter, ifs, 0⟩] scope pos) spos) (tAsg (tDcP wi g tt tk tv (own.map (·.2))) (gName i)) := by
  constructor
  intro pins s σ H D I hDc
  rw [exec_Assign_Name_used _ _ _ _ hsw]; refine wpAny_bind (wpAny_standAt (wpAny_bind ?_))
  show wpAny _ X.A (do let _ ← comprehension (.DictComp kx vx [⟨tg, iter, ifs, 0⟩] scope pos) scope X.env (firstIterPos [⟨tg, iter, ifs, 0⟩] pos) newDict false (eval iter X.env) (some (assign (.Name y py) X.env))) _ _ s
  have hDc : tDcP wi g tt tk tv (own.map (·.2)) σ H (fun x H1 => gName i x σ H1 D.nx) := hDc
  refine wpAny_bind (thn (dc_core2 (by omega) (Qf := fun _ s1 => SP X pins D .next s1) hc hN I hi ok hg ht hk he hs hDc fun P C s1 m H1 I1 q hn ff => ?_) fun _ s1 hq => wpAny_pure (wpAny_pure hq))
  show wpAny _ _ (assign (.Name y py) X.env (.ref P)) _ _ _
  refine wpAny_assign_Name (store_ok2 (v := V.ref P) I1 hN hy (.inl hyl) rfl (fun s2 I2 ⟨a, sb, ha⟩ => ?_) (.inr hyl))
  obtain ⟨z0, z1, z2, z3, z4, z5⟩ := ff
  have hCa : C ≠ a := ha.elim (fun z => by rw [z]; exact z1) (fun z e => z4 y a z e.symm)
  exact ⟨m, hn.sameBut sb hCa, fun h3 sb3 => ⟨_, H1, I2.turned (t' := s2.toks) (fun b o hb e => (sb3.2 b hb).trans e) z0 z1 z3 z4 z5, q⟩⟩
section
variable {kx vx tg iter : Expr} {ifs : List Expr} {scope : Scope} {own : List (Str × Nat)} {pos : Pos} {m : M (List D)} {a : AS} {ix : List Nat} {t : M Bool} {k e : M D}
theorem be_dc2 (hu : X.A.units + 65 < cLine) (hc : X.calm = true) (hN : X.N.Nodup) (hi : PI X tg iter (tI n W m)) (ok : BlkOk X.N X.env.scope scope own) (hix : ∀ i ∈ ix, i ∈ own.map (·.2))
    (hg : ∀ (s : Shared) (H : Hp) (C : Addr) (cl : List (Str × Addr)) (fp : List Addr), PG (X.blk s H scope (compEnvC scope cl C X.env) fp) tg (tG n ix a))
    (ht : ∀ (s : Shared) (H : Hp) (C : Addr) (cl : List (Str × Addr)) (fp : List Addr), PTs (X.blk s H scope (compEnvC scope cl C X.env) fp) ifs (tT n WF t))
    (hk : ∀ (s : Shared) (H : Hp) (C : Addr) (cl : List (Str × Addr)) (fp : List Addr), PE (X.blk s H scope (compEnvC scope cl C X.env) fp) kx (tX n WF k))
    (he : ∀ (s : Shared) (H : Hp) (C : Addr) (cl : List (Str × Addr)) (fp : List Addr), PE (X.blk s H scope (compEnvC scope cl C X.env) fp) vx (tX n WF e)) (hs : ∀ x, foldedSetIterable iter X.env x = pure x) :
    PE X (.DictComp kx vx [⟨tg, iter, ifs, 0⟩] scope pos) (tO n W (dcM2 m (own.map (·.2)) a t k e)) := (pe_dc2 (by omega) hc hN hi ok hg ht hk he hs).imp fun _ _ _ o => dc_read2 hix o
theorem bs_setDc2 {fb : Bool} {i : Nat} {y : Str} {py spos : Pos} (hu : X.A.units + 65 < cLine) (hc : X.calm = true) (hN : X.N.Nodup) (hy : X.N[i]? = some y) (hyl : X.env.scope.names.lookup y = some .local)
    (hsw : swapsWith (.DictComp kx vx [⟨tg, iter, ifs, 0⟩] scope pos) (some (.Name y py)) spos.line X.env = pure true) (hi : PI X tg iter (tI n W m)) (ok : BlkOk X.N X.env.scope scope own) (hix : ∀ i ∈ ix, i ∈ own.map (·.2))
    (hg : ∀ (s : Shared) (H : Hp) (C : Addr) (cl : List (Str × Addr)) (fp : List Addr), PG (X.blk s H scope (compEnvC scope cl C X.env) fp) tg (tG n ix a))
    (ht : ∀ (s : Shared) (H : Hp) (C : Addr) (cl : List (Str × Addr)) (fp : List Addr), PTs (X.blk s H scope (compEnvC scope cl C X.env) fp) ifs (tT n WF t))
    (hk : ∀ (s : Shared) (H : Hp) (C : Addr) (cl : List (Str × Addr)) (fp : List Addr), PE (X.blk s H scope (compEnvC scope cl C X.env) fp) kx (tX n WF k))
    (he : ∀ (s : Shared) (H : Hp) (C : Addr) (cl : List (Str × Addr)) (fp : List Addr), PE (X.blk s H scope (compEnvC scope cl C X.env) fp) vx (tX n WF e)) (hs : ∀ x, foldedSetIterable iter X.env x = pure x) :
    PS X (.Assign [.Name y py] (.DictComp kx vx [⟨tg, iter, ifs, 0⟩] scope pos) spos) (tS n W (agS (fzM fb (dcM2 m (own.map (·.2)) a t k e)) (asN i))) := (ps_setDc2 hu hc hN hy hyl hsw hi ok hg ht hk he hs).imp fun E σ H ⟨c, e1, e2, k, o⟩ => by
  subst e1 e2
  have z : tO n W (fzM fb (dcM2 m (own.map (·.2)) a t _ e)) c.σ c.H (fun v H' => gName i v c.σ H' E.nx) := ⟨c, rfl, rfl, k, Out.imp (o.asg (ix := [i])) fun v H' q => by
    obtain ⟨c0, c1, l, h1, h2, s, k1, r, S', h3, q⟩ := q
    cases h3
    obtain ⟨k2, s2⟩ := k1.put (i := i) s r
    have z := q { c1 with S := { c1.S with sl := c1.S.sl.set i (some l) }, σ := c1.σ.set i (some v) } rfl s2 k2 ⟨List.length_set, fun j hj => List.getElem?_set_ne (fun z => hj (by simp [z]))⟩
    show E.nx (c.σ.set i (some v)) H'
    rw [← h1, ← h2]
    exact z⟩
  exact dc_read2 hix (fz_ok z)
end

/-! ### in -/
end Bv

/-! the interpreter by value -/
namespace Bv
open PySem PySem.Spec PyProof.Rows L2
/-- a block as it is written -/
structure Ct where
  N : List Str
  sc : Scope
  fn : Str → Bool
  mu : Str → Bool
  co : Str → Option D
/-- what is known of the text's names -/
structure Tb where
  fn : Str → Option (Nat × FnS)
  cl : Str → Option (Nat × FnI)
  ty : Str → Bool
  isi : List Str → Ty → Option Bool
  fld : Str → Bool
  gcd : Bool
  co : Str → Option D
  me : Str → Str → Option FnS
  hasMe : Bool
  br : Str → Bool
  turns : Nat
inductive Bi where
  | len | int | abs | sum | max | min | any | all | sorted | tuple | list | isin | str
def biTab : List (Str × Bi) := [("len", .len), ("int", .int), ("abs", .abs), ("sum", .sum), ("max", .max), ("min", .min), ("any", .any), ("all", .all), ("sorted", .sorted), ("tuple", .tuple), ("list", .list), ("isinstance", .isin), ("str", .str)]
def Ct.gl (ct : Ct) (x : Str) : Bool := match ct.sc.names.lookup x with
  | some .globalImplicit => true
  | _ => false
def Ct.vis (ct : Ct) (x : Str) : Bool := match ct.sc.names.lookup x with
  | some .local => true
  | some .cell => true
  | some .free => true
  | _ => false
def Ct.lo (ct : Ct) (x : Str) : Bool := match ct.sc.names.lookup x with
  | some .local => true
  | _ => false
def Ct.ce (ct : Ct) (x : Str) : Bool := match ct.sc.names.lookup x with
  | some .cell => true
  | _ => false
def ixIn : List Str → Str → Option Nat
  | [], _ => none
  | y :: ys, x => if y = x then some 0 else (ixIn ys x).map (· + 1)
def Ct.ix (ct : Ct) (x : Str) : Option Nat := if ct.vis x then ixIn ct.N x else none
/-- a place to store -/
def Ct.tg (ct : Ct) (x : Str) : Option Nat := if ct.lo x || (ct.ce x && ct.fn x) then ixIn ct.N x else none
def Ct.blk (ct : Ct) (scope : Scope) : Ct := ⟨ct.N, relS scope ct.sc, fun x => scope.names.lookup x == some .cell, ct.mu, ct.co⟩
def Ct.env (ct : Ct) : Env := { scope := ct.sc, locals := 0, globals := 0, cells := [] }
def ownOf (ct : Ct) (scope : Scope) : List (Str × Nat) := scope.names.filterMap fun y => match y.2 with
  | .local => (ixIn ct.N y.1).map fun i => (y.1, i)
  | .cell => (ixIn ct.N y.1).map fun i => (y.1, i)
  | _ => none
/-! forms -/
def isStar : Expr → Bool
  | .Starred .. => true
  | _ => false
def isSet : Expr → Bool
  | .Set .. => true
  | _ => false
def isSlice : Expr → Bool
  | .Slice .. => true
  | _ => false
def isCmp : Expr → Bool
  | .ListComp .. => true
  | .SetComp .. => true
  | .DictComp .. => true
  | _ => false
def noArgs : Expr → Bool
  | .Call _ [] _ _ => true
  | _ => false
def swp (ct : Ct) (tgs : List Expr) (e : Expr) (line : Nat) : Option Bool := match swapsWithSole tgs e line ct.env with
  | .pure b => some b
  | _ => none
def sws (ct : Ct) (tgs : List Expr) (e : Expr) : Option (Option (List Str)) := match swappedStores tgs e ct.env with
  | .pure b => some b
  | _ => none
section
variable (T : Tb) (ct : Ct) (r : Ct → Expr → M L) (t : Ct → Expr → M Bool)
def nmX (x : Str) : M D := match ct.ix x with
  | some i => escN i
  | none => if ct.gl x then (match ct.co x with
    | some d => pure d
    | none => bad) else bad
def nmW (x : Str) : M L := match ct.ix x with
  | some i => slN i
  | none => if ct.gl x then (match ct.co x with
    | some d => pure (.sh d)
    | none => bad) else bad
def cnX : Const → M D
  | .int z => pure (.int z)
  | .bool b => pure (.bl b)
  | .none => pure .non
  | .str z => pure (.str z)
  | _ => bad
def aX (e : Expr) : M D := match e with
  | .Name x _ => nmX ct x
  | .Constant c _ _ => cnX c
  | e => dM (r ct e)
def aW (e : Expr) : M L := match e with
  | .Name x _ => nmW ct x
  | e => r ct e
def aL : List Expr → M (List D)
  | [] => nilM
  | e :: es => if isStar e then bad else consM (aX ct r e) (aL es)
def aLs : List Expr → M (List D)
  | [] => nilM
  | .Starred e _ :: es => starM (aX ct r e) (aLs es)
  | e :: es => if isStar e then bad else consM (aX ct r e) (aLs es)
def opB : Operator → D → D → M L
  | .Add => gAdd
  | .Sub => gSub
  | .Mult => gMul
  | .FloorDiv => gFdv
  | .Mod => gMod
  | .Pow => gPow
  | _ => fun _ _ => bad
def gLt : D → D → M L := gCmp fun i j => decide (i < j)
def gLe : D → D → M L := gCmp fun i j => decide (i ≤ j)
def gGt : D → D → M L := gCmp fun i j => decide (j < i)
def gGe : D → D → M L := gCmp fun i j => decide (j ≤ i)
def opC : CmpOp → D → D → M L
  | .Eq => gEq
  | .NotEq => gNe
  | .Lt => gLt
  | .LtE => gLe
  | .Gt => gGt
  | .GtE => gGe
  | .Is => gIs false
  | .IsNot => gIs true
  | .In => gIn2 false
  | .NotIn => gIn2 true
def ownB (F : FnS) (d e : D) : M L := fun s => match gOwn F d e s with
  | .ok (.sh (.bl b)) s' => .ok (.sh (.bl b)) s'
  | _ => .bad
def gCmpOwn (m : Str) (g : D → D → M L) (d e : D) : M L := match d, e with
  | .inst C fs, .inst C' gs => if C = C' then (match T.me C m with
    | some F => ownB F (.inst C fs) (.inst C' gs)
    | none => bad) else bad
  | d, e => g d e
def gEqO : D → D → M L := gCmpOwn T "__eq__" gEq
def gNeO : D → D → M L := gCmpOwn T "__ne__" gNe
def opC2 (op : CmpOp) : D → D → M L := if T.hasMe then (match op with
  | .Eq => gEqO T
  | .NotEq => gNeO T
  | op => opC op) else opC op
def boE (op : BoolOp) : List Expr → M L
  | [] => bad
  | [a] => r ct a
  | a :: b :: es => match op with
    | .And => andM (aX ct r a) (boE op (b :: es))
    | .Or => orM (aX ct r a) (boE op (b :: es))
def inIx (op : CmpOp) (b : Expr) : Option (Bool × Nat) := match op, b with
  | .In, .Name x _ => if ct.mu x then (ct.ix x).map fun i => (false, i) else none
  | .NotIn, .Name x _ => if ct.mu x then (ct.ix x).map fun i => (true, i) else none
  | _, _ => none
def eqIx (op : CmpOp) (a : Expr) : Option (Bool × Nat) := match op, a with
  | .Eq, .Name x _ => if ct.mu x then (ct.ix x).map fun i => (false, i) else none
  | .NotEq, .Name x _ => if ct.mu x then (ct.ix x).map fun i => (true, i) else none
  | _, _ => none
def cmE (a : Expr) : List CmpOp → List Expr → M L
  | [op], [b] => if behindInMarks op b then bad else match inIx ct op b with
    | some p => inN (aX ct r a) p.2 p.1
    | none => match eqIx ct op a with
      | some p => cmN p.2 p.1 (aX ct r b)
      | none => bin2 (aX ct r a) (aX ct r b) (opC2 T op)
  | [op, op'], [b, c] => if lastMarks [op, op'] [b, c] then bad else chM (aX ct r a) (aX ct r b) (aX ct r c) (opC op) (opC op')
  | _, _ => bad
def aP : Option Expr → M (Option Int)
  | none => noP
  | some e => soP (aX ct r e)
def suE (a b : Expr) : M L := match b with
  | .Slice lo hi none _ => (match a with
    | .Name x _ => (match ct.ix x with
      | some i => slNM i (aP ct r lo) (aP ct r hi)
      | none => bad)
    | a => slM (aX ct r a) (aP ct r lo) (aP ct r hi))
  | .Constant (.str z) _ _ => (match a with
    | .Name x _ => (match ct.ix x with
      | some i => dgN i z
      | none => bad)
    | _ => bad)
  | b => if isSlice b then bad else match a with
    | .Name x _ => (match ct.ix x with
      | some i => ixNM i (aX ct r b)
      | none => bad)
    | a => ixM (aX ct r a) (aX ct r b)
/-- keys that are texts -/
def kyE : List (Option Expr) → Option (List (Str × Nat × Pos))
  | [] => some []
  | some (.Constant (.str z) j p) :: ks => (kyE ks).map ((z, j, p) :: ·)
  | _ => none
def diE (keys : List (Option Expr)) (es : List Expr) : M L := match kyE keys with
  | some ks => if decide (ks.length = es.length) && decide ((ks.map (·.1)).Nodup) && decide (ks ≠ []) && decide (ks.length ≤ 15) then ddM (ks.map (·.1)) (lsM (aX ct r) es) else bad
  | none => bad
def tyNames : List Expr → Option (List Str)
  | [] => some []
  | .Name c _ :: es => if ct.gl c && T.ty c then (tyNames es).map (c :: ·) else none
  | _ => none
def isE (e c : Expr) : M L := match c with
  | .Name x _ => if ct.gl x && T.ty x then thM (aW ct r e) (isiW (T.isi [x])) else bad
  | .Tuple cs _ _ => (match tyNames T ct cs with
    | some xs => if xs.length ≤ lineN then thM (aW ct r e) (isiW (T.isi xs)) else bad
    | none => bad)
  | _ => bad
def rgA (e : Expr) : Option Expr := match e with
  | .Call (.Name x _) [a] [] _ => if decide (x = "range") && ct.gl x && !isStar a then some a else none
  | _ => none
def rgA2 (e : Expr) : Option (Expr × Expr) := match e with
  | .Call (.Name x _) [a, b] [] _ => if decide (x = "range") && ct.gl x && !isStar a && !isStar b then some (a, b) else none
  | _ => none
def biE : Bi → List Expr → M L
  | .len, [e] => thM (aW ct r e) lenW
  | .int, [e] => thM (aW ct r e) intW
  | .abs, [e] => thM (aW ct r e) absW
  | .sum, [e] => thM (aW ct r e) sumW2
  | .max, [e] => thM (aW ct r e) (bestW2 maxI)
  | .min, [e] => thM (aW ct r e) (bestW2 minI)
  | .max, [a, b] => fnM (aL ct r [a, b]) gMax2
  | .min, [a, b] => fnM (aL ct r [a, b]) gMin2
  | .any, [e] => thM (aW ct r e) (boolsW fun bs => bs.any id)
  | .all, [e] => thM (aW ct r e) (boolsW fun bs => bs.all id)
  | .sorted, [e] => thM (aW ct r e) sortW2
  | .tuple, [e] => (match rgA ct e with
    | some a => rgOf (aX ct r a) fun ds => .sh (.tup ds)
    | none => (match rgA2 ct e with
      | some (a, b) => rgOf2 (aX ct r a) (aX ct r b) fun ds => .sh (.tup ds)
      | none => thM (aW ct r e) tupW))
  | .list, [e] => (match rgA ct e with
    | some a => rgOf (aX ct r a) fun ds => .ol ds
    | none => (match rgA2 ct e with
      | some (a, b) => rgOf2 (aX ct r a) (aX ct r b) fun ds => .ol ds
      | none => thM (aW ct r e) lstW))
  | .isin, [e, c] => isE T ct r e c
  | .str, [e] => thM (aW ct r e) strW
  | _, _ => bad
def isGcd (x : Str) : Bool := decide (x = "gcd")
inductive Me where
  | append | extend | index | join
def meTab : List (Str × Me) := [("append", .append), ("extend", .extend), ("index", .index), ("join", .join)]
def isCo : Expr → Bool
  | .Constant .. => true
  | _ => false
def isNm : Expr → Bool
  | .Name .. => true
  | _ => false
def meE (o : Expr) (m : Str) (e : Expr) : M L := match meTab.lookup m with
  | some .append => (match o with
    | .Name x _ => (match ct.ix x with
      | some i => appM i (aX ct r e)
      | none => bad)
    | _ => bad)
  | some .extend => (match o with
    | .Name x _ => (match ct.ix x with
      | some i => extM i (aX ct r e)
      | none => bad)
    | _ => bad)
  | some .index => if isNm o then idxM (aX ct r o) (aX ct r e) else bad
  | some .join => if isCo o then joM (aX ct r o) (aX ct r e) else bad
  | none => bad
def ixs : List Expr → Option (List Nat)
  | [] => some []
  | .Name x _ :: es => (match ct.ix x, ixs es with
    | some i, some is => some (i :: is)
    | _, _ => none)
  | _ => none
def caE (f : Expr) (args : List Expr) (pos : Pos) : M L := match f, args with
  | .Name x _, e :: es => if ct.gl x && (e :: es).all (fun e => !isStar e) then (match biTab.lookup x with
    | some b => biE T ct r b (e :: es)
    | none => match T.fn x with
      | some (m, f) => if T.br x then (match ixs ct (e :: es) with
        | some is => brM m f is
        | none => bad) else fnM (aL ct r (e :: es)) (callN m f)
      | none => match T.cl x with
        | some (m, f) => fnM (aL ct r (e :: es)) (makeM x m f)
        | none => if T.gcd && isGcd x then fnM (aL ct r (e :: es)) gGcd else bad) else bad
  | .Attribute o m apos, [e] => if !isStar e && (apos.endLine == pos.line) then meE ct r o m e else bad
  | _, _ => bad
inductive Wl where
  | range | enum | zip
def wlTab : List (Str × Wl) := [("range", .range), ("enumerate", .enum), ("zip", .zip)]
def isTp : Expr → Bool
  | .Tuple .. => true
  | _ => false
def itE (tg e : Expr) : M (List D) := match e with
  | .Call (.Name x _) args [] _ => if ct.gl x && args.all (fun e => !isStar e) then (match wlTab.lookup x with
    | some .range => (match args with
      | [a] => rgM (aL ct r [a]) rg1W
      | [a, b] => rgM (aL ct r [a, b]) rg2W
      | [a, b, c] => rgM (aL ct r [a, b, c]) rg3W
      | _ => bad)
    | some .enum => (match args with
      | [a] => if isTp tg then rgM (aL ct r [a]) enW else bad
      | _ => bad)
    | some .zip => (match args with
      | [a, b] => if isTp tg then rgM (aL ct r [a, b]) zpW else bad
      | _ => bad)
    | none => itM (aX ct r e)) else itM (aX ct r e)
  | e => itM (aX ct r e)
def noAS : AS := fun _ _ => none
def agE : Nat → Ct → Expr → AS × List Nat
  | 0, _, _ => (noAS, [])
  | k + 1, ct, e => match e with
    | .Name x _ => (match ct.tg x with
      | some i => (asN i, [i])
      | none => (noAS, []))
    | .Tuple es _ _ => if es.all (fun e => !isStar e) then (asT (es.map fun e => (agE k ct e).1), (es.map fun e => (agE k ct e).2).flatten) else (noAS, [])
    | _ => (noAS, [])
def tsE : List Expr → M Bool
  | [] => yesM
  | [c] => t ct c
  | _ => fun _ => .bad
def lcE (elt tg iter : Expr) (ifs : List Expr) (scope : Scope) : M L :=
  if blkC ct.N ct.sc scope (ownOf ct scope) && !isSet iter && (agE 3 (ct.blk scope) tg).2.all (fun i => decide (i ∈ (ownOf ct scope).map (·.2))) then
    lcM (itE ct r tg iter) ((ownOf ct scope).map (·.2)) (agE 3 (ct.blk scope) tg).1 (tsE (ct.blk scope) t ifs) (aX (ct.blk scope) r elt)
  else bad
def lcE2 (elt tg iter : Expr) (ifs : List Expr) (tg1 iter1 : Expr) (ifs1 : List Expr) (scope : Scope) : M L :=
  if blkC ct.N ct.sc scope (ownOf ct scope) && !isSet iter && !isSet iter1 && (agE 3 (ct.blk scope) tg).2.all (fun i => decide (i ∈ (ownOf ct scope).map (·.2))) && (agE 3 (ct.blk scope) tg1).2.all (fun i => decide (i ∈ (ownOf ct scope).map (·.2))) then
    lcM2 (itE ct r tg iter) ((ownOf ct scope).map (·.2)) (agE 3 (ct.blk scope) tg).1 (tsE (ct.blk scope) t ifs) (itE (ct.blk scope) r tg1 iter1) (agE 3 (ct.blk scope) tg1).2 (agE 3 (ct.blk scope) tg1).1 (tsE (ct.blk scope) t ifs1) (aX (ct.blk scope) r elt)
  else bad
def dcE (kx vx tg iter : Expr) (ifs : List Expr) (scope : Scope) : M L :=
  if blkC ct.N ct.sc scope (ownOf ct scope) && !isSet iter && (agE 3 (ct.blk scope) tg).2.all (fun i => decide (i ∈ (ownOf ct scope).map (·.2))) then
    dcM2 (itE ct r tg iter) ((ownOf ct scope).map (·.2)) (agE 3 (ct.blk scope) tg).1 (tsE (ct.blk scope) t ifs) (aX (ct.blk scope) r kx) (aX (ct.blk scope) r vx)
  else bad
def atOk : Expr → Bool
  | .Name .. => true
  | .Attribute .. => true
  | .Subscript .. => true
  | .Call _ (_ :: _) _ _ => true
  | _ => false
def stE (e : Expr) : M L := match e with
  | .Name x _ => sM (nmX ct x)
  | .Constant c _ _ => sM (cnX c)
  | .BinOp a op b _ => bin2 (aX ct r a) (aX ct r b) (opB op)
  | .UnaryOp .USub a _ => negM (aX ct r a)
  | .UnaryOp .Not a _ => notM (aX ct r a)
  | .BoolOp op es _ => boE ct r op es
  | .Compare a ops es _ => cmE T ct r a ops es
  | .IfExp c a b _ => ifM (t ct c) (r ct a) (r ct b)
  | .Tuple es _ _ => fnM (aLs ct r es) gTup
  | .List es _ => fnM (aL ct r es) gLst
  | .Subscript a b _ => suE ct r a b
  | .Attribute a f _ => if T.fld f && atOk a then thM (aW ct r a) (fldW f) else bad
  | .Call f args [] pos => caE T ct r f args pos
  | .Call (.Name x _) [a] [⟨some y, .Constant (.bool true) _ _, _⟩] _ => if decide (x = "sorted") && decide (y = "reverse") && ct.gl x && !isStar a then thM (aW ct r a) sortR else bad
  | .ListComp elt [⟨tg, iter, ifs, 0⟩] scope _ => lcE ct r t elt tg iter ifs scope
  | .ListComp elt [⟨tg, iter, ifs, 0⟩, ⟨tg1, iter1, ifs1, 0⟩] scope _ => lcE2 ct r t elt tg iter ifs tg1 iter1 ifs1 scope
  | .Dict [] [] _ => pure (.od [])
  | .Dict keys es _ => diE ct r keys es
  | .DictComp kx vx [⟨tg, iter, ifs, 0⟩] scope _ => dcE ct r t kx vx tg iter ifs scope
  | _ => bad
def boT (op : BoolOp) : List Expr → M Bool
  | [] => bad
  | [a] => t ct a
  | a :: b :: es => match op with
    | .And => andT (t ct a) (boT op (b :: es))
    | .Or => orT (t ct a) (boT op (b :: es))
def cmT (a : Expr) : List CmpOp → List Expr → M Bool
  | [op], [b] => if behindInMarks op b then bad else match inIx ct op b with
    | some p => blT (inN (aX ct r a) p.2 p.1)
    | none => match eqIx ct op a with
      | some p => blT (cmN p.2 p.1 (aX ct r b))
      | none => cmpT (aX ct r a) (aX ct r b) (opC2 T op)
  | [op, op'], [b, c] => if lastMarks [op, op'] [b, c] then bad else blT (chM (aX ct r a) (aX ct r b) (aX ct r c) (opC op) (opC op'))
  | _, _ => bad
def stT (e : Expr) : M Bool := match e with
  | .UnaryOp .Not a _ => notT (t ct a)
  | .BoolOp op es _ => boT ct t op es
  | .Compare a ops es _ => cmT T ct r a ops es
  | .IfExp .. => bad
  | e => truT (aW ct r e)
end
/-- what is read by value, k deep -/
structure Iv where
  e : Ct → Expr → M L
  t : Ct → Expr → M Bool
def iv (T : Tb) : Nat → Iv
  | 0 => ⟨fun _ _ => bad, fun _ _ => bad⟩
  | k + 1 => ⟨fun ct e => stE T ct (iv T k).e (iv T k).t e, fun ct e => stT T ct (iv T k).e (iv T k).t e⟩
/-! statements -/
def badS : MS := fun _ => .bad
section
variable (T : Tb) (ct : Ct) (v : Iv) (g : Stmt → MS)
def blS : List Stmt → MS
  | [] => nilS
  | s :: ss => seqS (g s) (blS ss)
def tgMu (tg : Expr) : Bool := match tg with
  | .Name x _ => ct.mu x
  | _ => true
def asE (tg e : Expr) (line : Nat) : MS := match tg with
  | .Attribute (.Name x _) f _ => (match swp ct [tg] e line, ct.ix x with
    | some false, some i => if T.fld f then stS i f (aX ct v.e e) else badS
    | _, _ => badS)
  | .Subscript (.Name x _) (.Constant (.str z) _ _) _ => (match swp ct [tg] e line, ct.ix x with
    | some false, some i => dpS i z (aX ct v.e e)
    | _, _ => badS)
  | .Subscript (.Name x _) k _ => if isSlice k then badS else (match swp ct [tg] e line, ct.ix x with
    | some false, some i => opS i (aX ct v.e k) (aX ct v.e e)
    | _, _ => badS)
  | tg => match swp ct [tg] e line with
    | some true => (match tg, e with
      | .Name y _, .ListComp elt [⟨tg, iter, ifs, 0⟩] scope _ => (match ct.lo y, ixIn ct.N y with
        | true, some i => if blkC ct.N ct.sc scope (ownOf ct scope) && !isSet iter && (agE 3 (ct.blk scope) tg).2.all (fun i => decide (i ∈ (ownOf ct scope).map (·.2))) then
            agS (fzM (ct.mu y) (lcM (itE ct v.e tg iter) ((ownOf ct scope).map (·.2)) (agE 3 (ct.blk scope) tg).1 (tsE (ct.blk scope) v.t ifs) (aX (ct.blk scope) v.e elt))) (asN i) else badS
        | _, _ => badS)
      | .Name y _, .DictComp kx vx [⟨tg, iter, ifs, 0⟩] scope _ => (match ct.lo y, ixIn ct.N y with
        | true, some i => if blkC ct.N ct.sc scope (ownOf ct scope) && !isSet iter && (agE 3 (ct.blk scope) tg).2.all (fun i => decide (i ∈ (ownOf ct scope).map (·.2))) then
            agS (fzM (ct.mu y) (dcM2 (itE ct v.e tg iter) ((ownOf ct scope).map (·.2)) (agE 3 (ct.blk scope) tg).1 (tsE (ct.blk scope) v.t ifs) (aX (ct.blk scope) v.e kx) (aX (ct.blk scope) v.e vx))) (asN i) else badS
        | _, _ => badS)
      | _, _ => badS)
    | some false => (match sws ct [tg] e with
      | some none => if isStar tg then badS else (match tg, e with
        | .Tuple [.Name x _, .Name y _, .Name z _] _ _, .Tuple [a, b, c] _ _ => if (ct.mu x || ct.mu y || ct.mu z) && !isStar a && !isStar b && !isStar c then (match ct.tg x, ct.tg y, ct.tg z with
          | some i, some j, some l => par3 i j l (fzM (ct.mu x) (v.e ct a)) (fzM (ct.mu y) (v.e ct b)) (fzM (ct.mu z) (v.e ct c))
          | _, _, _ => badS) else agS (fzM (tgMu ct tg) (v.e ct e)) (agE 3 ct tg).1
        | .Tuple [.Name x _, .Name y _] _ _, .Tuple [a, b] _ _ => if (ct.mu x || ct.mu y) && !isStar a && !isStar b then (match ct.tg x, ct.tg y with
          | some i, some j => par2 i j (fzM (ct.mu x) (v.e ct a)) (fzM (ct.mu y) (v.e ct b))
          | _, _ => badS) else agS (fzM (tgMu ct tg) (v.e ct e)) (agE 3 ct tg).1
        | _, _ => agS (fzM (tgMu ct tg) (v.e ct e)) (agE 3 ct tg).1)
      | some (some _) => (match tg, e with
        | .Tuple [.Name x _, .Name y _] _ _, .Tuple [a, b] _ _ => (match ixIn ct.N x, ixIn ct.N y with
          | some i, some j => if decide (sws ct [tg] e = some (some [x, y])) && ct.lo x && ct.lo y && !isStar a && !isStar b && decide (i ≠ j) then par2 i j (fzM (ct.mu x) (v.e ct a)) (fzM (ct.mu y) (v.e ct b)) else badS
          | _, _ => badS)
        | .Tuple [.Name x _, .Name y _, .Name z _] _ _, .Tuple [a, b, c] _ _ => (match ixIn ct.N x, ixIn ct.N y, ixIn ct.N z with
          | some i, some j, some l => if decide (sws ct [tg] e = some (some [x, y, z])) && ct.lo x && ct.lo y && ct.lo z && !isStar a && !isStar b && !isStar c && decide (i ≠ j) && decide (i ≠ l) && decide (j ≠ l) then par3 i j l (fzM (ct.mu x) (v.e ct a)) (fzM (ct.mu y) (v.e ct b)) (fzM (ct.mu z) (v.e ct c)) else badS
          | _, _, _ => badS)
        | _, _ => badS)
      | none => badS)
    | none => badS
def reE (e : Expr) : MS := match e with
  | .Name x _ => (match ct.ix x with
    | some i => rtS (mvN i)
    | none => badS)
  | e => rtS (v.e ct e)
def stG (s : Stmt) : MS := match s with
  | .Pass _ => nilS
  | .Break _ => fun s => .bk s
  | .Continue _ => fun s => .ct s
  | .Expr e _ => if isCmp e then badS else exS (v.e ct e)
  | .Return none _ => rnS
  | .Return (some e) _ => reE ct v e
  | .Assign [tg] e pos => asE T ct v tg e pos.line
  | .If c a b _ => ifS (v.t ct c) (blS g a) (blS g b)
  | .For tg it body [] _ => if isSet it then badS else forS (itE ct v.e tg it) (agE 3 ct tg).1 (blS g body)
  | .While c body [] _ => whB (v.t ct c) (blS g body) T.turns
  | _ => badS
end
def ivS (T : Tb) : Nat → Ct → Stmt → MS
  | 0, _, _ => badS
  | k + 1, ct, s => stG T ct (iv T 30) (ivS T k ct) s
/-- a body -/
def bodyS (T : Tb) (ct : Ct) (ss : List Stmt) : MS := blS (ivS T 20 ct) ss
end Bv

/-! the interpreter tells what the text does: expressions -/
namespace Bv
open PySem PySem.Spec PyProof.Rows L2
def uOf (n : Nm) (c : Str) : Value := match n.cA c with
  | some C => .ref C
  | none => match bootBuiltins c with
    | some (.type s) => .type s
    | _ => .none
/-- what is known wherever the text runs -/
structure Gk (n : Nm) (T : Tb) (P : Program) (w : World) (K : PySem.W.Frag) (mg : Str → Option Value) (base : Heap) (A : Around) : Prop where
  un : A.units + 65 < cLine
  bi : ∀ p ∈ biTab, mg p.1 = none
  rg : mg "range" = none
  en : mg "enumerate" = none
  zp : mg "zip" = none
  gc : T.gcd = true → mg "gcd" = some (.builtin "math.gcd")
  fn : ∀ x m f, T.fn x = some (m, f) → (x == ("__debug__" : Str)) = false ∧ ∃ k a fd ps, FnOk P w K mg base (L2.CX P w) k a fd ps (spB n m f) ∧ Room k A ∧ mg x = some (.ref a) ∧ PySem.W.keepIn K (.ref a) = true ∧ Binds K fd ps []
  cl : ∀ x m f, T.cl x = some (m, f) → (x == ("__debug__" : Str)) = false ∧ ∃ k a C fd ps, Mk K C a ∧ FnOk P w K mg base (L2.CX P w) k a fd ps (spI n x m f) ∧ Room (k + 1) A ∧ n.cA x = some C ∧ mg x = some (.ref C) ∧ Binds K fd ps []
  ty : ∀ x, T.ty x = true → (x == ("__debug__" : Str)) = false ∧ x ≠ "__name__" ∧ ((∃ C, n.cA x = some C ∧ mg x = some (.ref C)) ∨ ∃ s, n.cA x = none ∧ mg x = none ∧ bootBuiltins x = some (.type s))
  isi : ∀ cs, Asks n (cs.map (uOf n)) (T.isi cs)
  hA : ClsAll n
  fld : ∀ f, T.fld f = true → NoAt n f
  co : ∀ x d, T.co x = some d → (x == ("__debug__" : Str)) = false ∧ ∃ v u, mg x = some u ∧ RelV v u ∧ ∀ F φ, Is n F φ v d
  me : ∀ C m f, T.me C m = some f → ∃ k a Ca fd ps, FnOk P w K mg base (L2.CX P w) k a fd ps (spB n 2 f) ∧ Room k A ∧ n.cA C = some Ca ∧ PySem.W.findIn K (.ref Ca) m = some (some (.ref a)) ∧ PySem.W.isFn K (.ref a) = true ∧ Binds K fd ps []
structure KnOk (n : Nm) (T : Tb) (ct : Ct) (W : WX) (X : Cx) : Prop where
  g : Gk n T X.prog X.w X.K X.mg X.base X.A
  N : X.N = ct.N
  nd : X.N.Nodup
  sc : X.env.scope = ct.sc
  fn : X.fn = ct.fn
  calm : X.calm = true
  K : X.K = n.K
  tk : Takes X W
  hW : ∀ cls d σ σ' H, W cls d σ H → W cls d σ' H
  nm : ∀ x ∈ X.N, (x == ("__debug__" : Str)) = false ∧ (x == ("__classdict__" : Str)) = false
  co : ct.co = T.co
structure Snd (n : Nm) (T : Tb) (v : Iv) : Prop where
  e : ∀ {W : WX} {ct : Ct} {X : Cx}, KnOk n T ct W X → ∀ e, PE X e (tO n W (v.e ct e))
  t : ∀ {W : WX} {ct : Ct} {X : Cx}, KnOk n T ct W X → ∀ e, PT X e (tT n W (v.t ct e))
section
variable {n : Nm} {W : WX} {X : Cx} {T : Tb} {ct : Ct} {v : Iv}
theorem pe_bad {e : Expr} : PE X e (tO n W bad) := ⟨fun pins s σ H Q I ⟨c, _, _, _, o⟩ => o.elim⟩
theorem pe_badX {e : Expr} : PE X e (tX n W bad) := ⟨fun pins s σ H Q I ⟨c, _, _, _, o⟩ => o.elim⟩
theorem pe_badW {e : Expr} : PE X e (tW n W bad) := ⟨fun pins s σ H Q I ⟨c, _, _, _, o⟩ => o.elim⟩
theorem pt_bad {e : Expr} : PT X e (tT n W bad) := ⟨fun pins s σ H Q I ⟨c, _, _, _, o⟩ => o.elim⟩
theorem pw_bad {e : Expr} : PW X e (tT n W bad) := ⟨fun whole pins s σ H Q I ⟨c, _, _, _, o⟩ => o.elim⟩
theorem pa_bad {e : List Expr} : PA X e (tA n W bad) := ⟨fun pos pins s σ H Q I ⟨c, _, _, _, o⟩ => o.elim⟩
theorem pi_bad {tg e : Expr} : PI X tg e (tI n W bad) := ⟨fun pins s σ H Q I ⟨c, _, _, _, o⟩ => o.elim⟩
theorem ps_bad {e : Stmt} : PS X e (tS n W badS) := ⟨fun pins s σ H Q I ⟨c, _, _, _, o⟩ => o.elim⟩
theorem pg_bad {e : Expr} : PG X e (tG n [] noAS) := ⟨fun pins s σ H v u Q I r ⟨c0, c, l, _, _, _, _, _, S', h, _⟩ => by cases h⟩
theorem ixIn_get : ∀ {N : List Str} {x : Str} {i : Nat}, ixIn N x = some i → N[i]? = some x
  | [], _, _, h => by cases h
  | y :: ys, x, i, h => by
    unfold ixIn at h
    split at h
    · rename_i e; cases h; rw [e]; rfl
    · cases q : ixIn ys x with
      | none => rw [q] at h; cases h
      | some j =>
        rw [q] at h; cases h
        rw [List.getElem?_cons_succ]
        exact ixIn_get q
theorem ix_vis {x : Str} {i : Nat} (k : KnOk n T ct W X) (h : ct.ix x = some i) : X.N[i]? = some x ∧ Vis X.env.scope x ∧ (x == ("__debug__" : Str)) = false ∧ (x == ("__classdict__" : Str)) = false := by
  unfold Ct.ix at h
  split at h
  · rename_i hv
    have h1 : X.N[i]? = some x := by rw [k.N]; exact ixIn_get h
    refine ⟨h1, ?_, k.nm x (List.mem_of_getElem? h1)⟩
    unfold Vis
    rw [k.sc]
    unfold Ct.vis at hv
    split at hv
    · rename_i e; exact .inl e
    · rename_i e; exact .inr (.inl e)
    · rename_i e; exact .inr (.inr e)
    · cases hv
  · cases h
theorem gl_ok {x : Str} (k : KnOk n T ct W X) (h : ct.gl x = true) : Gl X x := by
  unfold Ct.gl at h
  show X.env.scope.names.lookup x = _
  rw [k.sc]
  split at h
  · assumption
  · cases h
theorem star_cons {e : Expr} {es : List Expr} {env : Env} (h : isStar e = false) : starEach (e :: es) env = (false, eval e env) :: starEach es env := by
  cases e <;> first | rfl | cases h
theorem star_none {env : Env} {pos : Pos} : ∀ {es : List Expr}, es.all (fun e => !isStar e) = true → (backTo pos (starEach es env)).any (·.1) = false
  | [], _ => rfl
  | e :: es, h => by
    simp only [List.all_cons, Bool.and_eq_true, Bool.not_eq_true'] at h
    rw [star_cons h.1]
    show (false || (backTo pos (starEach es env)).any (·.1)) = false
    rw [star_none h.2]
    rfl
/-! names and constants -/
theorem be_cW {e : Expr} {v : V} {d : D} (h : PE X e (tC v)) (i : ∀ F φ, Is n F φ v d) : PE X e (tW n W (pure (.sh d))) := h.imp fun σ H Q ⟨c, e1, e2, k, o⟩ => by
  subst e1 e2
  exact o.fin k (OIs.sh (i _ _))
theorem sn_nmX {x : Str} {p : Pos} (k : KnOk n T ct W X) : PE X (.Name x p) (tX n W (nmX ct x)) := by
  unfold nmX
  split
  · rename_i i h
    obtain ⟨h1, h2, h3, h4⟩ := ix_vis k h
    exact be_name h1 h2 h3 h4
  · split
    · rename_i hg
      split
      · rename_i d hc
        rw [k.co] at hc
        obtain ⟨hd, v, u, hm, r, hi⟩ := k.g.co x d hc
        exact be_c (pe_glob (gl_ok k hg) hm r hd) hi
      · exact pe_badX
    · exact pe_badX
theorem sn_nmW {x : Str} {p : Pos} (k : KnOk n T ct W X) : PE X (.Name x p) (tW n W (nmW ct x)) := by
  unfold nmW
  split
  · rename_i i h
    obtain ⟨h1, h2, h3, h4⟩ := ix_vis k h
    exact be_nameW h1 h2 h3 h4
  · split
    · rename_i hg
      split
      · rename_i d hc
        rw [k.co] at hc
        obtain ⟨hd, v, u, hm, r, hi⟩ := k.g.co x d hc
        exact be_cW (pe_glob (gl_ok k hg) hm r hd) hi
      · exact pe_badW
    · exact pe_badW
theorem sn_cn {z : Const} {j : Nat} {p : Pos} : PE X (.Constant z j p) (tX n W (cnX z)) := by
  unfold cnX
  split
  · exact be_int
  · exact be_bl
  · exact be_non
  · exact be_str
  · exact pe_badX
theorem sn_X (k : KnOk n T ct W X) (s : Snd n T v) (e : Expr) : PE X e (tX n W (aX ct v.e e)) := by
  unfold aX
  split
  · exact sn_nmX k
  · exact sn_cn
  · exact be_x (s.e k _)
theorem sn_W (k : KnOk n T ct W X) (s : Snd n T v) (e : Expr) : PE X e (tW n W (aW ct v.e e)) := by
  unfold aW
  split
  · exact sn_nmW k
  · exact be_w (s.e k _)
theorem sn_L (k : KnOk n T ct W X) (s : Snd n T v) : ∀ es : List Expr, PA X es (tA n W (aL ct v.e es))
  | [] => ba_nil
  | e :: es => by
    unfold aL
    split
    · exact pa_bad
    · rename_i h
      exact ba_cons (sn_X k s e) (sn_L k s es) (star_cons (by simpa using h))
theorem sn_Ls (k : KnOk n T ct W X) (s : Snd n T v) : ∀ es : List Expr, PA X es (tA n W (aLs ct v.e es))
  | [] => ba_nil
  | e :: es => by
    unfold aLs
    split
    · rename_i h; cases h
    · rename_i e' p es' h
      cases h
      exact ba_star k.K (sn_X k s _) (sn_Ls k s es)
    · rename_i e' es' _ h
      cases h
      split
      · exact pa_bad
      · rename_i h
        exact ba_cons (sn_X k s _) (sn_Ls k s es) (star_cons (by simpa using h))
theorem op_none {id : List Value → Sem Value} : True := trivial
theorem sn_opB (k : KnOk n T ct W X) (op : Operator) : ∃ r, OpR X (binaryOp op) r ∧ OpS n W r (opB op) := by
  cases op
  case Add => exact ⟨_, op_addA, by rw [k.K]; exact ops_add⟩
  case Sub => exact ⟨_, op_sub, ops_sub⟩
  case Mult => exact ⟨_, op_mulA, by rw [k.K]; exact ops_mul⟩
  case FloorDiv => exact ⟨_, op_fdiv, ops_fdv⟩
  case Mod => exact ⟨_, op_mod, ops_mod⟩
  case Pow => exact ⟨_, op_pow, ops_pow⟩
  all_goals exact ⟨fun _ _ _ _ => False, fun _ _ _ _ _ _ _ _ _ _ _ _ h => h.elim, fun _ _ _ _ _ _ _ _ _ o => o.elim⟩
theorem sn_opC (k : KnOk n T ct W X) (op : CmpOp) : ∃ r, OpR X (compareOp op) r ∧ OpS n W r (opC op) := by
  have un := k.g.un
  cases op
  case Eq => exact ⟨_, op_eqD (by omega), by rw [k.K]; exact ops_eq⟩
  case NotEq => exact ⟨_, op_neD (by omega), by rw [k.K]; exact ops_ne⟩
  case Lt => exact ⟨_, op_lt, ops_cmp _⟩
  case LtE => exact ⟨_, op_le, ops_cmp _⟩
  case Gt => exact ⟨_, op_gt, ops_cmp _⟩
  case GtE => exact ⟨_, op_ge, ops_cmp _⟩
  case Is => exact ⟨_, op_isP, ops_is false⟩
  case IsNot => exact ⟨_, op_isNotP, ops_is true⟩
  case In => exact ⟨_, op_inB un, by rw [k.K]; exact ops_in2 false⟩
  case NotIn => exact ⟨_, op_notInB un, by rw [k.K]; exact ops_in2 true⟩
/-- by an own def -/
def rOwnK (n : Nm) (X : Cx) (m : Str) : R2 := fun x y H Q => ∃ (C : Addr) (F : FnS) (k : Nat) (f : Addr) (fd : FuncData) (ps : List Str), (FnOk X.prog X.w X.K X.mg X.base (L2.CX X.prog X.w) k f fd ps (spB n 2 F) ∧ Room k X.A ∧ PySem.W.findIn X.K (.ref C) m = some (some (.ref f)) ∧ PySem.W.isFn X.K (.ref f) = true ∧ Binds X.K fd ps []) ∧ rOwn n C F x y H Q
theorem op_ownK {op : CmpOp} {m : Str} (hm : (cmpInfo op).2.1 = m) (hop : compareOp op = richCompare op) : OpR X (compareOp op) (rOwnK n X m) := by
  intro pins s σ H x y u v Q I rx ry ⟨C, F, k, f, fd, ps, ⟨h1, h2, h3, h4, h5⟩, d⟩
  subst hm
  exact op_own h1 h2 h3 h4 h5 hop pins s σ H x y u v Q I rx ry d
theorem ops_own (k : KnOk n T ct W X) {m : Str} {g : D → D → M L} {r : R2} (h : OpS n W r g) : OpS n W (fun x y H Q => r x y H Q ∨ rOwnK n X m x y H Q) (gCmpOwn T m g) := fun c x y d e Q kc hi hj o => by
  unfold gCmpOwn at o
  split at o
  · rename_i C fs C' gs
    by_cases hC : C = C'
    · subst hC
      rw [if_pos rfl] at o
      cases hm : T.me C m with
      | none => rw [hm] at o; exact o.elim
      | some F =>
        rw [hm] at o
        obtain ⟨j, a, Ca, fd, ps, h1, h2, h3, h4, h5, h6⟩ := k.g.me C m F hm
        exact .inr ⟨Ca, F, j, a, fd, ps, ⟨h1, h2, h4, h5, h6⟩, own_ok h3 kc hi hj o⟩
    · rw [if_neg hC] at o; exact o.elim
  · exact .inl (h c x y _ _ Q kc hi hj o)
theorem sn_opC2 (k : KnOk n T ct W X) (op : CmpOp) : ∃ r, OpR X (compareOp op) r ∧ OpS n W r (opC2 T op) := by
  unfold opC2
  split
  · split
    · obtain ⟨r, h1, h2⟩ := sn_opC k .Eq
      exact ⟨_, OpR.or h1 (op_ownK (m := "__eq__") rfl rfl), ops_own k h2⟩
    · obtain ⟨r, h1, h2⟩ := sn_opC k .NotEq
      exact ⟨_, OpR.or h1 (op_ownK (m := "__ne__") rfl rfl), ops_own k h2⟩
    · exact sn_opC k _
  · exact sn_opC k op
theorem inIx_ok (k : KnOk n T ct W X) {op : CmpOp} {b : Expr} {q : Bool × Nat} (h : inIx ct op b = some q) : ∃ x p, b = .Name x p ∧ ct.ix x = some q.2 ∧ OpR X (compareOp op) (rInB n.K q.1) := by
  have un := k.g.un
  unfold inIx at h
  split at h
  · split at h
    · rename_i x p _
      cases e : ct.ix x with
      | none => rw [e] at h; cases h
      | some i =>
        rw [e] at h
        cases h
        exact ⟨_, _, rfl, e, by have := op_inB (X := X) un; rw [k.K] at this; exact this⟩
    · cases h
  · split at h
    · rename_i x p _
      cases e : ct.ix x with
      | none => rw [e] at h; cases h
      | some i =>
        rw [e] at h
        cases h
        exact ⟨_, _, rfl, e, by have := op_notInB (X := X) un; rw [k.K] at this; exact this⟩
    · cases h
  · cases h
theorem eqIx_ok (k : KnOk n T ct W X) {op : CmpOp} {b : Expr} {q : Bool × Nat} (h : eqIx ct op b = some q) : ∃ x p, b = .Name x p ∧ ct.ix x = some q.2 ∧ OpR X (compareOp op) (rEN n.K q.1) := by
  have un := k.g.un
  unfold eqIx at h
  split at h
  · split at h
    · rename_i x p _
      cases e : ct.ix x with
      | none => rw [e] at h; cases h
      | some i =>
        rw [e] at h
        cases h
        exact ⟨_, _, rfl, e, by have := op_eqD (X := X) (by omega : X.A.units + 64 < cLine); rw [k.K] at this; exact this⟩
    · cases h
  · split at h
    · rename_i x p _
      cases e : ct.ix x with
      | none => rw [e] at h; cases h
      | some i =>
        rw [e] at h
        cases h
        exact ⟨_, _, rfl, e, by have := op_neD (X := X) (by omega : X.A.units + 64 < cLine); rw [k.K] at this; exact this⟩
    · cases h
  · cases h
theorem sn_bo (k : KnOk n T ct W X) (s : Snd n T v) {op : BoolOp} {pos : Pos} : ∀ es : List Expr, PE X (.BoolOp op es pos) (tO n W (boE ct v.e op es))
  | [] => pe_bad
  | [a] => be_one (s.e k a)
  | a :: b :: es => by
    unfold boE
    cases op
    · exact be_and (sn_X k s a) (sn_bo k s (b :: es))
    · exact be_or (sn_X k s a) (sn_bo k s (b :: es))
theorem sn_cm (k : KnOk n T ct W X) (s : Snd n T v) {a : Expr} {ops : List CmpOp} {es : List Expr} {pos : Pos} : PE X (.Compare a ops es pos) (tO n W (cmE T ct v.e a ops es)) := by
  unfold cmE
  split
  · rename_i op b
    split
    · exact pe_bad
    · rename_i h
      split
      · rename_i q hq
        obtain ⟨x, p, rfl, g1, g2⟩ := inIx_ok k hq
        obtain ⟨v1, v2, v3, v4⟩ := ix_vis k g1
        exact be_inN g2 v1 v2 v3 v4 (sn_X k s a) (by simpa using h)
      split
      · rename_i q hq
        obtain ⟨x, p, rfl, g1, g2⟩ := eqIx_ok k hq
        obtain ⟨v1, v2, v3, v4⟩ := ix_vis k g1
        exact be_cmN g2 v1 v2 v3 v4 (sn_X k s b) (by simpa using h)
      obtain ⟨r, h1, h2⟩ := sn_opC2 k op
      exact be_cmp h1 h2 (sn_X k s a) (sn_X k s b) (by simpa using h)
  · rename_i op op' b c
    split
    · exact pe_bad
    · rename_i h
      obtain ⟨r, h1, h2⟩ := sn_opC k op
      obtain ⟨r', h3, h4⟩ := sn_opC k op'
      exact be_chain h1 h3 h2 h4 (sn_X k s a) (sn_X k s b) (sn_X k s c) (by simpa using h)
  · exact pe_bad
theorem sn_P (k : KnOk n T ct W X) (s : Snd n T v) : ∀ e : Option Expr, PO X e (tP n W (aP ct v.e e))
  | none => bp_none
  | some e => bp_some (sn_X k s e)
theorem plain_ix {b : Expr} (h : isSlice b = false) : PlainIx b := fun o i => by
  cases b <;> first | rfl | cases h
theorem sn_su (k : KnOk n T ct W X) (s : Snd n T v) {a b : Expr} {pos : Pos} : PE X (.Subscript a b pos) (tO n W (suE ct v.e a b)) := by
  unfold suE
  split
  · rename_i lo hi p2
    split
    · split
      · rename_i i h
        obtain ⟨h1, h2, h3, h4⟩ := ix_vis k h
        exact be_slN h1 h2 h3 h4 (sn_P k s lo) (sn_P k s hi) k.K
      · exact pe_bad
    · exact be_sl (sn_X k s _) (sn_P k s lo) (sn_P k s hi) k.K
  · rename_i z j p2
    split
    · split
      · rename_i i h
        obtain ⟨h1, h2, h3, h4⟩ := ix_vis k h
        exact be_dgN k.g.un h1 h2 h3 h4
      · exact pe_bad
    · exact pe_bad
  · split
    · exact pe_bad
    · rename_i h
      have hp : PlainIx b := plain_ix (by simpa using h)
      split
      · split
        · rename_i i h
          obtain ⟨h1, h2, h3, h4⟩ := ix_vis k h
          exact be_ixN k.g.un h1 h2 h3 h4 (sn_X k s b) hp k.K
        · exact pe_bad
      · exact be_ix k.g.un (sn_X k s _) (sn_X k s b) hp k.K
theorem kyE_ok : ∀ {keys : List (Option Expr)} {ks : List (Str × Nat × Pos)}, kyE keys = some ks → keys = ks.map fun k => some (.Constant (.str k.1) k.2.1 k.2.2)
  | [], ks, h => by cases h; rfl
  | k :: keys, ks, h => by
    unfold kyE at h
    split at h
    · rename_i e; cases e
    · rename_i z j p keys' e
      cases e
      cases q : kyE keys with
      | none => rw [q] at h; cases h
      | some ks' =>
        rw [q] at h; cases h
        rw [List.map_cons, ← kyE_ok q]
    · cases h
theorem sn_di (k : KnOk n T ct W X) (s : Snd n T v) {keys : List (Option Expr)} {es : List Expr} {pos : Pos} : PE X (.Dict keys es pos) (tO n W (diE ct v.e keys es)) := by
  unfold diE
  split
  · rename_i ks h
    split
    · rename_i hc
      simp only [Bool.and_eq_true, decide_eq_true_eq] at hc
      obtain ⟨⟨⟨h1, h2⟩, h3⟩, h4⟩ := hc
      rw [kyE_ok h]
      exact be_disp (sn_X k s) h1 h2 h3 h4
    · exact pe_bad
  · exact pe_bad
end
end Bv

/-! the interpreter tells what the text does: calls, comprehensions, tests -/
namespace Bv
open PySem PySem.Spec PyProof.Rows L2
section
variable {n : Nm} {W : WX} {X : Cx} {T : Tb} {ct : Ct} {v : Iv}
/-- a class's name -/
theorem sn_cls {x : Str} {p : Pos} (k : KnOk n T ct W X) (h1 : ct.gl x = true) (h2 : T.ty x = true) : ∃ cv, PE X (.Name x p) (tC cv) ∧ ClsV cv (uOf n x) := by
  obtain ⟨hd, hn, ⟨C, hC, hm⟩ | ⟨s, hC, hm, hb⟩⟩ := k.g.ty x h2
  · refine ⟨.ref C, pe_glob (gl_ok k h1) hm rfl hd, ?_⟩
    unfold uOf
    rw [hC]
    exact .own C
  · refine ⟨.ty s, pe_bltn (gl_ok k h1) hm hb rfl hn hd, ?_⟩
    unfold uOf
    rw [hC, hb]
    exact .ty s
theorem sn_tyN (k : KnOk n T ct W X) : ∀ {cs : List Expr} {xs : List Str}, tyNames T ct cs = some xs → ∃ cvs, PA X cs (fun _ H Q => Q cvs H) ∧ Paired ClsV cvs (xs.map (uOf n)) ∧ cvs.length = xs.length
  | [], xs, h => by
    cases h
    exact ⟨[], pa_nil, .nil, rfl⟩
  | e :: es, xs, h => by
    unfold tyNames at h
    split at h
    · rename_i e2; cases e2
    · rename_i c p es' e2
      cases e2
      split at h
      · rename_i hc
        simp only [Bool.and_eq_true] at hc
        cases q : tyNames T ct es with
        | none => rw [q] at h; cases h
        | some ys =>
          rw [q] at h; cases h
          obtain ⟨cv, h1, h2⟩ := sn_cls (p := p) k hc.1 hc.2
          obtain ⟨cvs, h3, h4, h5⟩ := sn_tyN k q
          exact ⟨cv :: cvs, pa_cons h1 h3 rfl, .cons h2 h4, by rw [List.length_cons, List.length_cons, h5]⟩
      · cases h
    · cases h
theorem sn_is (k : KnOk n T ct W X) (s : Snd n T v) {e c : Expr} {p pos : Pos} (hg : Gl X "isinstance") (hm : X.mg "isinstance" = none) (hst : isStar e = false) : PE X (.Call (.Name "isinstance" p) [e, c] [] pos) (tO n W (isE T ct v.e e c)) := by
  unfold isE
  split
  · rename_i x px
    split
    · rename_i h
      simp only [Bool.and_eq_true] at h
      obtain ⟨cv, h1, h2⟩ := sn_cls (p := px) k h.1 h.2
      exact be_isi k.g.hA k.K (sn_W k s e) h1 h2 (k.g.isi [x]) hg hm (star_cons hst) rfl rfl
    · exact pe_bad
  · split
    · rename_i cs kk pp xs q
      split
      · rename_i hl
        obtain ⟨cvs, h1, h2, h3⟩ := sn_tyN k q
        exact be_isiT k.g.hA k.K (sn_W k s e) h1 h2 (by rw [h3, lineN_eq]; exact hl) (k.g.isi xs) hg hm (star_cons hst)
      · exact pe_bad
    · exact pe_bad
  · exact pe_bad
theorem biTab_mem {x : Str} {b : Bi} (h : biTab.lookup x = some b) : (x, b) ∈ biTab := mem_of_lookup h
theorem rgA_ok {e a : Expr} (h : rgA ct e = some a) : ∃ p2 pos2, e = .Call (.Name "range" p2) [a] [] pos2 ∧ ct.gl "range" = true ∧ isStar a = false := by
  unfold rgA at h
  split at h
  · rename_i x p a' pos
    split at h
    · rename_i hc
      simp only [Bool.and_eq_true, decide_eq_true_eq, Bool.not_eq_true'] at hc
      obtain ⟨⟨rfl, h1⟩, h2⟩ := hc
      cases h
      exact ⟨_, _, rfl, h1, h2⟩
    · cases h
  · cases h
theorem rgA2_ok {e a b : Expr} (h : rgA2 ct e = some (a, b)) : ∃ p2 pos2, e = .Call (.Name "range" p2) [a, b] [] pos2 ∧ ct.gl "range" = true ∧ isStar a = false ∧ isStar b = false := by
  unfold rgA2 at h
  split at h
  · rename_i x p a' b' pos
    split at h
    · rename_i hc
      simp only [Bool.and_eq_true, decide_eq_true_eq, Bool.not_eq_true'] at hc
      obtain ⟨⟨⟨rfl, h1⟩, h2⟩, h3⟩ := hc
      cases h
      exact ⟨_, _, rfl, h1, h2, h3⟩
    · cases h
  · cases h
theorem sn_bi (k : KnOk n T ct W X) (s : Snd n T v) {x : Str} {b : Bi} {es : List Expr} {p pos : Pos} (h : biTab.lookup x = some b) (hg : Gl X x) (hs : es.all (fun e => !isStar e) = true) : PE X (.Call (.Name x p) es [] pos) (tO n W (biE T ct v.e b es)) := by
  have hx := biTab_mem h
  have hm : X.mg x = none := k.g.bi _ hx
  unfold biE
  split
  · rename_i e
    obtain rfl : x = "len" := by simpa [biTab] using hx
    exact be_callB1 call_lenA (by rw [k.K]; exact calls_len) hg hm boot_len (sn_W k s e) (by decide) (by decide) (star_cons (by simpa using hs))
  · rename_i e
    obtain rfl : x = "int" := by simpa [biTab] using hx
    exact be_callTy1 call_int1 calls_int hg hm PyProof.Rows.boot_int (sn_W k s e) (by decide) (by decide) (star_cons (by simpa using hs))
  · rename_i e
    obtain rfl : x = "abs" := by simpa [biTab] using hx
    exact be_callB1 call_abs calls_abs hg hm boot_abs (sn_W k s e) (by decide) (by decide) (star_cons (by simpa using hs))
  · rename_i e
    obtain rfl : x = "sum" := by simpa [biTab] using hx
    exact be_callB1 (CallR.or (cr_sum k.calm) (cr_sumT k.calm)) (by rw [k.K]; exact calls_sum2) hg hm boot_sum (sn_W k s e) (by decide) (by decide) (star_cons (by simpa using hs))
  · rename_i e
    obtain rfl : x = "max" := by simpa [biTab] using hx
    exact be_callB1 (CallR.or (cr_max k.calm) (cr_maxT k.calm)) (by rw [k.K]; exact calls_max2W) hg hm boot_max (sn_W k s e) (by decide) (by decide) (star_cons (by simpa using hs))
  · rename_i e
    obtain rfl : x = "min" := by simpa [biTab] using hx
    exact be_callB1 (CallR.or (cr_min k.calm) (cr_minT k.calm)) (by rw [k.K]; exact calls_min2W) hg hm boot_min (sn_W k s e) (by decide) (by decide) (star_cons (by simpa using hs))
  · rename_i a c
    obtain rfl : x = "max" := by simpa [biTab] using hx
    simp only [List.all_cons, Bool.and_eq_true, Bool.not_eq_true'] at hs
    exact be_callB (call_max2 k.calm) calls_max2 hg hm boot_max (sn_L k s [a, c]) (by decide) (by decide) (star_cons hs.1) (star_none (by simp [hs.2.1]))
  · rename_i a c
    obtain rfl : x = "min" := by simpa [biTab] using hx
    simp only [List.all_cons, Bool.and_eq_true, Bool.not_eq_true'] at hs
    exact be_callB (call_min2 k.calm) calls_min2 hg hm boot_min (sn_L k s [a, c]) (by decide) (by decide) (star_cons hs.1) (star_none (by simp [hs.2.1]))
  · rename_i e
    obtain rfl : x = "any" := by simpa [biTab] using hx
    exact be_callB1 (cr_any k.calm) (by rw [k.K]; exact calls_any) hg hm boot_any (sn_W k s e) (by decide) (by decide) (star_cons (by simpa using hs))
  · rename_i e
    obtain rfl : x = "all" := by simpa [biTab] using hx
    exact be_callB1 (cr_all k.calm) (by rw [k.K]; exact calls_all) hg hm boot_all (sn_W k s e) (by decide) (by decide) (star_cons (by simpa using hs))
  · rename_i e
    obtain rfl : x = "sorted" := by simpa [biTab] using hx
    exact be_callB1 (cr_sort3 k.calm (by have := k.g.un; omega)) (by rw [k.K]; exact calls_sorted2) hg hm boot_sorted (sn_W k s e) (by decide) (by decide) (star_cons (by simpa using hs))
  · rename_i e
    obtain rfl : x = "tuple" := by simpa [biTab] using hx
    split
    · rename_i a ha
      obtain ⟨p2, pos2, rfl, g1, g2⟩ := rgA_ok ha
      exact be_tupRg k.calm hg hm (gl_ok k g1) k.g.rg (sn_X k s a) (star_cons g2)
    split
    · rename_i a b ha
      obtain ⟨p2, pos2, rfl, g1, g2, g3⟩ := rgA2_ok ha
      exact be_tupRg2 k.calm hg hm (gl_ok k g1) k.g.rg (sn_X k s a) (sn_X k s b) (star_cons g2) (star_cons g3) (star_none (by simp [g3]))
    exact be_callTy1 call_tuple_of (by rw [k.K]; exact calls_tuple) hg hm PyProof.Rows.boot_tuple (sn_W k s e) (by decide) (by decide) (star_cons (by simpa using hs))
  · rename_i e
    obtain rfl : x = "list" := by simpa [biTab] using hx
    split
    · rename_i a ha
      obtain ⟨p2, pos2, rfl, g1, g2⟩ := rgA_ok ha
      exact be_lstRg k.calm hg hm (gl_ok k g1) k.g.rg (sn_X k s a) (star_cons g2)
    split
    · rename_i a b ha
      obtain ⟨p2, pos2, rfl, g1, g2, g3⟩ := rgA2_ok ha
      exact be_lstRg2 k.calm hg hm (gl_ok k g1) k.g.rg (sn_X k s a) (sn_X k s b) (star_cons g2) (star_cons g3) (star_none (by simp [g3]))
    exact be_callTy1 call_list_of (by rw [k.K]; exact calls_list) hg hm PyProof.Rows.boot_list (sn_W k s e) (by decide) (by decide) (star_cons (by simpa using hs))
  · rename_i e c
    obtain rfl : x = "isinstance" := by simpa [biTab] using hx
    simp only [List.all_cons, Bool.and_eq_true, Bool.not_eq_true'] at hs
    exact sn_is k s hg hm hs.1
  · rename_i e
    obtain rfl : x = "str" := by simpa [biTab] using hx
    exact be_callTy1 call_str_int calls_strI hg hm PyProof.Rows.boot_str (sn_W k s e) (by decide) (by decide) (star_cons (by simpa using hs))
  · exact pe_bad
theorem few1 {e : Expr} {env : Env} {cpos : Pos} (h : isStar e = false) : ((backTo cpos (starEach (e :: []) env)).all (fun x => !x.1) && (backToKw cpos (keywordEach [] env)).all (fun x => x.1.isSome) && decide ((e :: []).length + ([] : List Keyword).length + (if ([] : List Keyword).isEmpty then 0 else 1) < 30)) = true := by
  rw [star_cons h]
  rfl
theorem sn_me (k : KnOk n T ct W X) (s : Snd n T v) {o e : Expr} {m : Str} {apos pos : Pos} (h1 : isStar e = false) (h2 : (apos.endLine == pos.line) = true) : PE X (.Call (.Attribute o m apos) [e] [] pos) (tO n W (meE ct v.e o m e)) := by
  unfold meE
  split
  · rename_i hm
    obtain rfl : m = "append" := by simpa [meTab] using mem_of_lookup hm
    split
    · split
      · rename_i i hi
        obtain ⟨g1, g2, g3, g4⟩ := ix_vis k hi
        exact be_append g1 g2 g3 g4 (sn_X k s e) (few1 h1) h2 (star_cons h1)
      · exact pe_bad
    · exact pe_bad
  · rename_i hm
    obtain rfl : m = "extend" := by simpa [meTab] using mem_of_lookup hm
    split
    · split
      · rename_i i hi
        obtain ⟨g1, g2, g3, g4⟩ := ix_vis k hi
        exact be_extend g1 g2 g3 g4 (sn_X k s e) (few1 h1) h2 (star_cons h1)
      · exact pe_bad
    · exact pe_bad
  · rename_i hm
    obtain rfl : m = "index" := by simpa [meTab] using mem_of_lookup hm
    split
    · rename_i ho
      exact be_index k.g.un k.K (sn_X k s o) (sn_X k s e) (by cases o <;> first | rfl | cases ho) (few1 h1) h2 (star_cons h1)
    · exact pe_bad
  · rename_i hm
    obtain rfl : m = "join" := by simpa [meTab] using mem_of_lookup hm
    split
    · rename_i ho
      exact be_join k.K (sn_X k s o) (sn_X k s e) (star_cons h1) (by cases o <;> first | rfl | cases ho) h2
    · exact pe_bad
  · exact pe_bad
theorem ixs_ok (k : KnOk n T ct W X) : ∀ {es : List Expr} {is : List Nat}, ixs ct es = some is → NamesAt X es is
  | [], is, h => by cases h; exact .nil
  | e :: es, is, h => by
    unfold ixs at h
    split at h
    · rename_i e2; cases e2
    · rename_i x p es' e2
      cases e2
      split at h
      · rename_i i is' h1 h2
        cases h
        obtain ⟨g1, g2, g3, g4⟩ := ix_vis k h1
        exact .cons g1 g2 g3 g4 (ixs_ok k h2)
      · cases h
    · cases h
theorem sn_ca (k : KnOk n T ct W X) (s : Snd n T v) {f : Expr} {args : List Expr} {pos : Pos} : PE X (.Call f args [] pos) (tO n W (caE T ct v.e f args pos)) := by
  unfold caE
  split
  · rename_i x p e es
    split
    · rename_i h
      rw [Bool.and_eq_true] at h
      obtain ⟨h1, h2⟩ := h
      have h3 : isStar e = false := by simp only [List.all_cons, Bool.and_eq_true, Bool.not_eq_true'] at h2; exact h2.1
      have h4 : es.all (fun e => !isStar e) = true := by simp only [List.all_cons, Bool.and_eq_true] at h2; exact h2.2
      split
      · rename_i b hb
        exact sn_bi k s hb (gl_ok k h1) h2
      · split
        · rename_i m f hf
          obtain ⟨hd, j, a, fd, ps, F, hr, hm, hk, hb⟩ := k.g.fn _ _ _ hf
          split
          · split
            · rename_i is hi
              exact be_br k.tk F hr (gl_ok k h1) hm hk hb (ixs_ok k hi) hd (star_cons h3) (star_none h4)
            · exact pe_bad
          exact be_call k.tk F hr (gl_ok k h1) hm hk hb (sn_L k s (e :: es)) hd (star_cons h3) (star_none h4)
        · split
          · rename_i m f hf
            obtain ⟨hd, j, a, C, fd, ps, MK, F, hr, hC, hm, hb⟩ := k.g.cl _ _ _ hf
            exact be_make k.tk k.hW MK F hr hC (gl_ok k h1) hm hb (sn_L k s (e :: es)) hd (star_cons h3) (star_none h4)
          · split
            · rename_i hgc
              rw [Bool.and_eq_true] at hgc
              have hx : x = "gcd" := by have := hgc.2; unfold isGcd at this; exact of_decide_eq_true this
              subst hx
              exact be_gcd (gl_ok k h1) (k.g.gc hgc.1) (sn_L k s (e :: es)) (by decide) (star_cons h3) (star_none h4)
            · exact pe_bad
    · exact pe_bad
  · rename_i o m apos e
    split
    · rename_i h
      simp only [Bool.and_eq_true, Bool.not_eq_true'] at h
      exact sn_me k s h.1 h.2
    · exact pe_bad
  · exact pe_bad
theorem sn_it (k : KnOk n T ct W X) (s : Snd n T v) {tg e : Expr} : PI X tg e (tI n W (itE ct v.e tg e)) := by
  unfold itE
  split
  · rename_i x p args pos
    split
    · rename_i h
      rw [Bool.and_eq_true] at h
      obtain ⟨h1, h3⟩ := h
      split
      · rename_i hw
        obtain rfl : x = "range" := by simpa [wlTab] using mem_of_lookup hw
        split
        · rename_i a
          exact bi_range1 (gl_ok k h1) k.g.rg (sn_L k s [a]) (star_cons (by simpa using h3))
        · rename_i a b
          simp only [List.all_cons, Bool.and_eq_true, Bool.not_eq_true'] at h3
          exact bi_range2 (gl_ok k h1) k.g.rg (sn_L k s [a, b]) (by rw [star_cons h3.1, star_cons h3.2.1]; rfl) (by rw [star_cons h3.2.1]; rfl)
        · rename_i a b c
          simp only [List.all_cons, Bool.and_eq_true, Bool.not_eq_true'] at h3
          exact bi_range3 (gl_ok k h1) k.g.rg (sn_L k s [a, b, c]) (star_cons h3.1) (star_none (by simp [h3.2.1, h3.2.2.1]))
        · exact pi_bad
      · rename_i hw
        obtain rfl : x = "enumerate" := by simpa [wlTab] using mem_of_lookup hw
        split
        · rename_i a
          split
          · rename_i ht
            cases tg with
            | Tuple elts kk tpos => exact bi_enum k.K (gl_ok k h1) k.g.en (sn_L k s [a]) (star_cons (by simpa using h3))
            | _ => cases ht
          · exact pi_bad
        · exact pi_bad
      · rename_i hw
        obtain rfl : x = "zip" := by simpa [wlTab] using mem_of_lookup hw
        split
        · rename_i a b
          simp only [List.all_cons, Bool.and_eq_true, Bool.not_eq_true'] at h3
          split
          · rename_i ht
            cases tg with
            | Tuple elts kk tpos => exact bi_zip k.K (gl_ok k h1) k.g.zp (sn_L k s [a, b]) (star_cons h3.1) (star_none (by simp [h3.2.1]))
            | _ => cases ht
          · exact pi_bad
        · exact pi_bad
      · exact bi_seq (sn_X k s _) k.K
    · exact bi_seq (sn_X k s _) k.K
  · exact bi_seq (sn_X k s _) k.K
theorem as_len {env : Env} : ∀ es : List Expr, (assignEach es env).length = es.length
  | [] => rfl
  | e :: es => by
    cases e <;> (show _ + 1 = _ + 1; rw [as_len es])
theorem as_find {env : Env} : ∀ {es : List Expr}, es.all (fun e => !isStar e) = true → (assignEach es env).findIdx? (·.1) = none := fun {es} h => by
  rw [List.findIdx?_eq_none_iff]
  induction es with
  | nil => intro x hx; cases hx
  | cons e es ih =>
    simp only [List.all_cons, Bool.and_eq_true, Bool.not_eq_true'] at h
    intro x hx
    have : assignEach (e :: es) env = (false, assign e env) :: assignEach es env := by
      cases e <;> first | rfl | cases h.1
    rw [this] at hx
    rcases List.mem_cons.mp hx with rfl | hx
    · rfl
    · exact ih h.2 x hx
theorem as_cons {e : Expr} {es : List Expr} {env : Env} (h : isStar e = false) : (assignEach (e :: es) env).map (·.2) = assign e env :: (assignEach es env).map (·.2) := by
  cases e <;> first | rfl | cases h
theorem tg_raw {x : Str} {i : Nat} (k : KnOk n T ct W X) (h : ct.tg x = some i) : X.N[i]? = some x ∧ Loc X.env.scope x ∧ (X.fn x = true ∨ X.env.scope.names.lookup x = some .local) := by
  unfold Ct.tg at h
  split at h
  · rename_i hc
    have h1 : X.N[i]? = some x := by rw [k.N]; exact ixIn_get h
    rw [Bool.or_eq_true, Bool.and_eq_true] at hc
    rcases hc with hc | ⟨hc, hf⟩
    · unfold Ct.lo at hc
      split at hc
      · rename_i e
        exact ⟨h1, .inl (by rw [k.sc]; exact e), .inr (by rw [k.sc]; exact e)⟩
      · cases hc
    · unfold Ct.ce at hc
      split at hc
      · rename_i e
        exact ⟨h1, .inr (by rw [k.sc]; exact e), .inl (by rw [k.fn]; exact hf)⟩
      · cases hc
  · cases h
theorem tg_ok {x : Str} {i : Nat} {p : Pos} (k : KnOk n T ct W X) (h : ct.tg x = some i) : PG X (.Name x p) (tG n [i] (asN i)) := by
  unfold Ct.tg at h
  split at h
  · rename_i hc
    have h1 : X.N[i]? = some x := by rw [k.N]; exact ixIn_get h
    rw [Bool.or_eq_true, Bool.and_eq_true] at hc
    rcases hc with hc | ⟨hc, hf⟩
    · unfold Ct.lo at hc
      split at hc
      · rename_i e
        exact bg_name k.nd h1 (.inl (by rw [k.sc]; exact e)) (.inr (by rw [k.sc]; exact e))
      · cases hc
    · unfold Ct.ce at hc
      split at hc
      · rename_i e
        exact bg_name k.nd h1 (.inr (by rw [k.sc]; exact e)) (.inl (by rw [k.fn]; exact hf))
      · cases hc
  · cases h
theorem sn_ag : ∀ (j : Nat) {ct : Ct} {W : WX} {X : Cx}, KnOk n T ct W X → ∀ e : Expr, PG X e (tG n (agE j ct e).2 (agE j ct e).1)
  | 0, _, _, _, _, _ => pg_bad
  | j + 1, ct, W, X, k, e => by
    unfold agE
    split
    · split
      · rename_i i h
        exact tg_ok k h
      · exact pg_bad
    · rename_i es kk pos
      split
      · rename_i h
        refine bg_tup k.calm k.K (by rw [as_len, List.length_map]) (as_find h) ?_
        clear kk pos
        induction es with
        | nil => exact bgs_nil
        | cons e es ih =>
          simp only [List.all_cons, Bool.and_eq_true, Bool.not_eq_true'] at h
          exact bgs_cons (sn_ag j k e) (ih h.2) (as_cons h.1)
      · exact pg_bad
    · exact pg_bad
theorem sn_ts (k : KnOk n T ct W X) (s : Snd n T v) : ∀ ifs : List Expr, PTs X ifs (tT n W (tsE ct v.t ifs))
  | [] => bts_nil
  | [c] => pts_one (s.t k c)
  | _ :: _ :: _ => ⟨fun pins s σ H Q I ⟨c, _, _, _, o⟩ => o.elim⟩
theorem KnOk.blk (k : KnOk n T ct W X) (s : Shared) (H : Hp) (scope : Scope) (cl : List (Str × Addr)) (C : Addr) (fp : List Addr) : KnOk n T (ct.blk scope) WF (X.blk s H scope (compEnvC scope cl C X.env) fp) where
  g := k.g
  N := k.N
  nd := k.nd
  sc := by
    show relS scope X.env.scope = relS scope ct.sc
    rw [k.sc]
  fn := rfl
  calm := k.calm
  K := k.K
  tk := takes0
  hW := fun _ _ _ _ _ h => h
  nm := k.nm
  co := k.co
theorem set_id {e : Expr} {env : Env} (h : isSet e = false) : ∀ x, foldedSetIterable e env x = pure x := fun x => by
  cases e <;> first | rfl | cases h
theorem sn_lc (k : KnOk n T ct W X) (s : Snd n T v) {elt tg iter : Expr} {ifs : List Expr} {scope : Scope} {pos : Pos} : PE X (.ListComp elt [⟨tg, iter, ifs, 0⟩] scope pos) (tO n W (lcE ct v.e v.t elt tg iter ifs scope)) := by
  unfold lcE
  split
  · rename_i h
    simp only [Bool.and_eq_true, Bool.not_eq_true', List.all_eq_true, decide_eq_true_eq] at h
    obtain ⟨⟨h1, h2⟩, h3⟩ := h
    exact be_lc k.calm k.nd (sn_it k s) (by rw [k.N, k.sc]; exact blkOk_by h1) h3 (fun s' H C cl fp => sn_ag 3 (k.blk s' H scope cl C fp) tg) (fun s' H C cl fp => sn_ts (k.blk s' H scope cl C fp) s ifs) (fun s' H C cl fp => sn_X (k.blk s' H scope cl C fp) s elt) (set_id h2)
  · exact pe_bad
theorem sn_lc2 (k : KnOk n T ct W X) (s : Snd n T v) {elt tg iter tg1 iter1 : Expr} {ifs ifs1 : List Expr} {scope : Scope} {pos : Pos} : PE X (.ListComp elt [⟨tg, iter, ifs, 0⟩, ⟨tg1, iter1, ifs1, 0⟩] scope pos) (tO n W (lcE2 ct v.e v.t elt tg iter ifs tg1 iter1 ifs1 scope)) := by
  unfold lcE2
  split
  · rename_i h
    simp only [Bool.and_eq_true, Bool.not_eq_true', List.all_eq_true, decide_eq_true_eq] at h
    obtain ⟨⟨⟨⟨h1, h2⟩, h2'⟩, h3⟩, h4⟩ := h
    exact be_lc2 k.calm k.nd (sn_it k s) (by rw [k.N, k.sc]; exact blkOk_by h1) h3 h4 (fun s' H C cl fp => sn_ag 3 (k.blk s' H scope cl C fp) tg) (fun s' H C cl fp => sn_ts (k.blk s' H scope cl C fp) s ifs) (fun s' H C cl fp => sn_it (k.blk s' H scope cl C fp) s) (fun s' H C cl fp => sn_ag 3 (k.blk s' H scope cl C fp) tg1) (fun s' H C cl fp => sn_ts (k.blk s' H scope cl C fp) s ifs1) (fun s' H C cl fp => sn_X (k.blk s' H scope cl C fp) s elt) (set_id h2) (fun env => set_id h2')
  · exact pe_bad
theorem sn_dc (k : KnOk n T ct W X) (s : Snd n T v) {kx vx tg iter : Expr} {ifs : List Expr} {scope : Scope} {pos : Pos} : PE X (.DictComp kx vx [⟨tg, iter, ifs, 0⟩] scope pos) (tO n W (dcE ct v.e v.t kx vx tg iter ifs scope)) := by
  unfold dcE
  split
  · rename_i h
    simp only [Bool.and_eq_true, Bool.not_eq_true', List.all_eq_true, decide_eq_true_eq] at h
    obtain ⟨⟨h1, h2⟩, h3⟩ := h
    exact be_dc2 k.g.un k.calm k.nd (sn_it k s) (by rw [k.N, k.sc]; exact blkOk_by h1) h3 (fun s' H C cl fp => sn_ag 3 (k.blk s' H scope cl C fp) tg) (fun s' H C cl fp => sn_ts (k.blk s' H scope cl C fp) s ifs) (fun s' H C cl fp => sn_X (k.blk s' H scope cl C fp) s kx) (fun s' H C cl fp => sn_X (k.blk s' H scope cl C fp) s vx) (set_id h2)
  · exact pe_bad
theorem at_base {e : Expr} {f : Str} {env : Env} (h : atOk e = true) : attributeBase e f env (eval e env) = eval e env := by
  cases e with
  | Call f args kw pos =>
    cases args with
    | nil => cases h
    | cons a as => cases f <;> rfl
  | _ => first | rfl | cases h
theorem sn_stE (k : KnOk n T ct W X) (s : Snd n T v) (e : Expr) : PE X e (tO n W (stE T ct v.e v.t e)) := by
  unfold stE
  split
  · exact be_o (sn_nmX k)
  · exact be_o sn_cn
  · rename_i a op b pos
    obtain ⟨r, h1, h2⟩ := sn_opB k op
    exact be_op h1 h2 (sn_X k s a) (sn_X k s b)
  · exact be_neg (sn_X k s _)
  · exact be_not (sn_X k s _) k.K
  · exact sn_bo k s _
  · exact sn_cm k s
  · exact be_if (s.t k _) (s.e k _) (s.e k _)
  · exact be_tup (sn_Ls k s _)
  · exact be_lst (sn_L k s _)
  · exact sn_su k s
  · rename_i a f pos
    split
    · rename_i h
      rw [Bool.and_eq_true] at h
      exact be_fld (sn_W k s a) (at_base h.2) (k.g.fld f h.1) k.K
    · exact pe_bad
  · exact sn_ca k s
  · rename_i x p a y j p2 kp pos
    split
    · rename_i h
      simp only [Bool.and_eq_true, decide_eq_true_eq, Bool.not_eq_true'] at h
      obtain ⟨⟨⟨h1, h2⟩, h3⟩, h4⟩ := h
      subst h1 h2
      exact be_sortR (gl_ok k h3) (k.g.bi _ (biTab_mem (x := "sorted") (b := .sorted) (by rfl))) k.K (sn_W k s a) (star_cons h4)
    · exact pe_bad
  · exact sn_lc k s
  · exact sn_lc2 k s
  · exact be_dnew
  · exact sn_di k s
  · exact sn_dc k s
  · exact pe_bad
/-! tests -/
theorem sn_boT (k : KnOk n T ct W X) (s : Snd n T v) {op : BoolOp} {pos : Pos} : ∀ es : List Expr, PW X (.BoolOp op es pos) (tT n W (boT ct v.t op es))
  | [] => pw_bad
  | [a] => by
    cases op
    · exact bw_and1 (s.t k a)
    · exact bw_or1 (s.t k a)
  | a :: b :: es => by
    unfold boT
    cases op
    · exact bw_and (s.t k a) (sn_boT k s (b :: es))
    · exact bw_or (s.t k a) (sn_boT k s (b :: es))
theorem sn_cmT (k : KnOk n T ct W X) (s : Snd n T v) {a : Expr} {ops : List CmpOp} {es : List Expr} {pos : Pos} : PT X (.Compare a ops es pos) (tT n W (cmT T ct v.e a ops es)) := by
  unfold cmT
  split
  · rename_i op b
    split
    · exact pt_bad
    · rename_i h
      split
      · rename_i q hq
        obtain ⟨x, p, rfl, g1, g2⟩ := inIx_ok k hq
        obtain ⟨v1, v2, v3, v4⟩ := ix_vis k g1
        exact bt_inN g2 v1 v2 v3 v4 (sn_X k s a) (by simpa using h)
      split
      · rename_i q hq
        obtain ⟨x, p, rfl, g1, g2⟩ := eqIx_ok k hq
        obtain ⟨v1, v2, v3, v4⟩ := ix_vis k g1
        exact bt_cmN g2 v1 v2 v3 v4 (sn_X k s b) (by simpa using h)
      obtain ⟨r, h1, h2⟩ := sn_opC2 k op
      exact bt_cmp h1 h2 (sn_X k s a) (sn_X k s b) (by simpa using h)
  · rename_i op op' b c
    split
    · exact pt_bad
    · rename_i h
      obtain ⟨r, h1, h2⟩ := sn_opC k op
      obtain ⟨r', h3, h4⟩ := sn_opC k op'
      exact bt_chain h1 h3 h2 h4 (sn_X k s a) (sn_X k s b) (sn_X k s c) (by simpa using h)
  · exact pt_bad
end
end Bv

/-! the interpreter tells what the text does: statements -/
namespace Bv
open PySem PySem.Spec PyProof.Rows L2
section
variable {n : Nm} {W : WX} {X : Cx} {T : Tb} {ct : Ct} {v : Iv}
theorem sn_stT (k : KnOk n T ct W X) (s : Snd n T v) (e : Expr) : PT X e (tT n W (stT T ct v.e v.t e)) := by
  unfold stT
  split
  · exact bt_not (s.t k _)
  · exact (sn_boT k s _).pt
  · exact sn_cmT k s
  · exact pt_bad
  · rename_i h1 h2 h3 h4
    refine bt_tru (sn_W k s e) (fun whole => ?_) k.K
    cases e with
    | UnaryOp op a p =>
      cases op with
      | Not => exact absurd rfl (h1 a p)
      | _ => rfl
    | BoolOp op es p => exact absurd rfl (h2 op es p)
    | Compare a ops es p => exact absurd rfl (h3 a ops es p)
    | IfExp a b c p => exact absurd rfl (h4 a b c p)
    | _ => rfl
theorem sn_iv : ∀ j : Nat, Snd n T (iv T j)
  | 0 => ⟨fun _ _ => pe_bad, fun _ _ => pt_bad⟩
  | j + 1 => ⟨fun k e => sn_stE k (sn_iv j) e, fun k e => sn_stT k (sn_iv j) e⟩
/-! what a block's scope alone tells -/
theorem swapsWith_env {e : Expr} {t : Option Expr} {l : Nat} {env env' : Env} (h : env.scope = env'.scope) : swapsWith e t l env = swapsWith e t l env' := by
  unfold swapsWith Env.blockKind Env.kindOf
  rw [h]
theorem swapsSole_env {ts : List Expr} {e : Expr} {l : Nat} {env env' : Env} (h : env.scope = env'.scope) : swapsWithSole ts e l env = swapsWithSole ts e l env' := by
  unfold swapsWithSole
  split
  · exact swapsWith_env h
  · rfl
theorem swapped_env {ts : List Expr} {e : Expr} {env env' : Env} (h : env.scope = env'.scope) : swappedStores ts e env = swappedStores ts e env' := by
  unfold swappedStores Env.blockKind Env.kindOf
  rw [h]
theorem swp_ok (k : KnOk n T ct W X) {tgs : List Expr} {e : Expr} {l : Nat} {b : Bool} (h : swp ct tgs e l = some b) : swapsWithSole tgs e l X.env = pure b := by
  rw [swapsSole_env (env' := ct.env) k.sc]
  unfold swp at h
  split at h
  · rename_i c q; cases h; exact q
  · cases h
theorem sws_ok (k : KnOk n T ct W X) {tgs : List Expr} {e : Expr} {b : Option (List Str)} (h : sws ct tgs e = some b) : swappedStores tgs e X.env = pure b := by
  rw [swapped_env (env' := ct.env) k.sc]
  unfold sws at h
  split at h
  · rename_i c q; cases h; exact q
  · cases h
theorem lo_ok {x : Str} (k : KnOk n T ct W X) (h : ct.lo x = true) : X.env.scope.names.lookup x = some .local := by
  rw [k.sc]
  unfold Ct.lo at h
  split at h
  · assumption
  · cases h
theorem exp_ok {e : Expr} {l : Nat} {env : Env} (h : isCmp e = false) : swapsWith e none l env = pure false := by
  cases e <;> first | rfl | cases h
theorem sn_asE (k : KnOk n T ct W X) (s : Snd n T v) {tg e : Expr} {pos : Pos} : PS X (.Assign [tg] e pos) (tS n W (asE T ct v tg e pos.line)) := by
  unfold asE
  split
  · rename_i x p1 f p2
    split
    · rename_i i h1 h2
      split
      · rename_i hf
        obtain ⟨g1, g2, g3, g4⟩ := ix_vis k h2
        exact bs_fld g1 g2 g3 g4 (sn_X k s e) (k.g.fld f hf) k.K (swp_ok k h1)
      · exact ps_bad
    · exact ps_bad
  · rename_i x p1 z j p2 p3
    split
    · rename_i i h1 h2
      obtain ⟨g1, g2, g3, g4⟩ := ix_vis k h2
      exact bs_dp k.g.un g1 g2 g3 g4 (sn_X k s e) (swp_ok k h1)
    · exact ps_bad
  · rename_i x p1 ke p2 _
    split
    · exact ps_bad
    · split
      · rename_i i h1 h2
        obtain ⟨g1, g2, g3, g4⟩ := ix_vis k h2
        exact bs_op k.g.un g1 g2 g3 g4 (sn_X k s e) (sn_X k s ke) (swp_ok k h1)
      · exact ps_bad
  · split
    · rename_i hsw
      split
      · rename_i y py elt tg iter ifs scope pp
        split
        · rename_i i h1 h2
          split
          · rename_i h
            simp only [Bool.and_eq_true, Bool.not_eq_true', List.all_eq_true, decide_eq_true_eq] at h
            obtain ⟨⟨g1, g2⟩, g3⟩ := h
            exact bs_setLc k.calm k.nd (by rw [k.N]; exact ixIn_get h2) (lo_ok k h1) (swp_ok k hsw) (sn_it k s) (by rw [k.N, k.sc]; exact blkOk_by g1) g3 (fun s' H C cl fp => sn_ag 3 (k.blk s' H _ cl C fp) _) (fun s' H C cl fp => sn_ts (k.blk s' H _ cl C fp) s _) (fun s' H C cl fp => sn_X (k.blk s' H _ cl C fp) s _) (set_id g2)
          · exact ps_bad
        · exact ps_bad
      · rename_i y py kx vx tg iter ifs scope pp
        split
        · rename_i i h1 h2
          split
          · rename_i h
            simp only [Bool.and_eq_true, Bool.not_eq_true', List.all_eq_true, decide_eq_true_eq] at h
            obtain ⟨⟨g1, g2⟩, g3⟩ := h
            exact bs_setDc2 k.g.un k.calm k.nd (by rw [k.N]; exact ixIn_get h2) (lo_ok k h1) (swp_ok k hsw) (sn_it k s) (by rw [k.N, k.sc]; exact blkOk_by g1) g3 (fun s' H C cl fp => sn_ag 3 (k.blk s' H _ cl C fp) _) (fun s' H C cl fp => sn_ts (k.blk s' H _ cl C fp) s _) (fun s' H C cl fp => sn_X (k.blk s' H _ cl C fp) s _) (fun s' H C cl fp => sn_X (k.blk s' H _ cl C fp) s _) (set_id g2)
          · exact ps_bad
        · exact ps_bad
      · exact ps_bad
    · rename_i hsw
      split
      · rename_i hss
        split
        · exact ps_bad
        · rename_i hst
          split
          · rename_i x px y py z pz kt pt a b c k2 pt2
            split
            · rename_i h
              simp only [Bool.and_eq_true, Bool.not_eq_true'] at h
              obtain ⟨⟨⟨_, g1⟩, g2⟩, g3⟩ := h
              split
              · rename_i i j l h1 h2 h3
                obtain ⟨x1, x2, x3⟩ := tg_raw k h1
                obtain ⟨y1, y2, y3⟩ := tg_raw k h2
                obtain ⟨z1, z2, z3⟩ := tg_raw k h3
                exact bs_tpl3 k.calm k.nd x1 y1 z1 x2 y2 z2 x3 y3 z3 (be_fz (s.e k _)) (be_fz (s.e k _)) (be_fz (s.e k _)) (star_cons g1) (star_cons g2) (star_cons g3) (sws_ok k hss) (swp_ok k hsw)
              · exact ps_bad
            · exact bs_asg (be_fz (s.e k _)) (sn_ag 3 k _) (swp_ok k hsw) (sws_ok k hss) (as_cons (es := []) (by simpa using hst))
          · rename_i x px y py kt pt a b k2 pt2
            split
            · rename_i h
              simp only [Bool.and_eq_true, Bool.not_eq_true'] at h
              obtain ⟨⟨_, g1⟩, g2⟩ := h
              split
              · rename_i i j h1 h2
                obtain ⟨x1, x2, x3⟩ := tg_raw k h1
                obtain ⟨y1, y2, y3⟩ := tg_raw k h2
                exact bs_tpl2 k.calm k.nd x1 y1 x2 y2 x3 y3 (be_fz (s.e k _)) (be_fz (s.e k _)) (star_cons g1) (star_cons g2) (sws_ok k hss) (swp_ok k hsw)
              · exact ps_bad
            · exact bs_asg (be_fz (s.e k _)) (sn_ag 3 k _) (swp_ok k hsw) (sws_ok k hss) (as_cons (es := []) (by simpa using hst))
          · exact bs_asg (be_fz (s.e k e)) (sn_ag 3 k tg) (swp_ok k hsw) (sws_ok k hss) (as_cons (es := []) (by simpa using hst))
      · split
        · rename_i x px y py kt pt a b k2 pt2
          split
          · rename_i i j h1 h2
            split
            · rename_i h
              simp only [Bool.and_eq_true, Bool.not_eq_true', decide_eq_true_eq] at h
              obtain ⟨⟨⟨⟨⟨g1, g2⟩, g3⟩, g4⟩, g5⟩, g6⟩ := h
              exact bs_par k.calm k.nd (by rw [k.N]; exact ixIn_get h1) (by rw [k.N]; exact ixIn_get h2) g6 (lo_ok k g2) (lo_ok k g3) (be_fz (s.e k _)) (be_fz (s.e k _)) (star_cons g4) (star_cons g5) (sws_ok k g1) (swp_ok k hsw)
            · exact ps_bad
          · exact ps_bad
        · rename_i x px y py z pz kt pt a b c k2 pt2
          split
          · rename_i i j l h1 h2 h3
            split
            · rename_i h
              simp only [Bool.and_eq_true, Bool.not_eq_true', decide_eq_true_eq] at h
              obtain ⟨⟨⟨⟨⟨⟨⟨⟨⟨g1, g2⟩, g3⟩, g4⟩, g5⟩, g6⟩, g7⟩, g8⟩, g9⟩, g10⟩ := h
              exact bs_par3 k.calm k.nd (by rw [k.N]; exact ixIn_get h1) (by rw [k.N]; exact ixIn_get h2) (by rw [k.N]; exact ixIn_get h3) g8 g9 g10 (lo_ok k g2) (lo_ok k g3) (lo_ok k g4) (be_fz (s.e k _)) (be_fz (s.e k _)) (be_fz (s.e k _)) (star_cons g5) (star_cons g6) (star_cons g7) (sws_ok k g1) (swp_ok k hsw)
            · exact ps_bad
          · exact ps_bad
        · exact ps_bad
      · exact ps_bad
    · exact ps_bad
theorem sn_re (k : KnOk n T ct W X) (s : Snd n T v) {e : Expr} {pos : Pos} : PS X (.Return (some e) pos) (tS n W (reE ct v e)) := by
  unfold reE
  split
  · rename_i x p
    split
    · rename_i i h
      obtain ⟨h1, h2, h3, h4⟩ := ix_vis k h
      exact bs_ret (be_mv h1 h2 h3 h4)
    · exact ps_bad
  · exact bs_ret (s.e k _)
theorem sn_bl {g : Stmt → MS} (h : ∀ s, PS X s (tS n W (g s))) : ∀ ss : List Stmt, PSs X ss (tS n W (blS g ss))
  | [] => bss_nil
  | s :: ss => bss_cons (h s) (sn_bl h ss)
theorem sn_stG (k : KnOk n T ct W X) (hp : PassesOwn (model X.prog X.w) X.A X.env X.xe) (s : Snd n T v) {g : Stmt → MS} (h : ∀ s, PS X s (tS n W (g s))) (st : Stmt) : PS X st (tS n W (stG T ct v g st)) := by
  unfold stG
  split
  · exact bs_pass
  · exact bs_break
  · exact bs_continue
  · split
    · exact ps_bad
    · rename_i hc
      exact bs_expr (s.e k _) (exp_ok (by simpa using hc))
  · exact bs_retN
  · exact sn_re k s
  · exact sn_asE k s
  · exact bs_if (s.t k _) (sn_bl h _) (sn_bl h _)
  · split
    · exact ps_bad
    · rename_i hc
      exact bs_for hp k.calm (sn_it k s) (sn_ag 3 k _) (sn_bl h _) (set_id (by simpa using hc))
  · exact bs_while T.turns hp (s.t k _) (sn_bl h _)
  · exact ps_bad
theorem sn_ivS (k : KnOk n T ct W X) (hp : PassesOwn (model X.prog X.w) X.A X.env X.xe) : ∀ (j : Nat) (st : Stmt), PS X st (tS n W (ivS T j ct st))
  | 0, _ => ps_bad
  | j + 1, st => sn_stG k hp (sn_iv 30) (sn_ivS k hp j) st
theorem sn_body (k : KnOk n T ct W X) (hp : PassesOwn (model X.prog X.w) X.A X.env X.xe) (ss : List Stmt) : PSs X ss (tS n W (bodyS T ct ss)) := sn_bl (sn_ivS k hp 20) ss
end
/-! ### defs -/
section
variable {n : Nm} {T : Tb} {P : Program} {w : World} {K : PySem.W.Frag} {mg : Str → Option Value} {base : Heap}
def defCt (T : Tb) (N u : List Str) (st : Stmt) : Ct := ⟨N, defScope st, fun _ => true, fun x => decide (x ∈ u), T.co⟩
/-- a def by value -/
def defF (T : Tb) (N u : List Str) (st : Stmt) : FnS := runF N (bodyS T (defCt T N u st) (defBody st))
def defI (T : Tb) (N u : List Str) (cn : Str) (st : Stmt) : FnI := runI N cn (bodyS T (defCt T N u st) (defBody st))
theorem kn_def {qual : Str} {st : Stmt} {f : Addr} {cdv : Value} {A : Around} {outer : List Env} {s : Shared} {H : Hp} {E : XK} {N u : List Str}
    (g : Gk n T P w K mg base (A.deeper (envOfC qual (defScope st) s.heap.objs.size f cdv))) (hK : K = n.K) (hN : N.Nodup) (nm : ∀ x ∈ N, (x == ("__debug__" : Str)) = false ∧ (x == ("__classdict__" : Str)) = false) :
    KnOk n T (defCt T N u st) (fun cls d _ H => E cls d H) (cxOf (L2.CX P w) P w K mg base N qual (defScope st) f cdv A outer s H E) where
  g := g
  N := rfl
  nd := hN
  sc := rfl
  fn := rfl
  calm := rfl
  K := hK
  tk := takes_of rfl rfl rfl rfl
  hW := fun _ _ _ _ _ h => h
  nm := nm
  co := rfl
theorem def_ok {x qual : Str} {st : Stmt} {f : Addr} {fd : FuncData} {N u ps : List Str} {k : Nat} (F : Fun K x qual st f fd) (SC : FnScope N ps (defScope st)) (hK : K = n.K) (nm : ∀ x ∈ N, (x == ("__debug__" : Str)) = false ∧ (x == ("__classdict__" : Str)) = false)
    (g : ∀ A, Room k A → Gk n T P w K mg base A) : FnOk P w K mg base (L2.CX P w) (k + 1) f fd ps (spB n ps.length (defF T N u st)) :=
  fn_body F SC fun cdv A outer s H E hr => sn_body (kn_def (g _ hr) hK SC.nd nm) (passes_of rfl) (defBody st)
theorem ini_ok {x qual cn : Str} {st : Stmt} {f : Addr} {fd : FuncData} {N u ps : List Str} {k : Nat} (m : Nat) (hm : ps.length = m + 1) (F : Fun K x qual st f fd) (SC : FnScope N ps (defScope st)) (hK : K = n.K) (nm : ∀ x ∈ N, (x == ("__debug__" : Str)) = false ∧ (x == ("__classdict__" : Str)) = false)
    (g : ∀ A, Room k A → Gk n T P w K mg base A) : FnOk P w K mg base (L2.CX P w) (k + 1) f fd ps (spI n cn m (defI T N u cn st)) :=
  init_body m hm F SC fun cdv A outer s H E hr => sn_body (kn_def (g _ hr) hK SC.nd nm) (passes_of rfl) (defBody st)
end
end Bv

/-! ends: the names of a text, the law -/
namespace Bv
open PySem PySem.Spec PyProof.Rows L2
def isiT (isi : List (List Str × Ty × Bool)) (cs : List Str) (t : Ty) : Option Bool := (isi.find? fun e => decide (e.1 = cs ∧ e.2.1 = t)).map (·.2.2)
/-- a table from lists -/
def mkT (fn : List (Str × Nat × FnS)) (cl : List (Str × Nat × FnI)) (ty : List Str) (isi : List (List Str × Ty × Bool)) (fld : List Str) (g : Bool) (co : List (Str × D)) (me : List ((Str × Str) × FnS)) (br : List Str) : Tb where
  fn := fun x => fn.lookup x
  cl := fun x => cl.lookup x
  ty := fun x => decide (x ∈ ty)
  isi := isiT isi
  fld := fun f => decide (f ∈ fld)
  gcd := g
  co := fun x => co.lookup x
  me := fun C m => me.lookup (C, m)
  hasMe := !me.isEmpty
  br := fun x => decide (x ∈ br)
  turns := 1000000
section
variable {n : Nm} {P : Program} {w : World} {K : PySem.W.Frag} {mg : Str → Option Value} {base : Heap}
/-- a def that keeps its promise -/
def Df (n : Nm) (P : Program) (w : World) (K : PySem.W.Frag) (mg : Str → Option Value) (base : Heap) (k : Nat) (p : Str × Nat × FnS) : Prop :=
  (p.1 == ("__debug__" : Str)) = false ∧ ∃ j a fd ps, j ≤ k ∧ FnOk P w K mg base (L2.CX P w) j a fd ps (spB n p.2.1 p.2.2) ∧ mg p.1 = some (.ref a) ∧ PySem.W.keepIn K (.ref a) = true ∧ Binds K fd ps []
/-- a class, by its __init__ -/
def Dc (n : Nm) (P : Program) (w : World) (K : PySem.W.Frag) (mg : Str → Option Value) (base : Heap) (k : Nat) (p : Str × Nat × FnI) : Prop :=
  (p.1 == ("__debug__" : Str)) = false ∧ ∃ j a C fd ps, j + 1 ≤ k ∧ Mk K C a ∧ FnOk P w K mg base (L2.CX P w) j a fd ps (spI n p.1 p.2.1 p.2.2) ∧ n.cA p.1 = some C ∧ mg p.1 = some (.ref C) ∧ Binds K fd ps []
/-- a class's own def of two -/
def Dm (n : Nm) (P : Program) (w : World) (K : PySem.W.Frag) (mg : Str → Option Value) (base : Heap) (k : Nat) (p : (Str × Str) × FnS) : Prop :=
  ∃ j a Ca fd ps, j ≤ k ∧ FnOk P w K mg base (L2.CX P w) j a fd ps (spB n 2 p.2) ∧ n.cA p.1.1 = some Ca ∧ PySem.W.findIn K (.ref Ca) p.1.2 = some (some (.ref a)) ∧ PySem.W.isFn K (.ref a) = true ∧ Binds K fd ps []
structure Tx (n : Nm) (K : PySem.W.Frag) (mg : Str → Option Value) (ty : List Str) (isi : List (List Str × Ty × Bool)) (fld : List Str) (g : Bool) (co : List (Str × D)) : Prop where
  bi : ∀ p ∈ biTab, mg p.1 = none
  rg : mg "range" = none
  en : mg "enumerate" = none
  zp : mg "zip" = none
  gc : g = true → mg "gcd" = some (.builtin "math.gcd")
  ty : ∀ x ∈ ty, (x == ("__debug__" : Str)) = false ∧ x ≠ "__name__" ∧ ((∃ C, n.cA x = some C ∧ mg x = some (.ref C)) ∨ ∃ s, n.cA x = none ∧ mg x = none ∧ bootBuiltins x = some (.type s))
  isi : ∀ e ∈ isi, ∀ v, e.2.1.val n = some v → PySem.W.kitAny n.K v (e.1.map (uOf n)) = some e.2.2
  hA : ClsAll n
  fld : ∀ f ∈ fld, NoAt n f
  co : ∀ p ∈ co, (p.1 == ("__debug__" : Str)) = false ∧ ∃ v u, mg p.1 = some u ∧ RelV v u ∧ ∀ F φ, Is n F φ v p.2
theorem mem_lk {β : Type} : ∀ {l : List ((Str × Str) × β)} {q : Str × Str} {v : β}, l.lookup q = some v → (q, v) ∈ l
  | [], _, _, h => by cases h
  | p :: r, q, v, h => by
    rw [List.lookup_cons] at h
    split at h
    · rename_i e
      cases h
      have e := eq_of_beq e
      subst e
      exact List.mem_cons_self
    · exact List.mem_cons_of_mem _ (mem_lk h)
theorem gk_mk {ty : List Str} {isi : List (List Str × Ty × Bool)} {fld : List Str} {g : Bool} {co : List (Str × D)} {fn : List (Str × Nat × FnS)} {cl : List (Str × Nat × FnI)} {me : List ((Str × Str) × FnS)} {br : List Str} {k : Nat} (X : Tx n K mg ty isi fld g co) (hf : ∀ p ∈ fn, Df n P w K mg base k p) (hc : ∀ p ∈ cl, Dc n P w K mg base k p) (hme : ∀ p ∈ me, Dm n P w K mg base k p) :
    ∀ A, Room k A → Gk n (mkT fn cl ty isi fld g co me br) P w K mg base A := fun A hr => by
  refine ⟨by have := hr.un; omega, X.bi, X.rg, X.en, X.zp, X.gc, fun x m f h => ?_, fun x m f h => ?_, fun x h => X.ty x (of_decide_eq_true h), fun cs t b v h hv => ?_, X.hA, fun f h => X.fld f (of_decide_eq_true h), fun x d h => X.co (x, d) (mem_of_lookup h), fun C m f h => ?_⟩
  · obtain ⟨h1, j, a, fd, ps, h2, h3, h4, h5, h6⟩ := hf _ (mem_of_lookup h)
    exact ⟨h1, j, a, fd, ps, h3, hr.mono h2, h4, h5, h6⟩
  · obtain ⟨h1, j, a, C, fd, ps, h2, h3, h4, h5, h6, h7⟩ := hc _ (mem_of_lookup h)
    exact ⟨h1, j, a, C, fd, ps, h3, h4, hr.mono h2, h5, h6, h7⟩
  rotate_left
  · obtain ⟨j, a, Ca, fd, ps, h2, h3, h4, h5, h6, h7⟩ := hme ((C, m), f) (mem_lk h)
    exact ⟨j, a, Ca, fd, ps, h3, hr.mono h2, h4, h5, h6, h7⟩
  · have h : (isi.find? fun e => decide (e.1 = cs ∧ e.2.1 = t)).map (·.2.2) = some b := h
    cases q : isi.find? fun e => decide (e.1 = cs ∧ e.2.1 = t) with
    | none => rw [q] at h; cases h
    | some e =>
      rw [q] at h
      cases h
      have h0 := List.find?_some q
      have h1 : e.1 = cs ∧ e.2.1 = t := by simpa using h0
      have h2 := X.isi e (List.mem_of_find?_eq_some q) v (by rw [h1.2]; exact hv)
      rw [h1.1] at h2
      exact h2
theorem df_mk {T : Tb} {x qual : Str} {st : Stmt} {f : Addr} {fd : FuncData} {N u ps : List Str} {k : Nat} (hK : K = n.K) (F : Fun K x qual st f fd) (SC : FnScope N ps (defScope st)) (nm : ∀ x ∈ N, (x == ("__debug__" : Str)) = false ∧ (x == ("__classdict__" : Str)) = false)
    (g : ∀ A, Room k A → Gk n T P w K mg base A) (hx : (x == ("__debug__" : Str)) = false) (hm : mg x = some (.ref f)) (hb : Binds K fd ps []) {j : Nat} (hj : k + 1 ≤ j) : Df n P w K mg base j (x, ps.length, defF T N u st) :=
  ⟨hx, k + 1, f, fd, ps, hj, def_ok F SC hK nm g, hm, F.kp, hb⟩
theorem dc_mk {T : Tb} {cn qual : Str} {st : Stmt} {f C : Addr} {fd : FuncData} {N u ps : List Str} {k m : Nat} (hK : K = n.K) (hm : ps.length = m + 1) (F : Fun K "__init__" qual st f fd) (SC : FnScope N ps (defScope st)) (nm : ∀ x ∈ N, (x == ("__debug__" : Str)) = false ∧ (x == ("__classdict__" : Str)) = false)
    (g : ∀ A, Room k A → Gk n T P w K mg base A) (hx : (cn == ("__debug__" : Str)) = false) (MK : Mk K C f) (hC : n.cA cn = some C) (hg : mg cn = some (.ref C)) (hb : Binds K fd ps []) {j : Nat} (hj : k + 2 ≤ j) : Dc n P w K mg base j (cn, m, defI T N u cn st) :=
  ⟨hx, k + 1, f, C, fd, ps, hj, MK, ini_ok m hm F SC hK nm g, hC, hg, hb⟩
end
section
variable {n : Nm} {P : Program} {w : World} {K : PySem.W.Frag} {mg : Str → Option Value} {base : Heap}
theorem dm_mk {T : Tb} {cn mn qual : Str} {st : Stmt} {f C : Addr} {fd : FuncData} {N u ps : List Str} {k : Nat} (hK : K = n.K) (hm : ps.length = 2) (F : Fun K mn qual st f fd) (SC : FnScope N ps (defScope st)) (nm : ∀ x ∈ N, (x == ("__debug__" : Str)) = false ∧ (x == ("__classdict__" : Str)) = false)
    (g : ∀ A, Room k A → Gk n T P w K mg base A) (hC : n.cA cn = some C) (hfi : PySem.W.findIn K (.ref C) mn = some (some (.ref f))) (hfn : PySem.W.isFn K (.ref f) = true) (hb : Binds K fd ps []) {j : Nat} (hj : k + 1 ≤ j) : Dm n P w K mg base j ((cn, mn), defF T N u st) :=
  ⟨k + 1, f, C, fd, ps, hj, by have := def_ok (n := n) (u := u) F SC hK nm g; rw [hm] at this; exact this, hC, hfi, hfn, hb⟩
end
/-! ### the law's def -/
def spLaw (K : PySem.W.Frag) : Sp := fun vs H Q _ => ∃ (a : Addr) (ns : List Int), vs = [.ref a] ∧ SqL K H a (ns.map V.int) ∧ ns.length ≤ 63 ∧ ∀ H', Q (.bl true) H'
/-- what is to be shown of the law in plain words -/
def Plain (f : FnS) : Prop := ∀ ns : List Int, ns.length ≤ 63 → ∃ s, f [.scr (ns.map D.int)] ⟨[], []⟩ = .ok (.sh (.bl true)) s
theorem law_imp {n : Nm} {f : FnS} (hp : Plain f) : ∀ vs H Q E, spLaw n.K vs H Q E → spB n 1 f vs H Q E := fun vs H Q E ⟨a, ns, h1, h2, h3, h4⟩ => by
  subst h1
  obtain ⟨s, hs⟩ := hp ns h3
  refine ⟨{ S := ⟨[], []⟩, σ := [], φ := [], F := fun b => if b = a then H a else none, H := H, an := 0 }, [.scr (ns.map D.int)], rfl, rfl, rfl, ⟨rfl, fun b o e => ?_, fun i x e => by simp at e, fun i j x y b _ e => by simp at e, List.nodup_nil, rfl, fun k o b e => by simp at e, fun b hb => by cases hb⟩, .cons (.scr ?_ (isL_ints ns)) .nil, rfl, ?_⟩
  · have e : (if b = a then H a else none) = some o := e
    split at e
    · rename_i q; rw [q]; exact e
    · cases e
  · have ha : (fun b => if b = a then H a else none : Hp) a = H a := by show (if a = a then H a else none) = _; rw [if_pos rfl]
    rcases h2 with (h | ⟨o, h⟩) | h
    · exact .inl (.inl (ha.trans h))
    · exact .inl (.inr ⟨o, ha.trans h⟩)
    · exact .inr h
  · show OutF n _ (f [.scr (ns.map D.int)] ⟨[], []⟩) Q E
    rw [hs]
    intro v c' e1 e2 s' k' i ow
    have i : Is n c'.F c'.φ v (.bl true) := i
    rw [is_bl i]
    exact h4 _
theorem law_walk {l : PySem.W.OpenLaw} {q : Program} {loose : List Str} {XP : (Str → Option Value) → Heap → Prop} {YP : World → Heap → Prop} {d : DefRec} {K : Params → PySem.W.Frag} (k : Nat) (hn : l.most = some 63) (hdf : d.params.defaults = []) (hr : Room k callerA)
    (hY : ∀ (w : World) (h : Heap), YP w h → (K w.params).In h)
    (F : ∀ (w : World) (mg : Str → Option Value) (fa : Addr) (h : Heap), (K w.params).In h → h.Ns mainGlobals mg → mg d.name = some (.ref fa) →
      ∃ fd : FuncData, (∀ (s : Shared) (u : Value), BindsTo s fd ⟨[u], []⟩ [("script", u)]) ∧ ∀ base : Heap, (K w.params).In base → base.Ns mainGlobals mg → FnOk l.prog w (K w.params) mg base (L2.CX l.prog w) k fa fd ["script"] (spLaw (K w.params))) :
    PySem.W.WalkO q loose XP YP l.row.toRowW d [] (fun f vs => PySem.call f vs) :=
  L2.walk_of (n := 63) (k := k) (x := "script") (CX := fun w => L2.CX l.prog w) (sp := fun w => spLaw (K w.params)) hn (by decide) hdf hr hY F (fun _ _ a ns hl _ hS => ⟨a, ns, rfl, hS, hl, fun _ => rfl⟩) fun w H s e s' z => by
    obtain ⟨_, _, _, _, _, _, _, _, _, _, _, _, z⟩ := z
    exact z
end Bv

/-! names from lists -/
namespace Bv
open PySem PySem.Spec PyProof.Rows L2
def nmOf (K : PySem.W.Frag) (cl : List (Str × Addr)) : Nm := ⟨K, fun x => cl.lookup x, fun _ => none⟩
theorem all2 {α : Type} {p : α → Prop} {a : α} {l : List α} (h : p a) (t : ∀ x ∈ l, p x) : ∀ x ∈ a :: l, p x := fun x hx => by
  rcases List.mem_cons.mp hx with rfl | hx
  · exact h
  · exact t x hx
theorem all0 {α : Type} {p : α → Prop} : ∀ x ∈ ([] : List α), p x := fun _ h => by cases h
theorem cls_mk {K : PySem.W.Frag} {cl : List (Str × Addr)} (h : ∀ p ∈ cl, ClsI K p.2) : ClsAll (nmOf K cl) := fun x C e => h (x, C) (mem_of_lookup e)
theorem noAt_mk {K : PySem.W.Frag} {cl : List (Str × Addr)} {f : Str} (h : ∀ p ∈ cl, ClsI K p.2) (h2 : ∀ p ∈ cl, NoAttr K p.2 f) : NoAt (nmOf K cl) f := fun x C e => ⟨h (x, C) (mem_of_lookup e), h2 (x, C) (mem_of_lookup e)⟩
theorem isi_mk {n : Nm} {cs : List Str} {t : Ty} {b : Bool} {u : Value} {us : List Value} (h1 : t.val n = some u) (h2 : cs.map (uOf n) = us) (h : PySem.W.kitAny n.K u us = some b) : ∀ v, t.val n = some v → PySem.W.kitAny n.K v (cs.map (uOf n)) = some b := fun v hv => by
  rw [h1] at hv
  cases hv
  rw [h2]
  exact h
theorem u_ty {K : PySem.W.Frag} {cl : List (Str × Addr)} {x : Str} {s : String} (h : cl.lookup x = none) (b : bootBuiltins x = some (.type s)) : uOf (nmOf K cl) x = .type s := by
  unfold uOf
  have : (nmOf K cl).cA x = none := h
  rw [this, b]
theorem u_cl {K : PySem.W.Frag} {cl : List (Str × Addr)} {x : Str} {C : Addr} (h : cl.lookup x = some C) : uOf (nmOf K cl) x = .ref C := by
  unfold uOf
  have : (nmOf K cl).cA x = some C := h
  rw [this]
theorem df_bad {n : Nm} {P : Program} {w : World} {K : PySem.W.Frag} {mg : Str → Option Value} {base : Heap} {x : Str} {m j : Nat} {f : FnS} (h : Df n P w K mg base j (x, m, f)) : Df n P w K mg base j (x, m, fun _ => bad) := by
  obtain ⟨h1, j', a, fd, ps, h2, F, r⟩ := h
  exact ⟨h1, j', a, fd, ps, h2, F.imp (fun vs H Q E ⟨c, ds, _, _, _, _, _, _, o⟩ => o.elim), r⟩
def kitBs (t : String) : List String → Option Bool
  | [] => some false
  | c :: r => match kitB t c with
    | some true => some true
    | some false => kitBs t r
    | none => none
theorem kitAny_bs {K : PySem.W.Frag} {t : String} : ∀ {cs : List String} {b : Bool}, kitBs t cs = some b → PySem.W.kitAny K (.type t) (cs.map Value.type) = some b
  | [], b, h => h
  | c :: r, b, h => by
    unfold kitBs at h
    rw [List.map_cons]
    unfold PySem.W.kitAny
    cases q : kitB t c with
    | none => rw [q] at h; cases h
    | some z =>
      rw [q] at h
      rw [kit_ty q]
      cases z with
      | true => exact h
      | false => exact kitAny_bs h
end Bv

/-! reasoning about meanings -/
namespace Bv
open PySem PySem.Spec PyProof.Rows L2
structure wm {α : Type} (m : M α) (s : S) (Q : α → S → Prop) : Prop where
  out : match m s with
    | .ok a s' => Q a s'
    | _ => False
structure ws (f : MS) (s : S) (N : S → Prop) (R : L → S → Prop) (B C : S → Prop) : Prop where
  out : match f s with
    | .nx s' => N s'
    | .rt l s' => R l s'
    | .bk s' => B s'
    | .ct s' => C s'
    | _ => False
/-- the i-th is x afterwards -/
inductive SetAt {α : Type} : Nat → α → List α → List α → Prop
  | z {x a : α} {l : List α} : SetAt 0 x (a :: l) (x :: l)
  | s {i : Nat} {x a : α} {l m : List α} : SetAt i x l m → SetAt (i + 1) x (a :: l) (a :: m)
theorem SetAt.eq {α : Type} {i : Nat} {x : α} {l m : List α} (h : SetAt i x l m) : l.set i x = m := by
  induction h with
  | z => rfl
  | s _ ih => rw [List.set_cons_succ, ih]
section
variable {α β : Type} {s s' : S} {st : List MO} {sl sm : List (Option L)}
theorem wm_mono {m : M α} {Q Q' : α → S → Prop} (h : wm m s Q) (q : ∀ a s', Q a s' → Q' a s') : wm m s Q' := by
  refine ⟨?_⟩
  have h := h.out
  split at h
  · exact q _ _ h
  · exact h.elim
theorem ws_mono {f : MS} {N N' : S → Prop} {R R' : L → S → Prop} {B B' C C' : S → Prop} (h : ws f s N R B C) (h1 : ∀ s, N s → N' s) (h2 : ∀ l s, R l s → R' l s) (h3 : ∀ s, B s → B' s) (h4 : ∀ s, C s → C' s) : ws f s N' R' B' C' := by
  refine ⟨?_⟩
  have h := h.out
  split at h
  · exact h1 _ h
  · exact h2 _ _ h
  · exact h3 _ h
  · exact h4 _ h
  · exact h.elim
theorem wm_ok {m : M α} {Q : α → S → Prop} (h : wm m s Q) : ∃ a s', m s = .ok a s' ∧ Q a s' := by
  have h := h.out
  split at h
  · rename_i a s' e; exact ⟨a, s', e, h⟩
  · exact h.elim
theorem w_eq {m : M α} {Q : α → S → Prop} {a : α} (e : m s = .ok a s') (h : Q a s') : wm m s Q := by
  refine ⟨?_⟩; rw [e]; exact h
theorem w_bind {m : M β} {k : β → M α} {Q : α → S → Prop} (h : wm m s fun a s' => wm (k a) s' Q) : wm (m >>= k) s Q := by
  obtain ⟨a, s', e, h⟩ := wm_ok h
  refine ⟨?_⟩
  show (match M.bind m k s with | .ok a s' => Q a s' | _ => False)
  unfold M.bind
  rw [e]
  exact h.out
theorem w_pure {a : α} {Q : α → S → Prop} (h : Q a s) : wm (pure a : M α) s Q := ⟨h⟩
theorem w_dM {f : M L} {Q : D → S → Prop} (h : wm f s fun x s' => Q x.d s') : wm (dM f) s Q := w_bind (wm_mono h fun _ _ q => ⟨q⟩)
theorem w_sM {f : M D} {Q : L → S → Prop} (h : wm f s fun x s' => Q (.sh x) s') : wm (sM f) s Q := w_bind (wm_mono h fun _ _ q => ⟨q⟩)
theorem w_th {f : M L} {g : L → M L} {Q : L → S → Prop} (h : wm f s fun x s' => wm (g x) s' Q) : wm (thM f g) s Q := w_bind h
theorem w_fn {f : M (List D)} {g : List D → M L} {Q : L → S → Prop} (h : wm f s fun x s' => wm (g x) s' Q) : wm (fnM f g) s Q := w_bind h
theorem w_rg {f : M (List D)} {g : List D → M (List D)} {Q : List D → S → Prop} (h : wm f s fun x s' => wm (g x) s' Q) : wm (rgM f g) s Q := w_bind h
theorem w_it {f : M D} {Q : List D → S → Prop} (h : wm f s fun x s' => wm (itD x) s' Q) : wm (itM f) s Q := w_bind h
theorem w_nil {Q : List D → S → Prop} (h : Q [] s) : wm nilM s Q := ⟨h⟩
theorem w_cons {f : M D} {fs : M (List D)} {Q : List D → S → Prop} (h : wm f s fun d s1 => wm fs s1 fun ds s2 => Q (d :: ds) s2) : wm (consM f fs) s Q := w_bind (wm_mono h fun _ _ h => w_bind (wm_mono h fun _ _ q => ⟨q⟩))
theorem w_bin2 {fa fb : M D} {g : D → D → M L} {Q : L → S → Prop} (h : wm fa s fun x s1 => wm fb s1 fun y s2 => wm (g x y) s2 Q) : wm (bin2 fa fb g) s Q := w_bind (wm_mono h fun _ _ h => w_bind h)
theorem w_sl {i : Nat} {x : L} {Q : L → S → Prop} (h : s.sl[i]? = some (some x)) (q : Q x s) : wm (slN i) s Q := by
  refine w_eq (s' := s) (a := x) ?_ q
  unfold slN; rw [h]
theorem w_esc {i : Nat} {d : D} {Q : D → S → Prop} (h : s.sl[i]? = some (some (.sh d))) (q : Q d s) : wm (escN i) s Q := by
  refine w_eq (s' := s) (a := d) ?_ q
  unfold escN; rw [h]
  have e : s.sl.set i (some (.sh d)) = s.sl := by
    apply List.ext_getElem?
    intro j
    by_cases hij : i = j
    · subst hij; rw [List.getElem?_set_self', h]; rfl
    · rw [List.getElem?_set_ne hij]
  show Res.ok d { s with sl := s.sl.set i (some (.sh d)) } = .ok d s
  rw [e]
theorem w_escO {i : Nat} {x : L} {Q : D → S → Prop} (h : sl[i]? = some (some x)) (hs : SetAt i (some (.sh x.d)) sl sm) (q : Q x.d ⟨sm, st⟩) : wm (escN i) ⟨sl, st⟩ Q := by
  refine w_eq (s' := ⟨sm, st⟩) (a := x.d) ?_ q
  unfold escN; rw [h, ← hs.eq]
theorem w_mv {i : Nat} {x : L} {Q : L → S → Prop} (h : sl[i]? = some (some x)) (hs : SetAt i none sl sm) (q : Q x ⟨sm, st⟩) : wm (mvN i) ⟨sl, st⟩ Q := by
  refine w_eq (s' := ⟨sm, st⟩) (a := x) ?_ q
  unfold mvN; rw [h, ← hs.eq]
/-! values -/
section
variable {Q : L → S → Prop} {i j : Int}
theorem w_addI (q : Q (.sh (.int (i + j))) s) : wm (gAdd (.int i) (.int j)) s Q := ⟨q⟩
theorem w_subI (q : Q (.sh (.int (i - j))) s) : wm (gSub (.int i) (.int j)) s Q := ⟨q⟩
theorem w_mulI (h : -(2 ^ 64) < i ∧ i < 2 ^ 64 ∨ -(2 ^ 64) < j ∧ j < 2 ^ 64) (q : Q (.sh (.int (i * j))) s) : wm (gMul (.int i) (.int j)) s Q := by
  refine w_eq (s' := s) (a := .sh (.int (i * j))) ?_ q
  unfold gMul
  dsimp only
  rw [if_pos (by simpa [Bool.or_eq_true, Bool.and_eq_true] using h)]
  rfl
theorem w_fdvI (h : 0 < j) (h2 : j < 1073741824) (q : Q (.sh (.int (i / j))) s) : wm (gFdv (.int i) (.int j)) s Q := by
  refine w_eq (s' := s) (a := .sh (.int (i / j))) ?_ q
  unfold gFdv gI
  dsimp only
  rw [if_pos (by simp [h, h2])]
  rfl
theorem w_modI (h : 0 < j) (q : Q (.sh (.int (i % j))) s) : wm (gMod (.int i) (.int j)) s Q := by
  refine w_eq (s' := s) (a := .sh (.int (i % j))) ?_ q
  unfold gMod gI
  dsimp only
  rw [if_pos (by simp [h])]
  rfl
theorem w_powI (h : 0 ≤ j ∧ j ≤ 1000000 ∧ i.natAbs < 2 ^ 64) (q : Q (.sh (.int (i ^ j.toNat))) s) : wm (gPow (.int i) (.int j)) s Q := by
  refine w_eq (s' := s) (a := .sh (.int (i ^ j.toNat))) ?_ q
  unfold gPow gI
  dsimp only
  rw [if_pos (by simp [h])]
  rfl
theorem w_negI {f : M D} (h : wm f s fun d s' => ∃ i, d = .int i ∧ Q (.sh (.int (-i))) s') : wm (negM f) s Q := by
  refine w_bind (wm_mono h fun d s' ⟨i, e, q⟩ => ?_)
  subst e
  exact ⟨q⟩
theorem w_ltI (q : Q (.sh (.bl (decide (i < j)))) s) : wm (gLt (.int i) (.int j)) s Q := ⟨q⟩
theorem w_leI (q : Q (.sh (.bl (decide (i ≤ j)))) s) : wm (gLe (.int i) (.int j)) s Q := ⟨q⟩
theorem w_gtI (q : Q (.sh (.bl (decide (j < i)))) s) : wm (gGt (.int i) (.int j)) s Q := ⟨q⟩
theorem w_geI (q : Q (.sh (.bl (decide (j ≤ i)))) s) : wm (gGe (.int i) (.int j)) s Q := ⟨q⟩
theorem eqD_int (i j : Int) : eqD (.int i) (.int j) = some (decide (i = j)) := by
  have h : eqD (.int i) (.int j) = some (PyData.eqv (.int i) (.int j)) := rfl
  rw [h]
  have h2 : PyData.eqv (.int i) (.int j) = (i == j) := by rw [PyData.eqv]
  rw [h2]
  rfl
theorem w_eqI (q : Q (.sh (.bl (decide (i = j)))) s) : wm (gEq (.int i) (.int j)) s Q := by
  refine w_eq (s' := s) (a := .sh (.bl (decide (i = j)))) ?_ q
  unfold gEq; rw [eqD_int]; rfl
theorem w_neI (q : Q (.sh (.bl (!decide (i = j)))) s) : wm (gNe (.int i) (.int j)) s Q := by
  refine w_eq (s' := s) (a := .sh (.bl (!decide (i = j)))) ?_ q
  unfold gNe; rw [eqD_int]; rfl
theorem w_neS (q : Q (.sh (.bl false)) s) : wm (gNe (.int i) (.int i)) s Q := by
  refine w_neI ?_
  rw [decide_eq_true rfl]
  exact q
theorem w_eqS (q : Q (.sh (.bl true)) s) : wm (gEq (.int i) (.int i)) s Q := by
  refine w_eqI ?_
  rw [decide_eq_true rfl]
  exact q
theorem w_eqD {d e : D} {b : Bool} (h : eqD d e = some b) (q : Q (.sh (.bl b)) s) : wm (gEq d e) s Q := by
  refine w_eq (s' := s) (a := .sh (.bl b)) ?_ q
  unfold gEq; rw [h]; rfl
theorem w_neD {d e : D} {b : Bool} (h : eqD d e = some b) (q : Q (.sh (.bl !b)) s) : wm (gNe d e) s Q := by
  refine w_eq (s' := s) (a := .sh (.bl !b)) ?_ q
  unfold gNe; rw [h]; rfl
theorem w_isF {d e : D} {b : Bool} (h : isD d e = some b) (q : Q (.sh (.bl b)) s) : wm (gIs false d e) s Q := by
  refine w_eq (s' := s) (a := .sh (.bl b)) ?_ q
  unfold gIs; rw [h]; rfl
theorem w_tup {ds : List D} (h : ds.length ≤ lineN) (q : Q (.sh (.tup ds)) s) : wm (gTup ds) s Q := by
  refine w_eq (s' := s) (a := .sh (.tup ds)) ?_ q
  unfold gTup; rw [if_pos h]; rfl
theorem w_lst {ds : List D} (h : ds.length ≤ lineN) (q : Q (.ol ds) s) : wm (gLst ds) s Q := by
  refine w_eq (s' := s) (a := .ol ds) ?_ q
  unfold gLst; rw [if_pos h]; rfl
theorem w_int (q : Q (.sh (.int i)) s) : wm (intW (.sh (.int i))) s Q := ⟨q⟩
theorem w_ixW {l : L} {ds : List D} {d : D} (hl : l.d = .lst ds ∨ l.d = .tup ds) (h : atI ds i = some d) (q : Q (.sh d) s) : wm (ixW l (.int i)) s Q := by
  refine w_eq (s' := s) (a := .sh d) ?_ q
  unfold ixW
  rcases hl with e | e <;> (rw [e]; dsimp only; rw [h]; rfl)
theorem w_ixM {fa fb : M D} (h : wm fa s fun d s1 => wm fb s1 fun e s2 => wm (ixW (.sh d) e) s2 Q) : wm (ixM fa fb) s Q := w_bind (wm_mono h fun _ _ h => w_bind h)
theorem w_ixN {k : Nat} {x : L} {fb : M D} (h0 : s.sl[k]? = some (some x)) (h : wm fb s fun e s2 => wm (slN k) s2 fun l s3 => wm (ixW l e) s3 Q) : wm (ixNM k fb) s Q :=
  w_bind (w_sl h0 (w_bind (wm_mono h fun _ _ h => w_bind h)))
theorem w_fldS {C : Str} {fs : List (Str × D)} {f : Str} {d : D} (h : fs.lookup f = some d) (q : Q (.sh d) s) : wm (fldW f (.sh (.inst C fs))) s Q := by
  show wm (match fs.lookup f with | some d => (pure (.sh d) : M L) | none => bad) s Q
  rw [h]; exact ⟨q⟩
theorem w_fldO {b : Bool} {C : Str} {fs : List (Str × D)} {f : Str} {d : D} (h : fs.lookup f = some d) (q : Q (.sh d) s) : wm (fldW f (.oi b C fs)) s Q := by
  show wm (match fs.lookup f with | some d => (pure (.sh d) : M L) | none => bad) s Q
  rw [h]; exact ⟨q⟩
theorem w_isi {l : L} {g : Ty → Option Bool} {t : Ty} {b : Bool} (h : tyD l.d = some t) (h2 : g t = some b) (q : Q (.sh (.bl b)) s) : wm (isiW g l) s Q := by
  refine w_eq (s' := s) (a := .sh (.bl b)) ?_ q
  unfold isiW
  rw [h]
  show (match g t with | some b => pure (.sh (.bl b)) | none => bad : M L) s = _
  rw [h2]; rfl
theorem w_dg {k : Nat} {z : Str} {j : Nat} {fs : List (Str × D)} {d : D} (h : s.sl[k]? = some (some (.sh (.mref j)))) (h2 : s.st[j]? = some (.dic fs)) (h3 : fs.lookup z = some d) (q : Q (.sh d) s) : wm (dgN k z) s Q := by
  refine w_eq (s' := s) (a := .sh d) ?_ q
  unfold dgN; rw [h]; dsimp only; rw [h2]; dsimp only; rw [h3]
theorem w_andM {f : M D} {g : M L} (h : wm f s fun d s' => ∃ b, d = .bl b ∧ if b = true then wm g s' Q else Q (.sh (.bl false)) s') : wm (Bv.andM f g) s Q := by
  refine w_bind (wm_mono h fun d s' ⟨b, e, q⟩ => ?_)
  subst e
  cases b with
  | true => rw [if_pos rfl] at q; exact q
  | false => rw [if_neg (by decide)] at q; exact ⟨q⟩
theorem w_orM {f : M D} {g : M L} (h : wm f s fun d s' => ∃ b, d = .bl b ∧ if b = true then Q (.sh (.bl true)) s' else wm g s' Q) : wm (Bv.orM f g) s Q := by
  refine w_bind (wm_mono h fun d s' ⟨b, e, q⟩ => ?_)
  subst e
  cases b with
  | true => rw [if_pos rfl] at q; exact ⟨q⟩
  | false => rw [if_neg (by decide)] at q; exact q
theorem w_notM {f : M D} (h : wm f s fun d s' => ∃ b, truD (.sh d) = some b ∧ Q (.sh (.bl !b)) s') : wm (Bv.notM f) s Q := by
  refine w_bind (wm_mono h fun d s' ⟨b, e, q⟩ => ?_)
  rw [e]
  exact ⟨q⟩
theorem w_ifM {t : M Bool} {f g : M L} (h : wm t s fun b s' => if b = true then wm f s' Q else wm g s' Q) : wm (Bv.ifM t f g) s Q := by
  refine w_bind (wm_mono h fun b s' q => ?_)
  cases b with
  | true => rw [if_pos rfl] at q; exact q
  | false => rw [if_neg (by decide)] at q; exact q
end
theorem w_len {l : L} {ds : List D} {Q : L → S → Prop} (h : l.d = .lst ds ∨ l.d = .tup ds) (q : Q (.sh (.int ds.length)) s) : wm (lenW l) s Q := by
  refine w_eq (s' := s) (a := .sh (.int ds.length)) ?_ q
  unfold lenW
  rcases h with e | e <;> (rw [e]; rfl)
theorem if_dec {P : Prop} {inst : Decidable P} {a b : Prop} (h1 : P → a) (h2 : ¬ P → b) : if @decide P inst = true then a else b := by
  by_cases h : P
  · rw [if_pos (decide_eq_true h)]; exact h1 h
  · rw [if_neg (by simp [h])]; exact h2 h
theorem if_decT {P : Prop} {inst : Decidable P} {a b : Prop} (h : P) (q : a) : if @decide P inst = true then a else b := by rw [if_pos (decide_eq_true h)]; exact q
theorem if_decF {P : Prop} {inst : Decidable P} {a b : Prop} (h : ¬ P) (q : b) : if @decide P inst = true then a else b := by rw [if_neg (by simp [h])]; exact q
theorem if_not {c : Bool} {a b : Prop} (h : if c = true then b else a) : if (!c) = true then a else b := by
  cases c with
  | true => rw [if_neg (by decide)]; rw [if_pos rfl] at h; exact h
  | false => rw [if_pos (by decide)]; rw [if_neg (by decide)] at h; exact h
theorem if_tt {a b : Prop} (h : a) : if true = true then a else b := by rw [if_pos rfl]; exact h
theorem if_ff {a b : Prop} (h : b) : if false = true then a else b := by rw [if_neg (by decide)]; exact h
theorem if_t {c : Bool} {a b : Prop} (e : c = true) (h : a) : if c = true then a else b := by rw [if_pos e]; exact h
theorem if_f {c : Bool} {a b : Prop} (e : c = false) (h : b) : if c = true then a else b := by rw [e, if_neg (by decide)]; exact h
theorem ex_truB {b : Bool} {s : S} {Q : Bool → S → Prop} (h : Q b s) : ∃ b', truD (.sh (.bl b)) = some b' ∧ Q b' s := ⟨b, rfl, h⟩
/-! tests -/
section
variable {Q : Bool → S → Prop}
theorem w_blT {f : M L} (h : wm f s fun x s' => ∃ b, x = .sh (.bl b) ∧ Q b s') : wm (blT f) s Q := by
  refine w_bind (wm_mono h fun x s' ⟨b, e, q⟩ => ?_)
  subst e
  exact ⟨q⟩
theorem w_cmpT {fa fb : M D} {g : D → D → M L} (h : wm fa s fun x s1 => wm fb s1 fun y s2 => wm (g x y) s2 fun r s3 => ∃ b, r = .sh (.bl b) ∧ Q b s3) : wm (Bv.cmpT fa fb g) s Q := w_blT (w_bin2 h)
theorem w_notT {f : M Bool} (h : wm f s fun b s' => Q (!b) s') : wm (Bv.notT f) s Q := w_bind (wm_mono h fun _ _ q => ⟨q⟩)
theorem w_andT {f g : M Bool} (h : wm f s fun b s' => if b = true then wm g s' Q else Q false s') : wm (Bv.andT f g) s Q := by
  refine w_bind (wm_mono h fun b s' q => ?_)
  cases b with
  | true => rw [if_pos rfl] at q; exact q
  | false => rw [if_neg (by decide)] at q; exact ⟨q⟩
theorem w_orT {f g : M Bool} (h : wm f s fun b s' => if b = true then Q true s' else wm g s' Q) : wm (Bv.orT f g) s Q := by
  refine w_bind (wm_mono h fun b s' q => ?_)
  cases b with
  | true => rw [if_pos rfl] at q; exact ⟨q⟩
  | false => rw [if_neg (by decide)] at q; exact q
theorem w_truT {f : M L} (h : wm f s fun x s' => ∃ b, truD x = some b ∧ Q b s') : wm (truT f) s Q := by
  refine w_bind (wm_mono h fun x s' ⟨b, e, q⟩ => ?_)
  show wm (match truD x with | some b => (pure b : M Bool) | none => bad) s' Q
  rw [e]; exact ⟨q⟩
theorem w_yes (q : Q true s) : wm yesM s Q := ⟨q⟩
end
/-! chains -/
theorem w_chM {fa fb fc : M D} {g g' : D → D → M L} {Q : L → S → Prop} (h : wm fa s fun x s1 => wm fb s1 fun y s2 => wm (g x y) s2 fun r s3 => ∃ b, r = .sh (.bl b) ∧ if b = true then wm fc s3 fun z s4 => wm (g' y z) s4 Q else Q (.sh (.bl false)) s3) : wm (chM fa fb fc g g') s Q := by
  refine w_bind (wm_mono h fun x s1 h => w_bind (wm_mono h fun y s2 h => w_bind (wm_mono h fun r s3 ⟨b, e, q⟩ => ?_)))
  subst e
  cases b with
  | true => rw [if_pos rfl] at q; exact w_bind q
  | false => rw [if_neg (by decide)] at q; exact ⟨q⟩
/-! statements -/
section
variable {N : S → Prop} {R : L → S → Prop} {B C : S → Prop} {f g : MS}
theorem s_nil (h : N s) : ws nilS s N R B C := ⟨h⟩
theorem s_seq (h : ws f s (fun s' => ws g s' N R B C) R B C) : ws (seqS f g) s N R B C := by
  have h := h.out
  refine ⟨?_⟩
  unfold seqS
  cases e : f s with
  | nx s' => rw [e] at h; exact h.out
  | _ => rw [e] at h; exact h
theorem s_th {m : M α} {k : α → MS} (h : wm m s fun a s' => ws (k a) s' N R B C) : ws (thS m k) s N R B C := by
  obtain ⟨a, s', e, h⟩ := wm_ok h
  refine ⟨?_⟩
  unfold thS
  rw [e]
  exact h.out
def asg (a : AS) (x : L) : MS := fun s => match a x s with
  | some s' => .nx s'
  | none => .bad
theorem s_ag {m : M L} {a : AS} (h : wm m s fun x s' => ws (asg a x) s' N R B C) : ws (agS m a) s N R B C := s_th h
theorem s_asN {i : Nat} {x : L} (hs : SetAt i (some x) sl sm) (q : N ⟨sm, st⟩) : ws (asg (asN i) x) ⟨sl, st⟩ N R B C := by
  refine ⟨?_⟩
  show N ⟨sl.set i (some x), st⟩
  rw [hs.eq]; exact q
theorem s_ex {m : M L} (h : wm m s fun _ s' => N s') : ws (exS m) s N R B C := s_th (wm_mono h fun _ _ q => ⟨q⟩)
theorem s_rt {m : M L} (h : wm m s fun x s' => R x s') : ws (rtS m) s N R B C := s_th (wm_mono h fun _ _ q => ⟨q⟩)
theorem s_if {t : M Bool} (h : wm t s fun b s' => if b = true then ws f s' N R B C else ws g s' N R B C) : ws (ifS t f g) s N R B C := by
  refine s_th (wm_mono h fun b s' q => ?_)
  cases b with
  | true => rw [if_pos rfl] at q; exact q
  | false => rw [if_neg (by decide)] at q; exact q
theorem s_for {m : M (List D)} {a : AS} (h : wm m s fun ds s' => ws (forB a f ds) s' N R B C) : ws (forS m a f) s N R B C := s_th h
theorem s_par2 {i j : Nat} {fa fb : M L} (h : wm fa s fun x s1 => wm fb s1 fun y s2 => ws (asg (asN i) x) s2 (fun s3 => ws (asg (asN j) y) s3 N R B C) R B C) : ws (par2 i j fa fb) s N R B C := s_th (wm_mono h fun x s1 h => s_th (wm_mono h fun y s2 h => ⟨(show ws (asg (asN j) y) _ N R B C from h.out).out⟩))
theorem s_par3 {i j l : Nat} {fa fb fc : M L} (h : wm fa s fun x s1 => wm fb s1 fun y s2 => wm fc s2 fun z s3 => ws (asg (asN i) x) s3 (fun s4 => ws (asg (asN j) y) s4 (fun s5 => ws (asg (asN l) z) s5 N R B C) R B C) R B C) : ws (par3 i j l fa fb fc) s N R B C := s_th (wm_mono h fun x s1 h => s_th (wm_mono h fun y s2 h => s_th (wm_mono h fun z s3 h => ⟨(show ws (asg (asN l) z) _ N R B C from (show ws (asg (asN j) y) _ (fun s5 => ws (asg (asN l) z) s5 N R B C) R B C from h.out).out).out⟩)))
theorem s_asT0 (q : N s) : ws (asg (asT []) (.sh (.tup []))) s N R B C := ⟨q⟩
theorem s_asT1 {a : AS} {as : List AS} {d : D} {ds : List D} (h : ws (asg a (.sh d)) s (fun s' => ws (asg (asT as) (.sh (.tup ds))) s' N R B C) R B C) : ws (asg (asT (a :: as)) (.sh (.tup (d :: ds)))) s N R B C := by
  have z := (s_seq h).out
  refine ⟨?_⟩
  have key : asT (a :: as) (.sh (.tup (d :: ds))) s = match a (.sh d) s with | some s' => asT as (.sh (.tup ds)) s' | none => none := rfl
  unfold seqS asg at z
  unfold asg
  rw [key]
  cases q : a (.sh d) s with
  | none => rw [q] at z; exact z
  | some s' => rw [q] at z; exact z
theorem s_dp {i : Nat} {z : Str} {m : M D} (h : wm m s fun d s' => ws (dpN i z d) s' N R B C) : ws (dpS i z m) s N R B C := s_th h
theorem s_dpN {i : Nat} {z : Str} {d : D} {j : Nat} {fs : List (Str × D)} {su : List MO} (h : sl[i]? = some (some (.sh (.mref j)))) (h2 : st[j]? = some (.dic fs)) (hl : fs.length < lineN) (hs : SetAt j (.dic (Bv.putA z d fs)) st su) (q : N ⟨sl, su⟩) : ws (dpN i z d) ⟨sl, st⟩ N R B C := by
  refine ⟨?_⟩
  unfold dpN
  dsimp only
  rw [h]; dsimp only; rw [h2]; dsimp only
  rw [if_pos hl, hs.eq]
  exact q
/-- a loop by an invariant -/
theorem s_forI {a : AS} {ds : List D} (I : Nat → S → Prop) (h0 : I 0 s) (hb : ∀ (i : Nat) (d : D) (s : S), ds[i]? = some d → I i s → ws (asg a (.sh d)) s (fun s1 => ws f s1 (I (i + 1)) R N (I (i + 1))) (fun _ _ => False) (fun _ => False) (fun _ => False)) (hN : ∀ s, I ds.length s → N s) : ws (forB a f ds) s N R B C := by
  suffices hh : ∀ (k : Nat) (i : Nat) (s : S), k = ds.length - i → i ≤ ds.length → I i s → ws (forB a f (ds.drop i)) s N R B C by
    have := hh ds.length 0 s (by omega) (Nat.zero_le _) h0
    rwa [List.drop_zero] at this
  intro k
  induction k with
  | zero =>
    intro i s hk hi hI
    have e : i = ds.length := by omega
    subst e
    rw [List.drop_length]
    exact ⟨hN s hI⟩
  | succ k ih =>
    intro i s hk hi hI
    have hlt : i < ds.length := by omega
    have hg : ds[i]? = some ds[i] := List.getElem?_eq_getElem hlt
    rw [List.drop_eq_getElem_cons hlt]
    have z := (hb i ds[i] s hg hI).out
    refine ⟨?_⟩
    unfold forB
    unfold asg at z
    cases q : a (.sh ds[i]) s with
    | none => rw [q] at z; exact z.elim
    | some s1 =>
      rw [q] at z
      dsimp only at z ⊢
      have z := z.out
      cases q2 : f s1 with
      | nx s2 => rw [q2] at z; exact (ih (i + 1) s2 (by omega) (by omega) z).out
      | ct s2 => rw [q2] at z; exact (ih (i + 1) s2 (by omega) (by omega) z).out
      | bk s2 => rw [q2] at z; exact z
      | rt l s2 => rw [q2] at z; exact z
      | exc C fs s2 => rw [q2] at z; exact z.elim
      | bad => rw [q2] at z; exact z.elim
/-- a while by an invariant and a measure -/
theorem s_whI {t : M Bool} {m : Nat} (I : Nat → S → Prop) (k : Nat) (hk : k < m) (h0 : I k s)
    (hb : ∀ (k : Nat) (s : S), I k s → wm t s fun b s1 => if b = true then ws f s1 (fun s2 => ∃ j, j < k ∧ I j s2) R N (fun s2 => ∃ j, j < k ∧ I j s2) else N s1) : ws (whB t f m) s N R B C := by
  induction m generalizing k s with
  | zero => omega
  | succ m ih =>
    obtain ⟨b, s1, e, z⟩ := wm_ok (hb k s h0)
    refine ⟨?_⟩
    unfold whB
    rw [e]
    cases b with
    | false => rw [if_neg (by decide)] at z; exact z
    | true =>
      rw [if_pos rfl] at z
      dsimp only
      have z := z.out
      cases q2 : f s1 with
      | nx s2 => rw [q2] at z; obtain ⟨j, h1, h2⟩ := z; exact (ih j (by omega) h2).out
      | ct s2 => rw [q2] at z; obtain ⟨j, h1, h2⟩ := z; exact (ih j (by omega) h2).out
      | bk s2 => rw [q2] at z; exact z
      | rt l s2 => rw [q2] at z; exact z
      | exc C fs s2 => rw [q2] at z; exact z.elim
      | bad => rw [q2] at z; exact z.elim
end
/-! calls -/
theorem w_call {m : Nat} {F : FnS} {ds : List D} {Q : L → S → Prop} {N : List Str} {f : MS} (hF : F = runF N f) (hm : ds.length = m)
    (h : ws f ⟨ds.map (fun d => some (.sh d)) ++ List.replicate (N.length - ds.length) none, s.st⟩ (fun s' => Q (.sh .non) ⟨s.sl, s'.st⟩) (fun l s' => Q l ⟨s.sl, s'.st⟩) (fun _ => False) (fun _ => False)) : wm (callN m F ds) s Q := by
  subst hF
  refine ⟨?_⟩
  unfold callN
  rw [if_pos hm]
  unfold callM runF initS
  have h := h.out
  dsimp only
  cases e : f ⟨ds.map (fun d => some (.sh d)) ++ List.replicate (N.length - ds.length) none, s.st⟩ <;> rw [e] at h <;> exact h
end
end Bv

/-! the source of draws -/
namespace Bv
open PySem PySem.Spec PyProof.Rows L2
set_option hygiene false
local macro_rules | `(tactic| fail "S1") => `(tactic| (first | with_reducible refine s_seq ?_ | with_reducible refine s_nil ?_ | with_reducible refine s_ag ?_ | with_reducible refine s_rt ?_ | with_reducible refine s_ex ?_ | with_reducible refine s_for ?_ | with_reducible refine s_par2 ?_ | with_reducible refine s_par3 ?_ | with_reducible refine w_pure ?_ | with_reducible refine w_dM ?_ | with_reducible refine w_sM ?_ | with_reducible refine w_th ?_ | with_reducible refine w_fn ?_ | with_reducible refine w_rg ?_ | with_reducible refine w_it ?_ | with_reducible refine w_nil ?_ | with_reducible refine w_cons ?_ | with_reducible refine w_bin2 ?_ | with_reducible refine w_addI ?_ | with_reducible refine w_subI ?_ | with_reducible refine w_ltI ?_ | with_reducible refine w_leI ?_ | with_reducible refine w_gtI ?_ | with_reducible refine w_geI ?_ | with_reducible refine w_eqS ?_ | with_reducible refine w_neS ?_ | with_reducible refine w_eqI ?_ | with_reducible refine w_neI ?_ | with_reducible refine w_int ?_ | with_reducible refine w_ixM ?_ | with_reducible refine w_cmpT ?_ | with_reducible refine w_notT ?_ | with_reducible refine w_blT ?_ | with_reducible refine w_yes ?_ | with_reducible refine w_chM ?_ | with_reducible refine w_lcS ?_ | with_reducible refine w_itL ?_ | with_reducible refine w_ix0T ?_ | with_reducible refine w_ix0L ?_ | with_reducible refine w_ix0O ?_ | with_reducible refine w_ix1T ?_ | with_reducible refine w_ix1L ?_ | with_reducible refine w_ix1O ?_ | with_reducible refine w_ix2T ?_ | with_reducible refine w_ix2L ?_ | with_reducible refine w_ix2O ?_ | with_reducible refine w_ix3T ?_ | with_reducible refine w_ix3L ?_ | with_reducible refine w_ix3O ?_ | with_reducible refine w_itT ?_ | with_reducible refine w_itC ?_ | with_reducible refine w_lstS ?_ | with_reducible refine w_lstL ?_ | with_reducible refine w_lstT ?_ | with_reducible refine w_lstO ?_ | with_reducible refine w_tupT ?_ | with_reducible refine w_tupL ?_ | with_reducible refine w_tupO ?_ | with_reducible refine w_dd ?_ | with_reducible refine s_asT1 ?_ | with_reducible refine s_stS ?_ | with_reducible refine w_max2 ?_ | with_reducible refine s_asT0 ?_ | with_reducible refine w_gcd ?_ | with_reducible refine w_idxM ?_ | with_reducible refine w_enW ?_ | with_reducible refine w_zpL ?_ | with_reducible refine w_zpT ?_ | with_reducible refine w_rgOf ?_ | with_reducible refine w_dcS ?_ | with_reducible refine w_inK ?_ | with_reducible refine w_noP ?_ | with_reducible refine w_soP ?_ | with_reducible refine w_slM ?_ | ((with_reducible apply w_esc); (focus exact rfl)) | ((with_reducible apply w_sl); (focus exact rfl)) | ((with_reducible apply s_asN); (focus (repeat (first | exact SetAt.z | apply SetAt.s)))) | ((with_reducible apply w_ixN); (focus exact rfl)) | ((with_reducible apply w_slN); (focus exact rfl)) | ((with_reducible apply w_slL); (focus exact rfl)) | ((with_reducible apply w_slT); (focus exact rfl)) | ((with_reducible apply w_escO); (focus exact rfl); (focus (repeat (first | exact SetAt.z | apply SetAt.s)))) | ((with_reducible apply w_mv); (focus exact rfl); (focus (repeat (first | exact SetAt.z | apply SetAt.s)))) | ((with_reducible refine w_modI ?_ ?_); (focus first | omega | decide)) | ((with_reducible refine w_fdvI ?_ ?_ ?_); (focus first | omega | decide); (focus first | omega | decide)) | ((with_reducible refine w_powI ?_ ?_); (focus decide)) | ((with_reducible refine w_mulI ?_ ?_); (focus first | exact .inr (by decide) | exact .inl (by decide) | exact .inr (by constructor <;> omega) | exact .inl (by constructor <;> omega))) | ((with_reducible apply w_app); (focus exact rfl)) | ((with_reducible apply w_appN); (focus exact rfl); (focus first | decide | (simp only [List.length_cons, List.length_nil]; decide)); (focus (repeat (first | exact SetAt.z | apply SetAt.s)))) | ((with_reducible apply w_isi); (focus exact rfl); (focus assumption)) | ((with_reducible apply w_isF); (focus exact rfl)) | ((with_reducible apply w_fldS); (focus exact rfl)) | ((with_reducible apply s_stN); (focus exact rfl); (focus exact Nat.le_of_ble_eq_true rfl); (focus (repeat (first | exact SetAt.z | apply SetAt.s)))) | ((with_reducible apply w_fldO); (focus exact rfl)) | ((with_reducible refine w_rg1 ?_ ?_); (focus first | (constructor <;> omega) | decide)) | ((with_reducible refine w_rg2 ?_ ?_); (focus first | (refine ⟨?_, ?_, ?_, ?_⟩ <;> omega) | decide)) | ((with_reducible refine w_rgW ?_ ?_); (focus constructor <;> omega)) | ((with_reducible refine w_tup ?_ ?_); (focus exact Nat.le_of_ble_eq_true rfl)) | ((with_reducible refine w_lst ?_ ?_); (focus exact Nat.le_of_ble_eq_true rfl)) | ((with_reducible refine w_pen_at ?_ ?_); (focus exact rfl)) | ((with_reducible refine s_pen_at ?_ ?_ ?_); (focus exact rfl); (focus exact rfl)) | ((with_reducible refine w_pen_digits ?_ ?_); (focus exact rfl)) | ((with_reducible refine s_pen_digits ?_ ?_); (focus exact rfl)) | ((with_reducible refine w_pen_count ?_ ?_); (focus exact rfl)) | ((with_reducible refine s_pen_count ?_ ?_); (focus exact rfl)) | ((with_reducible refine w_pen_fold ?_ ?_); (focus exact rfl)) | ((with_reducible refine s_pen_fold ?_ ?_); (focus exact rfl)) | ((with_reducible refine w_pen_cells ?_ ?_); (focus exact rfl)) | with_reducible refine s_dp ?_ | with_reducible refine if_not ?_ | with_reducible refine if_tt ?_ | with_reducible refine if_ff ?_ | ((with_reducible refine if_decT ?_ ?_); (focus first | omega | (simp only [List.length_cons, List.length_nil]; omega))) | ((with_reducible refine if_decF ?_ ?_); (focus first | omega | (simp only [List.length_cons, List.length_nil]; omega))) | with_reducible refine if_dec (fun hc => ?_) (fun hc => ?_) | with_reducible refine s_if ?_ | with_reducible refine w_andT ?_ | with_reducible refine w_orT ?_ | with_reducible refine w_andM ?_ | with_reducible refine w_orM ?_ | with_reducible refine w_notM ?_ | with_reducible refine w_ifM ?_ | with_reducible refine w_truT ?_ | with_reducible refine w_negI ?_ | with_reducible refine ex_truB ?_ | with_reducible refine ⟨_, rfl, ?_⟩ | dsimp only [L.d] | ((with_reducible refine if_t ?_ ?_); (focus exact rfl)) | ((with_reducible refine if_f ?_ ?_); (focus exact rfl)) | ((with_reducible apply w_len); (focus exact .inl rfl)) | ((with_reducible apply w_len); (focus exact .inr rfl))))
local macro_rules | `(tactic| fail "SA") => `(tactic| (repeat' fail "S1"))
local macro_rules | `(tactic| fail "SR") => `(tactic| (repeat fail "S1"))
set_option hygiene true
structure Pen where
  cells : List Int
  at_ : Nat
  digits : Int
  count : Int
  fold : Int
def Pen.fs (p : Pen) : List (Str × D) := [("cells", .lst (p.cells.map D.int)), ("at", .int p.at_), ("digits", .int p.digits), ("count", .int p.count), ("fold", .int p.fold)]
section
variable {sl : List (Option L)} {r : List MO} {p : Pen} {i : Nat} {Q : L → S → Prop} {N : S → Prop} {R : L → S → Prop} {B C : S → Prop} {v : Int}
theorem w_pen_cells (h : sl[i]? = some (some (.sh (.mref 0)))) (q : Q (.sh (.lst (p.cells.map D.int))) ⟨sl, .dic p.fs :: r⟩) : wm (dgN i (Str.ofString "cells")) ⟨sl, .dic p.fs :: r⟩ Q := w_dg h rfl (by rfl) q
theorem w_pen_at (h : sl[i]? = some (some (.sh (.mref 0)))) (q : Q (.sh (.int p.at_)) ⟨sl, .dic p.fs :: r⟩) : wm (dgN i (Str.ofString "at")) ⟨sl, .dic p.fs :: r⟩ Q := w_dg h rfl (by rfl) q
theorem w_pen_digits (h : sl[i]? = some (some (.sh (.mref 0)))) (q : Q (.sh (.int p.digits)) ⟨sl, .dic p.fs :: r⟩) : wm (dgN i (Str.ofString "digits")) ⟨sl, .dic p.fs :: r⟩ Q := w_dg h rfl (by rfl) q
theorem w_pen_count (h : sl[i]? = some (some (.sh (.mref 0)))) (q : Q (.sh (.int p.count)) ⟨sl, .dic p.fs :: r⟩) : wm (dgN i (Str.ofString "count")) ⟨sl, .dic p.fs :: r⟩ Q := w_dg h rfl (by rfl) q
theorem w_pen_fold (h : sl[i]? = some (some (.sh (.mref 0)))) (q : Q (.sh (.int p.fold)) ⟨sl, .dic p.fs :: r⟩) : wm (dgN i (Str.ofString "fold")) ⟨sl, .dic p.fs :: r⟩ Q := w_dg h rfl (by rfl) q
theorem s_pen_at {u : Int} (e : u = (p.at_ : Int) + 1) (h : sl[i]? = some (some (.sh (.mref 0)))) (q : N ⟨sl, .dic { p with at_ := p.at_ + 1 }.fs :: r⟩) : ws (dpN i (Str.ofString "at") (.int u)) ⟨sl, .dic p.fs :: r⟩ N R B C := by
  subst e
  exact s_dpN h rfl (show 5 < lineN by decide) (.z) (by rw [show putA (Str.ofString "at") (D.int ((p.at_ : Int) + 1)) p.fs = { p with at_ := p.at_ + 1 }.fs from by rfl]; exact q)
theorem atI_ints {l : List Int} {j : Nat} (h : j < l.length) : atI (l.map D.int) (j : Int) = some (.int l[j]) := atI_nat (by rw [List.getElem?_map, List.getElem?_eq_getElem h]; rfl)
theorem s_pen_digits (h : sl[i]? = some (some (.sh (.mref 0)))) (q : N ⟨sl, .dic { p with digits := v }.fs :: r⟩) : ws (dpN i (Str.ofString "digits") (.int v)) ⟨sl, .dic p.fs :: r⟩ N R B C :=
  s_dpN h rfl (show 5 < lineN by decide) (.z) (by rw [show putA (Str.ofString "digits") (D.int v) p.fs = { p with digits := v }.fs from by rfl]; exact q)
theorem s_pen_count (h : sl[i]? = some (some (.sh (.mref 0)))) (q : N ⟨sl, .dic { p with count := v }.fs :: r⟩) : ws (dpN i (Str.ofString "count") (.int v)) ⟨sl, .dic p.fs :: r⟩ N R B C :=
  s_dpN h rfl (show 5 < lineN by decide) (.z) (by rw [show putA (Str.ofString "count") (D.int v) p.fs = { p with count := v }.fs from by rfl]; exact q)
theorem s_pen_fold (h : sl[i]? = some (some (.sh (.mref 0)))) (q : N ⟨sl, .dic { p with fold := v }.fs :: r⟩) : ws (dpN i (Str.ofString "fold") (.int v)) ⟨sl, .dic p.fs :: r⟩ N R B C :=
  s_dpN h rfl (show 5 < lineN by decide) (.z) (by rw [show putA (Str.ofString "fold") (D.int v) p.fs = { p with fold := v }.fs from by rfl]; exact q)
end
/-! the defs that every law has -/
def mPen : MS :=
  seqS (agS (sM (dM (sM (pure (D.int 0))))) (asN 1))
  (seqS (forS (itM (escN 0)) (asN 2) (seqS (agS (sM (dM (bin2 (dM (thM (bin2 (dM (bin2 (escN 1) (pure (D.int 47)) gMul)) (escN 2) gAdd) intW)) (pure (D.int 1000000007)) gMod))) (asN 1)) nilS))
    (seqS
      (rtS
        (ddM [Str.ofString "cells", Str.ofString "at", Str.ofString "digits", Str.ofString "count", Str.ofString "fold"]
          (consM (dM (thM (slN 0) lstW)) (consM (pure (D.int 0)) (consM (pure (D.int 0)) (consM (pure (D.int 0)) (consM (escN 1) nilM)))))))
      nilS))
def mDraw : MS :=
  seqS (dpS 0 (Str.ofString "count") (dM (bin2 (dM (dgN 0 (Str.ofString "count"))) (pure (D.int 1)) gAdd)))
  (seqS
    (ifS (andT (cmpT (dM (dgN 0 (Str.ofString "digits"))) (pure (D.int 0)) gEq) (cmpT (dM (dgN 0 (Str.ofString "at"))) (dM (thM (dgN 0 (Str.ofString "cells")) lenW)) gLt))
      (seqS (agS (sM (dM (ixM (dM (dgN 0 (Str.ofString "cells"))) (dM (dgN 0 (Str.ofString "at")))))) (asN 2))
        (seqS (dpS 0 (Str.ofString "at") (dM (bin2 (dM (dgN 0 (Str.ofString "at"))) (pure (D.int 1)) gAdd)))
          (seqS
            (ifS (cmpT (escN 2) (dM (bin2 (pure (D.int 10)) (pure (D.int 18)) gPow)) gGe)
              (seqS (dpS 0 (Str.ofString "digits") (dM (bin2 (escN 2) (dM (bin2 (pure (D.int 10)) (pure (D.int 18)) gPow)) Bv.gSub))) nilS)
              (seqS (dpS 0 (Str.ofString "fold") (dM (bin2 (dM (thM (bin2 (dM (bin2 (dM (dgN 0 (Str.ofString "fold"))) (pure (D.int 69069)) gMul)) (escN 2) gAdd) intW)) (pure (D.int 2147483587)) gMod)))
                nilS))
            nilS)))
      nilS)
    (seqS
      (ifS (cmpT (dM (dgN 0 (Str.ofString "digits"))) (pure (D.int 0)) gGt)
        (seqS (agS (bin2 (dM (thM (dgN 0 (Str.ofString "digits")) intW)) (escN 1) gMod) (asN 3))
          (seqS (dpS 0 (Str.ofString "digits") (dM (bin2 (dM (dgN 0 (Str.ofString "digits"))) (escN 1) gFdv))) (seqS (rtS (mvN 3)) nilS)))
        nilS)
      (seqS
        (agS
          (sM
            (dM
              (bin2
                (dM
                  (thM
                    (bin2 (dM (bin2 (dM (bin2 (dM (dgN 0 (Str.ofString "fold"))) (pure (D.int 48271)) gMul)) (dM (bin2 (dM (dgN 0 (Str.ofString "count"))) (pure (D.int 7919)) gMul)) gAdd)) (pure (D.int 13))
                      gAdd)
                    intW))
                (pure (D.int 2147483647)) gMod)))
          (asN 4))
        (seqS
          (agS
            (sM
              (dM
                (bin2 (dM (thM (bin2 (dM (bin2 (dM (bin2 (escN 4) (escN 4) gMul)) (dM (bin2 (pure (D.int 31)) (escN 4) gMul)) gAdd)) (dM (dgN 0 (Str.ofString "count"))) gAdd) intW)) (pure (D.int 2147483629))
                  gMod)))
            (asN 4))
          (seqS (dpS 0 (Str.ofString "fold") (dM (bin2 (dM (thM (bin2 (dM (bin2 (escN 4) (pure (D.int 16807)) gMul)) (pure (D.int 7)) gAdd) intW)) (pure (D.int 2147483647)) gMod)))
            (seqS (rtS (bin2 (dM (thM (bin2 (escN 4) (pure (D.int 64)) gFdv) intW)) (escN 1) gMod)) nilS))))))
def mPick (FD : FnS) : MS :=
  seqS (rtS (ixNM 1 (dM (fnM (consM (escN 0) (consM (dM (thM (slN 1) lenW)) nilM)) (callN 2 FD))))) nilS
def mIs (isi : List (List Str × Bv.Ty × Bool)) : FnS → MS := fun F =>
  seqS
    (ifS (truT (thM (slN 1) (isiW (isiT isi [Str.ofString "tuple"]))))
      (seqS (ifS (orT (notT (truT (thM (slN 0) (isiW (isiT isi [Str.ofString "tuple"]))))) (cmpT (dM (thM (slN 0) lenW)) (dM (thM (slN 1) lenW)) gNe)) (seqS (rtS (sM (pure (D.bl false)))) nilS) nilS)
        (seqS
          (rtS
            (bin2 (dM (lcM (rgM (consM (dM (thM (slN 1) lenW)) nilM) rg1W) [2] (asN 2) (notT (truT (fnM (consM (dM (ixNM 0 (escN 2))) (consM (dM (ixNM 1 (escN 2))) nilM)) (callN 2 F)))) (escN 2))) (dM (fnM nilM Bv.gLst))
              gEq))
          nilS))
      nilS)
    (seqS (ifS (cmpT (escN 1) (pure D.non) (gIs false)) (seqS (rtS (bin2 (escN 0) (pure D.non) (gIs false))) nilS) nilS)
      (seqS (ifS (cmpT (escN 1) (pure (D.bl true)) (gIs false)) (seqS (rtS (bin2 (escN 0) (pure (D.bl true)) (gIs false))) nilS) nilS)
        (seqS (ifS (cmpT (escN 1) (pure (D.bl false)) (gIs false)) (seqS (rtS (bin2 (escN 0) (pure (D.bl false)) (gIs false))) nilS) nilS)
          (seqS (ifS (truT (thM (slN 1) (isiW (isiT isi [Str.ofString "str"])))) (seqS (rtS (Bv.andM (dM (thM (slN 0) (isiW (isiT isi [Str.ofString "str"])))) (bin2 (escN 0) (escN 1) gEq))) nilS) nilS)
            (seqS (rtS (Bv.andM (dM (thM (slN 0) (isiW (isiT isi [Str.ofString "int"])))) (Bv.andM (dM (Bv.notM (dM (thM (slN 0) (isiW (isiT isi [Str.ofString "bool"])))))) (bin2 (escN 0) (escN 1) gEq))))
              nilS)))))
/-- the store behind a draw -/
theorem draw_ok {F : FnS} {NN : List Str} (hF : F = runF NN mDraw) (hN : NN.length = 5) {s : S} {p : Pen} {r : List MO} (hs : s.st = .dic p.fs :: r) {many : Int} (h0 : 0 < many) (h1 : many < 1073741824) {Q : L → S → Prop}
    (q : ∀ (x : Int) (p' : Pen), 0 ≤ x → x < many → Q (.sh (.int x)) ⟨s.sl, .dic p'.fs :: r⟩) : wm (callN 2 F [.mref 0, .int many]) s Q := by
  refine w_call hF rfl ?_
  rw [hN, hs]
  show ws mDraw ⟨[some (.sh (.mref 0)), some (.sh (.int many)), none, none, none], .dic p.fs :: r⟩ _ _ _ _
  unfold mDraw
  fail "SA"
  · rename_i hc
    have hl : p.at_ < p.cells.length := by simpa using hc
    refine w_ixW (.inl rfl) (atI_ints hl) ?_
    fail "SA"
    all_goals exact q _ _ (Int.emod_nonneg _ (by omega)) (Int.emod_lt_of_pos _ h0)
  all_goals exact q _ _ (Int.emod_nonneg _ (by omega)) (Int.emod_lt_of_pos _ h0)
end Bv

/-! comprehensions, the pen, a pick, the law's look -/
namespace Bv
open PySem PySem.Spec PyProof.Rows L2
set_option hygiene false
local macro_rules | `(tactic| fail "S1") => `(tactic| (first | with_reducible refine s_seq ?_ | with_reducible refine s_nil ?_ | with_reducible refine s_ag ?_ | with_reducible refine s_rt ?_ | with_reducible refine s_ex ?_ | with_reducible refine s_for ?_ | with_reducible refine s_par2 ?_ | with_reducible refine s_par3 ?_ | with_reducible refine w_pure ?_ | with_reducible refine w_dM ?_ | with_reducible refine w_sM ?_ | with_reducible refine w_th ?_ | with_reducible refine w_fn ?_ | with_reducible refine w_rg ?_ | with_reducible refine w_it ?_ | with_reducible refine w_nil ?_ | with_reducible refine w_cons ?_ | with_reducible refine w_bin2 ?_ | with_reducible refine w_addI ?_ | with_reducible refine w_subI ?_ | with_reducible refine w_ltI ?_ | with_reducible refine w_leI ?_ | with_reducible refine w_gtI ?_ | with_reducible refine w_geI ?_ | with_reducible refine w_eqS ?_ | with_reducible refine w_neS ?_ | with_reducible refine w_eqI ?_ | with_reducible refine w_neI ?_ | with_reducible refine w_int ?_ | with_reducible refine w_ixM ?_ | with_reducible refine w_cmpT ?_ | with_reducible refine w_notT ?_ | with_reducible refine w_blT ?_ | with_reducible refine w_yes ?_ | with_reducible refine w_chM ?_ | with_reducible refine w_lcS ?_ | with_reducible refine w_itL ?_ | with_reducible refine w_ix0T ?_ | with_reducible refine w_ix0L ?_ | with_reducible refine w_ix0O ?_ | with_reducible refine w_ix1T ?_ | with_reducible refine w_ix1L ?_ | with_reducible refine w_ix1O ?_ | with_reducible refine w_ix2T ?_ | with_reducible refine w_ix2L ?_ | with_reducible refine w_ix2O ?_ | with_reducible refine w_ix3T ?_ | with_reducible refine w_ix3L ?_ | with_reducible refine w_ix3O ?_ | with_reducible refine w_itT ?_ | with_reducible refine w_itC ?_ | with_reducible refine w_lstS ?_ | with_reducible refine w_lstL ?_ | with_reducible refine w_lstT ?_ | with_reducible refine w_lstO ?_ | with_reducible refine w_tupT ?_ | with_reducible refine w_tupL ?_ | with_reducible refine w_tupO ?_ | with_reducible refine w_dd ?_ | with_reducible refine s_asT1 ?_ | with_reducible refine s_stS ?_ | with_reducible refine w_max2 ?_ | with_reducible refine s_asT0 ?_ | with_reducible refine w_gcd ?_ | with_reducible refine w_idxM ?_ | with_reducible refine w_enW ?_ | with_reducible refine w_zpL ?_ | with_reducible refine w_zpT ?_ | with_reducible refine w_rgOf ?_ | with_reducible refine w_dcS ?_ | with_reducible refine w_inK ?_ | with_reducible refine w_noP ?_ | with_reducible refine w_soP ?_ | with_reducible refine w_slM ?_ | ((with_reducible apply w_esc); (focus exact rfl)) | ((with_reducible apply w_sl); (focus exact rfl)) | ((with_reducible apply s_asN); (focus (repeat (first | exact SetAt.z | apply SetAt.s)))) | ((with_reducible apply w_ixN); (focus exact rfl)) | ((with_reducible apply w_slN); (focus exact rfl)) | ((with_reducible apply w_slL); (focus exact rfl)) | ((with_reducible apply w_slT); (focus exact rfl)) | ((with_reducible apply w_escO); (focus exact rfl); (focus (repeat (first | exact SetAt.z | apply SetAt.s)))) | ((with_reducible apply w_mv); (focus exact rfl); (focus (repeat (first | exact SetAt.z | apply SetAt.s)))) | ((with_reducible refine w_modI ?_ ?_); (focus first | omega | decide)) | ((with_reducible refine w_fdvI ?_ ?_ ?_); (focus first | omega | decide); (focus first | omega | decide)) | ((with_reducible refine w_powI ?_ ?_); (focus decide)) | ((with_reducible refine w_mulI ?_ ?_); (focus first | exact .inr (by decide) | exact .inl (by decide) | exact .inr (by constructor <;> omega) | exact .inl (by constructor <;> omega))) | ((with_reducible apply w_app); (focus exact rfl)) | ((with_reducible apply w_appN); (focus exact rfl); (focus first | decide | (simp only [List.length_cons, List.length_nil]; decide)); (focus (repeat (first | exact SetAt.z | apply SetAt.s)))) | ((with_reducible apply w_isi); (focus exact rfl); (focus assumption)) | ((with_reducible apply w_isF); (focus exact rfl)) | ((with_reducible apply w_fldS); (focus exact rfl)) | ((with_reducible apply s_stN); (focus exact rfl); (focus exact Nat.le_of_ble_eq_true rfl); (focus (repeat (first | exact SetAt.z | apply SetAt.s)))) | ((with_reducible apply w_fldO); (focus exact rfl)) | ((with_reducible refine w_rg1 ?_ ?_); (focus first | (constructor <;> omega) | decide)) | ((with_reducible refine w_rg2 ?_ ?_); (focus first | (refine ⟨?_, ?_, ?_, ?_⟩ <;> omega) | decide)) | ((with_reducible refine w_rgW ?_ ?_); (focus constructor <;> omega)) | ((with_reducible refine w_tup ?_ ?_); (focus exact Nat.le_of_ble_eq_true rfl)) | ((with_reducible refine w_lst ?_ ?_); (focus exact Nat.le_of_ble_eq_true rfl)) | ((with_reducible refine w_pen_at ?_ ?_); (focus exact rfl)) | ((with_reducible refine s_pen_at ?_ ?_ ?_); (focus exact rfl); (focus exact rfl)) | ((with_reducible refine w_pen_digits ?_ ?_); (focus exact rfl)) | ((with_reducible refine s_pen_digits ?_ ?_); (focus exact rfl)) | ((with_reducible refine w_pen_count ?_ ?_); (focus exact rfl)) | ((with_reducible refine s_pen_count ?_ ?_); (focus exact rfl)) | ((with_reducible refine w_pen_fold ?_ ?_); (focus exact rfl)) | ((with_reducible refine s_pen_fold ?_ ?_); (focus exact rfl)) | ((with_reducible refine w_pen_cells ?_ ?_); (focus exact rfl)) | with_reducible refine s_dp ?_ | with_reducible refine if_not ?_ | with_reducible refine if_tt ?_ | with_reducible refine if_ff ?_ | ((with_reducible refine if_decT ?_ ?_); (focus first | omega | (simp only [List.length_cons, List.length_nil]; omega))) | ((with_reducible refine if_decF ?_ ?_); (focus first | omega | (simp only [List.length_cons, List.length_nil]; omega))) | with_reducible refine if_dec (fun hc => ?_) (fun hc => ?_) | with_reducible refine s_if ?_ | with_reducible refine w_andT ?_ | with_reducible refine w_orT ?_ | with_reducible refine w_andM ?_ | with_reducible refine w_orM ?_ | with_reducible refine w_notM ?_ | with_reducible refine w_ifM ?_ | with_reducible refine w_truT ?_ | with_reducible refine w_negI ?_ | with_reducible refine ex_truB ?_ | with_reducible refine ⟨_, rfl, ?_⟩ | dsimp only [L.d] | ((with_reducible refine if_t ?_ ?_); (focus exact rfl)) | ((with_reducible refine if_f ?_ ?_); (focus exact rfl)) | ((with_reducible apply w_len); (focus exact .inl rfl)) | ((with_reducible apply w_len); (focus exact .inr rfl))))
local macro_rules | `(tactic| fail "SA") => `(tactic| (repeat' fail "S1"))
local macro_rules | `(tactic| fail "SR") => `(tactic| (repeat fail "S1"))
set_option hygiene true
theorem SetAt.get {α : Type} {i : Nat} {x : α} {l m : List α} (h : SetAt i x l m) : m[i]? = some x := by
  induction h with
  | z => rfl
  | s _ ih => rw [List.getElem?_cons_succ]; exact ih
theorem SetAt.other {α : Type} {i j : Nat} {x : α} {l m : List α} (h : SetAt i x l m) (hj : i ≠ j) : m[j]? = l[j]? := by
  rw [← h.eq, List.getElem?_set_ne hj]
theorem SetAt.len {α : Type} {i : Nat} {x : α} {l m : List α} (h : SetAt i x l m) : m.length = l.length ∧ i < l.length := by
  induction h with
  | z => exact ⟨rfl, by simp⟩
  | s _ ih => exact ⟨by rw [List.length_cons, List.length_cons, ih.1], by rw [List.length_cons]; omega⟩
section
variable {sl sm : List (Option L)} {st : List MO} {s : S} {v : Nat} {t : M Bool} {e : M D} {Q : L → S → Prop} {ds : List D}
def lcD (ds : List D) (vs : List Nat) (a : AS) (t : M Bool) (e : M D) : M L := lcM (pure ds) vs a t e
theorem w_lcS {m : M (List D)} {vs : List Nat} {a : AS} (h : wm m s fun ds s1 => wm (lcD ds vs a t e) s1 Q) : wm (lcM m vs a t e) s Q := by
  obtain ⟨ds, s1, e1, h⟩ := wm_ok h
  have h := h.out
  refine ⟨?_⟩
  unfold lcD at h
  unfold lcM at h ⊢
  rw [e1]
  exact h
/-- a comprehension over a single name that leaves all as it was -/
theorem w_lcP (hw : SetAt v none sl sm) (hl : ds.length ≤ lineN) (g : D → Option D)
    (h : ∀ d ∈ ds, ∃ sd, SetAt v (some (.sh d)) sm sd ∧ wm t ⟨sd, st⟩ fun b s4 => s4 = ⟨sd, st⟩ ∧ if b = true then wm e ⟨sd, st⟩ (fun y s5 => s5 = ⟨sd, st⟩ ∧ g d = some y) else g d = none) (q : Q (.ol (ds.filterMap g)) ⟨sl, st⟩) :
    wm (lcD ds [v] (asN v) t e) ⟨sl, st⟩ Q := by
  unfold lcD
  have hws : wipeS ⟨sl, st⟩ [v] = ⟨sm, st⟩ := by
    show (⟨sl.set v none, st⟩ : S) = _
    rw [hw.eq]
  have key : ∀ (r : List D) (acc : List D) (s : S), (∀ d ∈ r, d ∈ ds) → acc.length + r.length ≤ lineN → wipeS s [v] = ⟨sm, st⟩ → ∃ s', lcB [v] (asN v) t e r acc s = .ok (acc ++ r.filterMap g) s' ∧ wipeS s' [v] = ⟨sm, st⟩ := by
    intro r
    induction r with
    | nil => intro acc s _ _ hs; exact ⟨s, by unfold lcB; simp, hs⟩
    | cons d r ih =>
      intro acc s hm hlen hs
      obtain ⟨sd, h1, h2⟩ := h d (hm d (by simp))
      obtain ⟨b, s4, e4, rfl, h3⟩ := wm_ok h2
      have hsd : wipeS ⟨sd, st⟩ [v] = ⟨sm, st⟩ := by
        show (⟨sd.set v none, st⟩ : S) = _
        rw [← h1.eq, List.set_set, ← hw.eq, List.set_set]
      unfold lcB
      rw [hs]
      have ha : asN v (.sh d) ⟨sm, st⟩ = some ⟨sd, st⟩ := by
        show some (⟨sm.set v (some (.sh d)), st⟩ : S) = _
        rw [h1.eq]
      rw [ha]
      dsimp only
      rw [e4]
      rw [List.length_cons] at hlen
      cases b with
      | false =>
        rw [if_neg (by decide)] at h3
        dsimp only
        obtain ⟨s', h5, h6⟩ := ih acc ⟨sd, st⟩ (fun x hx => hm x (by simp [hx])) (by omega) hsd
        exact ⟨s', by rw [h5, List.filterMap_cons, h3], h6⟩
      | true =>
        rw [if_pos rfl] at h3
        dsimp only
        obtain ⟨y, s5, e5, rfl, h7⟩ := wm_ok h3
        rw [e5]
        dsimp only
        rw [if_pos (by omega)]
        obtain ⟨s', h5, h6⟩ := ih (acc ++ [y]) ⟨sd, st⟩ (fun x hx => hm x (by simp [hx])) (by rw [List.length_append, List.length_singleton]; omega) hsd
        exact ⟨s', by rw [h5, List.filterMap_cons, h7]; simp, h6⟩
  obtain ⟨s', h5, h6⟩ := key ds [] (wipeS ⟨sl, st⟩ [v]) (fun _ h => h) (by simpa using hl) (by
    show (⟨(sl.set v none).set v none, st⟩ : S) = _
    rw [List.set_set, hw.eq])
  have hok : lcM (pure ds) [v] (asN v) t e ⟨sl, st⟩ = .ok (.ol ([] ++ ds.filterMap g)) (restS ⟨sl, st⟩ s' [v]) := by
    unfold lcM
    show (match lcB [v] (asN v) t e ds [] (wipeS ⟨sl, st⟩ [v]) with | .ok ys s2 => (Res.ok (L.ol ys) (restS ⟨sl, st⟩ s2 [v]) : Res L) | _ => Res.bad) = _
    rw [h5]
  have e1 : s'.st = st := congrArg S.st h6
  have e2 : s'.sl.set v none = sm := congrArg S.sl h6
  have e3 : restS ⟨sl, st⟩ s' [v] = ⟨sl, st⟩ := by
    unfold restS
    have lens : s'.sl.length = sl.length := by
      have z1 := congrArg List.length e2
      rw [List.length_set] at z1
      rw [z1, hw.len.1]
    congr 1
    apply List.ext_getElem?
    intro i
    rw [List.getElem?_map]
    by_cases hi : i < sl.length
    · rw [List.getElem?_range (by rw [lens]; exact hi)]
      show some (if i ∈ [v] then (sl[i]?).getD none else (s'.sl[i]?).getD none) = sl[i]?
      rw [List.getElem?_eq_getElem hi]
      by_cases hv : i = v
      · rw [if_pos (by simp [hv])]; rfl
      · rw [if_neg (by simp [hv])]
        have z : s'.sl[i]? = sl[i]? := by
          have z1 : (s'.sl.set v none)[i]? = s'.sl[i]? := List.getElem?_set_ne (fun z => hv z.symm)
          rw [← z1, e2, hw.other (fun z => hv z.symm)]
        rw [z, List.getElem?_eq_getElem hi]; rfl
    · rw [List.getElem?_eq_none (by rw [List.length_range, lens]; omega), List.getElem?_eq_none (by omega)]
      rfl
  rw [List.nil_append, e3] at hok
  exact w_eq hok q
theorem w_ix0T {d0 : D} {r : List D} (q : Q (.sh d0) s) : wm (ixW (.sh (.tup (d0 :: r))) (.int 0)) s Q := w_ixW (ds := d0 :: r) (.inr rfl) (atI_nat (j := 0) rfl) q
theorem w_ix0L {d0 : D} {r : List D} (q : Q (.sh d0) s) : wm (ixW (.sh (.lst (d0 :: r))) (.int 0)) s Q := w_ixW (ds := d0 :: r) (.inl rfl) (atI_nat (j := 0) rfl) q
theorem w_ix0O {d0 : D} {r : List D} (q : Q (.sh d0) s) : wm (ixW (.ol (d0 :: r)) (.int 0)) s Q := w_ixW (ds := d0 :: r) (.inl rfl) (atI_nat (j := 0) rfl) q
theorem w_ix1T {d0 d1 : D} {r : List D} (q : Q (.sh d1) s) : wm (ixW (.sh (.tup (d0 :: d1 :: r))) (.int 1)) s Q := w_ixW (ds := d0 :: d1 :: r) (.inr rfl) (atI_nat (j := 1) rfl) q
theorem w_ix1L {d0 d1 : D} {r : List D} (q : Q (.sh d1) s) : wm (ixW (.sh (.lst (d0 :: d1 :: r))) (.int 1)) s Q := w_ixW (ds := d0 :: d1 :: r) (.inl rfl) (atI_nat (j := 1) rfl) q
theorem w_ix1O {d0 d1 : D} {r : List D} (q : Q (.sh d1) s) : wm (ixW (.ol (d0 :: d1 :: r)) (.int 1)) s Q := w_ixW (ds := d0 :: d1 :: r) (.inl rfl) (atI_nat (j := 1) rfl) q
theorem w_ix2T {d0 d1 d2 : D} {r : List D} (q : Q (.sh d2) s) : wm (ixW (.sh (.tup (d0 :: d1 :: d2 :: r))) (.int 2)) s Q := w_ixW (ds := d0 :: d1 :: d2 :: r) (.inr rfl) (atI_nat (j := 2) rfl) q
theorem w_ix2L {d0 d1 d2 : D} {r : List D} (q : Q (.sh d2) s) : wm (ixW (.sh (.lst (d0 :: d1 :: d2 :: r))) (.int 2)) s Q := w_ixW (ds := d0 :: d1 :: d2 :: r) (.inl rfl) (atI_nat (j := 2) rfl) q
theorem w_ix2O {d0 d1 d2 : D} {r : List D} (q : Q (.sh d2) s) : wm (ixW (.ol (d0 :: d1 :: d2 :: r)) (.int 2)) s Q := w_ixW (ds := d0 :: d1 :: d2 :: r) (.inl rfl) (atI_nat (j := 2) rfl) q
theorem w_ix3T {d0 d1 d2 d3 : D} {r : List D} (q : Q (.sh d3) s) : wm (ixW (.sh (.tup (d0 :: d1 :: d2 :: d3 :: r))) (.int 3)) s Q := w_ixW (ds := d0 :: d1 :: d2 :: d3 :: r) (.inr rfl) (atI_nat (j := 3) rfl) q
theorem w_ix3L {d0 d1 d2 d3 : D} {r : List D} (q : Q (.sh d3) s) : wm (ixW (.sh (.lst (d0 :: d1 :: d2 :: d3 :: r))) (.int 3)) s Q := w_ixW (ds := d0 :: d1 :: d2 :: d3 :: r) (.inl rfl) (atI_nat (j := 3) rfl) q
theorem w_ix3O {d0 d1 d2 d3 : D} {r : List D} (q : Q (.sh d3) s) : wm (ixW (.ol (d0 :: d1 :: d2 :: d3 :: r)) (.int 3)) s Q := w_ixW (ds := d0 :: d1 :: d2 :: d3 :: r) (.inl rfl) (atI_nat (j := 3) rfl) q
theorem restS_one {sl sl' : List (Option L)} {st st' : List MO} {v : Nat} {o : Option L} (h : sl[v]? = some o) (hl : sl'.length = sl.length) : restS ⟨sl, st⟩ ⟨sl', st'⟩ [v] = ⟨sl'.set v o, st'⟩ := by
  unfold restS
  congr 1
  apply List.ext_getElem?
  intro i
  rw [List.getElem?_map]
  by_cases hi : i < sl.length
  · rw [List.getElem?_range (by show i < sl'.length; rw [hl]; exact hi)]
    show some (if i ∈ [v] then (sl[i]?).getD none else (sl'[i]?).getD none) = _
    by_cases hv : v = i
    · subst hv
      rw [if_pos (by simp), h, List.getElem?_set_self (by rw [hl]; exact hi)]
      rfl
    · rw [if_neg (by simpa using fun z => hv z.symm), List.getElem?_set_ne hv, List.getElem?_eq_getElem (by rw [hl]; exact hi)]
      rfl
  · rw [List.getElem?_eq_none (by rw [List.length_range]; show sl'.length ≤ i; omega), List.getElem?_eq_none (by rw [List.length_set]; omega)]
    rfl
/-- a comprehension over a single name, by an invariant -/
theorem w_lcI {o : Option L} (I : Nat → List D → S → Prop) (hw : SetAt v none sl sm) (ho : sl[v]? = some o) (hl : ds.length ≤ lineN) (h0 : I 0 [] ⟨sm, st⟩)
    (hb : ∀ (i : Nat) (d : D) (acc : List D) (s' : S), ds[i]? = some d → I i acc s' → ∃ sm' sd, SetAt v none s'.sl sm' ∧ SetAt v (some (.sh d)) sm' sd ∧ wm t ⟨sd, s'.st⟩ fun b s4 => if b = true then wm e s4 (fun y s5 => I (i + 1) (acc ++ [y]) s5) else I (i + 1) acc s4)
    (hq : ∀ (acc : List D) (s' : S), I ds.length acc s' → s'.sl.length = sl.length ∧ ∃ su, SetAt v o s'.sl su ∧ Q (.ol acc) ⟨su, s'.st⟩) : wm (lcD ds [v] (asN v) t e) ⟨sl, st⟩ Q := by
  unfold lcD
  have key : ∀ (k i : Nat) (acc : List D) (s : S), k = ds.length - i → i ≤ ds.length → acc.length ≤ i → I i acc s → ∃ acc' s', lcB [v] (asN v) t e (ds.drop i) acc s = .ok acc' s' ∧ I ds.length acc' s' := by
    intro k
    induction k with
    | zero =>
      intro i acc s hk hi _ hI
      have e : i = ds.length := by omega
      subst e
      rw [List.drop_length]
      exact ⟨acc, s, by unfold lcB; rfl, hI⟩
    | succ k ih =>
      intro i acc s hk hi hal hI
      have hlt : i < ds.length := by omega
      rw [List.drop_eq_getElem_cons hlt]
      obtain ⟨sm', sd, h1, h2, h3⟩ := hb i ds[i] acc s (List.getElem?_eq_getElem hlt) hI
      obtain ⟨b, s4, e4, h4⟩ := wm_ok h3
      unfold lcB
      have hws : wipeS s [v] = ⟨sm', s.st⟩ := by
        show (⟨s.sl.set v none, s.st⟩ : S) = _
        rw [h1.eq]
      have ha : asN v (.sh ds[i]) ⟨sm', s.st⟩ = some ⟨sd, s.st⟩ := by
        show some (⟨sm'.set v (some (.sh ds[i])), s.st⟩ : S) = _
        rw [h2.eq]
      rw [hws, ha]
      dsimp only
      rw [e4]
      cases b with
      | false =>
        rw [if_neg (by decide)] at h4
        dsimp only
        exact ih (i + 1) acc s4 (by omega) (by omega) (by omega) h4
      | true =>
        rw [if_pos rfl] at h4
        obtain ⟨y, s5, e5, h5⟩ := wm_ok h4
        dsimp only
        rw [e5]
        dsimp only
        rw [if_pos (by omega)]
        exact ih (i + 1) (acc ++ [y]) s5 (by omega) (by omega) (by rw [List.length_append, List.length_singleton]; omega) h5
  obtain ⟨acc, s', h5, h6⟩ := key ds.length 0 [] ⟨sm, st⟩ (by omega) (Nat.zero_le _) (Nat.le_refl _) h0
  rw [List.drop_zero] at h5
  obtain ⟨h7, su, h8, h9⟩ := hq acc s' h6
  have hw2 : wipeS ⟨sl, st⟩ [v] = ⟨sm, st⟩ := by
    show (⟨sl.set v none, st⟩ : S) = _
    rw [hw.eq]
  have hok : lcM (pure ds) [v] (asN v) t e ⟨sl, st⟩ = .ok (.ol acc) (restS ⟨sl, st⟩ s' [v]) := by
    unfold lcM
    show (match lcB [v] (asN v) t e ds [] (wipeS ⟨sl, st⟩ [v]) with | .ok ys s2 => (Res.ok (L.ol ys) (restS ⟨sl, st⟩ s2 [v]) : Res L) | _ => Res.bad) = _
    rw [hw2, h5]
  rw [show s' = ⟨s'.sl, s'.st⟩ from rfl, restS_one ho h7, h8.eq] at hok
  exact w_eq hok h9
/-! what is walked -/
theorem w_itL {Q : List D → S → Prop} (q : Q ds s) : wm (itD (.lst ds)) s Q := ⟨q⟩
theorem w_itT {Q : List D → S → Prop} (q : Q ds s) : wm (itD (.tup ds)) s Q := ⟨q⟩
theorem w_itC {Q : List D → S → Prop} (q : Q ds s) : wm (itD (.scr ds)) s Q := ⟨q⟩
theorem rgD_len (a : Int) (m : Nat) : (rgD a m).length = m := by unfold rgD; rw [List.length_map, List.length_range]
theorem mem_rgD {a : Int} {m : Nat} {d : D} (h : d ∈ rgD a m) : ∃ i : Nat, i < m ∧ d = .int (a + (i : Nat)) := by
  unfold rgD at h
  obtain ⟨i, hi, e⟩ := List.mem_map.mp h
  exact ⟨i, List.mem_range.mp hi, e.symm⟩
theorem w_rg1 {Q : List D → S → Prop} {j : Int} (h : -(2 ^ 62) ≤ j ∧ j < 2 ^ 62) (q : Q (rgD 0 j.toNat) s) : wm (rg1W [.int j]) s Q := by
  show wm (if decide (-(2 ^ 62) ≤ j) && decide (j < 2 ^ 62) then (pure (rgD 0 j.toNat) : M (List D)) else bad) s Q
  rw [if_pos (by rw [Bool.and_eq_true, decide_eq_true_eq, decide_eq_true_eq]; exact h)]
  exact ⟨q⟩
theorem w_rg2 {Q : List D → S → Prop} {i j : Int} (h : -(2 ^ 62) ≤ i ∧ i < 2 ^ 62 ∧ -(2 ^ 62) ≤ j ∧ j < 2 ^ 62) (q : Q (rgD i (j - i).toNat) s) : wm (rg2W [.int i, .int j]) s Q := by
  show wm (if decide (-(2 ^ 62) ≤ i) && decide (i < 2 ^ 62) && decide (-(2 ^ 62) ≤ j) && decide (j < 2 ^ 62) then (pure (rgD i (j - i).toNat) : M (List D)) else bad) s Q
  rw [if_pos (by simp only [Bool.and_eq_true, decide_eq_true_eq]; exact ⟨⟨⟨h.1, h.2.1⟩, h.2.2.1⟩, h.2.2.2⟩)]
  exact ⟨q⟩
theorem w_lstS (q : Q (.ol ds) s) : wm (lstW (.sh (.scr ds))) s Q := ⟨q⟩
theorem w_lstL (q : Q (.ol ds) s) : wm (lstW (.sh (.lst ds))) s Q := ⟨q⟩
theorem w_lstT (q : Q (.ol ds) s) : wm (lstW (.sh (.tup ds))) s Q := ⟨q⟩
theorem w_lstO (q : Q (.ol ds) s) : wm (lstW (.ol ds)) s Q := ⟨q⟩
theorem w_tupT (q : Q (.sh (.tup ds)) s) : wm (tupW (.sh (.tup ds))) s Q := ⟨q⟩
theorem w_tupL (q : Q (.sh (.tup ds)) s) : wm (tupW (.sh (.lst ds))) s Q := ⟨q⟩
theorem w_tupO (q : Q (.sh (.tup ds)) s) : wm (tupW (.ol ds)) s Q := ⟨q⟩
theorem w_dd {ks : List Str} {fs : M (List D)} (h : wm fs s fun ds s' => Q (.sh (.mref s'.st.length)) ⟨s'.sl, s'.st ++ [.dic (ks.zip ds)]⟩) : wm (ddM ks fs) s Q := w_bind (wm_mono h fun _ _ q => ⟨q⟩)
theorem w_app {i : Nat} {f : M D} {ds : List D} (h0 : s.sl[i]? = some (some (.ol ds))) (h : wm f s fun d s' => wm (appN i d) s' Q) : wm (appM i f) s Q := by
  have hc : chkL i s = .ok () s := by unfold chkL; rw [h0]
  exact w_bind (w_eq hc (w_bind h))
theorem w_appN {i : Nat} {d : D} (h : sl[i]? = some (some (.ol ds))) (hl : ds.length < lineN) (hs : SetAt i (some (.ol (ds ++ [d]))) sl sm) (q : Q (.sh .non) ⟨sm, st⟩) : wm (appN i d) ⟨sl, st⟩ Q := by
  refine w_eq (s' := ⟨sm, st⟩) (a := .sh .non) ?_ q
  unfold appN
  dsimp only
  rw [h]
  dsimp only
  rw [if_pos hl, hs.eq]
end
section
variable {sl sm : List (Option L)} {st : List MO} {s : S} {N : S → Prop} {R : L → S → Prop} {B C : S → Prop}
theorem s_stS {i : Nat} {f : Str} {m : M D} (h : wm m s fun d s' => ws (stN i f d) s' N R B C) : ws (stS i f m) s N R B C := s_th h
theorem s_stN {i : Nat} {f : Str} {d : D} {b : Bool} {cn : Str} {fs : List (Str × D)} (h : sl[i]? = some (some (.oi b cn fs))) (hl : fs.length < 1000) (hs : SetAt i (some (.oi b cn (putD f d fs))) sl sm) (q : N ⟨sm, st⟩) : ws (stN i f d) ⟨sl, st⟩ N R B C := by
  refine ⟨?_⟩
  unfold stN
  dsimp only
  rw [h]
  dsimp only
  rw [if_pos hl, hs.eq]
  exact q
theorem w_max2 {i j : Int} {Q : L → S → Prop} (q : Q (.sh (.int (if j > i then j else i))) s) : wm (gMax2 [.int i, .int j]) s Q := ⟨q⟩
theorem w_make {cn : Str} {m : Nat} {F : FnI} {ds : List D} {Q : L → S → Prop} {NN : List Str} {f : MS} (hF : F = runI NN cn f) (hm : ds.length = m)
    (h : ws f ⟨some (.oi true cn []) :: (ds.map (fun d => some (.sh d)) ++ List.replicate (NN.length - (ds.length + 1)) none), s.st⟩ (fun s' => ∃ fs, s'.sl[0]? = some (some (.oi true cn fs)) ∧ Q (.oi false cn fs) ⟨s.sl, s'.st⟩) (fun _ _ => False) (fun _ => False) (fun _ => False)) : wm (makeM cn m F ds) s Q := by
  subst hF
  refine ⟨?_⟩
  unfold makeM
  rw [if_pos hm]
  unfold runI initI
  have h := h.out
  dsimp only
  cases e : f ⟨some (.oi true cn []) :: (ds.map (fun d => some (.sh d)) ++ List.replicate (NN.length - (ds.length + 1)) none), s.st⟩ with
  | nx s' =>
    rw [e] at h
    obtain ⟨fs, h1, h2⟩ := h
    dsimp only
    rw [h1]
    dsimp only
    rw [if_pos rfl]
    exact h2
  | _ => rw [e] at h; exact h.elim
end
/-- the pen is made -/
theorem pen_ok {F : FnS} {NN : List Str} (hF : F = runF NN mPen) (hN : NN.length = 3) {s : S} (hs : s.st = []) {ns : List Int} {Q : L → S → Prop}
    (q : ∀ p : Pen, Q (.sh (.mref 0)) ⟨s.sl, [.dic p.fs]⟩) : wm (callN 1 F [.scr (ns.map D.int)]) s Q := by
  refine w_call hF rfl ?_
  rw [hN, hs]
  show ws mPen ⟨[some (.sh (.scr (ns.map D.int))), none, none], []⟩ _ _ _ _
  unfold mPen
  fail "SA"
  refine s_forI (fun _ s => ∃ (f : Int) (o : Option L), s = ⟨[some (.sh (.scr (ns.map D.int))), some (.sh (.int f)), o], []⟩) ⟨0, none, rfl⟩ (fun i d s hd ⟨f, o, e⟩ => ?_) (fun s ⟨f, o, e⟩ => ?_)
  · subst e
    obtain ⟨z, rfl⟩ : ∃ z, d = .int z := by
      rw [List.getElem?_map] at hd
      cases h : ns[i]? with
      | none => rw [h] at hd; cases hd
      | some z => rw [h] at hd; exact ⟨z, (Option.some.inj hd).symm⟩
    fail "SA"
    exact ⟨_, _, rfl⟩
  · subst e
    fail "SA"
    exact q ⟨ns, 0, 0, 0, f⟩
end Bv

/-! a pick; the law's look at what is told -/
namespace Bv
open PySem PySem.Spec PyProof.Rows L2
set_option hygiene false
local macro_rules | `(tactic| fail "S1") => `(tactic| (first | with_reducible refine s_seq ?_ | with_reducible refine s_nil ?_ | with_reducible refine s_ag ?_ | with_reducible refine s_rt ?_ | with_reducible refine s_ex ?_ | with_reducible refine s_for ?_ | with_reducible refine s_par2 ?_ | with_reducible refine s_par3 ?_ | with_reducible refine w_pure ?_ | with_reducible refine w_dM ?_ | with_reducible refine w_sM ?_ | with_reducible refine w_th ?_ | with_reducible refine w_fn ?_ | with_reducible refine w_rg ?_ | with_reducible refine w_it ?_ | with_reducible refine w_nil ?_ | with_reducible refine w_cons ?_ | with_reducible refine w_bin2 ?_ | with_reducible refine w_addI ?_ | with_reducible refine w_subI ?_ | with_reducible refine w_ltI ?_ | with_reducible refine w_leI ?_ | with_reducible refine w_gtI ?_ | with_reducible refine w_geI ?_ | with_reducible refine w_eqS ?_ | with_reducible refine w_neS ?_ | with_reducible refine w_eqI ?_ | with_reducible refine w_neI ?_ | with_reducible refine w_int ?_ | with_reducible refine w_ixM ?_ | with_reducible refine w_cmpT ?_ | with_reducible refine w_notT ?_ | with_reducible refine w_blT ?_ | with_reducible refine w_yes ?_ | with_reducible refine w_chM ?_ | with_reducible refine w_lcS ?_ | with_reducible refine w_itL ?_ | with_reducible refine w_ix0T ?_ | with_reducible refine w_ix0L ?_ | with_reducible refine w_ix0O ?_ | with_reducible refine w_ix1T ?_ | with_reducible refine w_ix1L ?_ | with_reducible refine w_ix1O ?_ | with_reducible refine w_ix2T ?_ | with_reducible refine w_ix2L ?_ | with_reducible refine w_ix2O ?_ | with_reducible refine w_ix3T ?_ | with_reducible refine w_ix3L ?_ | with_reducible refine w_ix3O ?_ | with_reducible refine w_itT ?_ | with_reducible refine w_itC ?_ | with_reducible refine w_lstS ?_ | with_reducible refine w_lstL ?_ | with_reducible refine w_lstT ?_ | with_reducible refine w_lstO ?_ | with_reducible refine w_tupT ?_ | with_reducible refine w_tupL ?_ | with_reducible refine w_tupO ?_ | with_reducible refine w_dd ?_ | with_reducible refine s_asT1 ?_ | with_reducible refine s_stS ?_ | with_reducible refine w_max2 ?_ | with_reducible refine s_asT0 ?_ | with_reducible refine w_gcd ?_ | with_reducible refine w_idxM ?_ | with_reducible refine w_enW ?_ | with_reducible refine w_zpL ?_ | with_reducible refine w_zpT ?_ | with_reducible refine w_rgOf ?_ | with_reducible refine w_dcS ?_ | with_reducible refine w_inK ?_ | with_reducible refine w_noP ?_ | with_reducible refine w_soP ?_ | with_reducible refine w_slM ?_ | ((with_reducible apply w_esc); (focus exact rfl)) | ((with_reducible apply w_sl); (focus exact rfl)) | ((with_reducible apply s_asN); (focus (repeat (first | exact SetAt.z | apply SetAt.s)))) | ((with_reducible apply w_ixN); (focus exact rfl)) | ((with_reducible apply w_slN); (focus exact rfl)) | ((with_reducible apply w_slL); (focus exact rfl)) | ((with_reducible apply w_slT); (focus exact rfl)) | ((with_reducible apply w_escO); (focus exact rfl); (focus (repeat (first | exact SetAt.z | apply SetAt.s)))) | ((with_reducible apply w_mv); (focus exact rfl); (focus (repeat (first | exact SetAt.z | apply SetAt.s)))) | ((with_reducible refine w_modI ?_ ?_); (focus first | omega | decide)) | ((with_reducible refine w_fdvI ?_ ?_ ?_); (focus first | omega | decide); (focus first | omega | decide)) | ((with_reducible refine w_powI ?_ ?_); (focus decide)) | ((with_reducible refine w_mulI ?_ ?_); (focus first | exact .inr (by decide) | exact .inl (by decide) | exact .inr (by constructor <;> omega) | exact .inl (by constructor <;> omega))) | ((with_reducible apply w_app); (focus exact rfl)) | ((with_reducible apply w_appN); (focus exact rfl); (focus first | decide | (simp only [List.length_cons, List.length_nil]; decide)); (focus (repeat (first | exact SetAt.z | apply SetAt.s)))) | ((with_reducible apply w_isi); (focus exact rfl); (focus assumption)) | ((with_reducible apply w_isF); (focus exact rfl)) | ((with_reducible apply w_fldS); (focus exact rfl)) | ((with_reducible apply s_stN); (focus exact rfl); (focus exact Nat.le_of_ble_eq_true rfl); (focus (repeat (first | exact SetAt.z | apply SetAt.s)))) | ((with_reducible apply w_fldO); (focus exact rfl)) | ((with_reducible refine w_rg1 ?_ ?_); (focus first | (constructor <;> omega) | decide)) | ((with_reducible refine w_rg2 ?_ ?_); (focus first | (refine ⟨?_, ?_, ?_, ?_⟩ <;> omega) | decide)) | ((with_reducible refine w_rgW ?_ ?_); (focus constructor <;> omega)) | ((with_reducible refine w_tup ?_ ?_); (focus exact Nat.le_of_ble_eq_true rfl)) | ((with_reducible refine w_lst ?_ ?_); (focus exact Nat.le_of_ble_eq_true rfl)) | ((with_reducible refine w_pen_at ?_ ?_); (focus exact rfl)) | ((with_reducible refine s_pen_at ?_ ?_ ?_); (focus exact rfl); (focus exact rfl)) | ((with_reducible refine w_pen_digits ?_ ?_); (focus exact rfl)) | ((with_reducible refine s_pen_digits ?_ ?_); (focus exact rfl)) | ((with_reducible refine w_pen_count ?_ ?_); (focus exact rfl)) | ((with_reducible refine s_pen_count ?_ ?_); (focus exact rfl)) | ((with_reducible refine w_pen_fold ?_ ?_); (focus exact rfl)) | ((with_reducible refine s_pen_fold ?_ ?_); (focus exact rfl)) | ((with_reducible refine w_pen_cells ?_ ?_); (focus exact rfl)) | with_reducible refine s_dp ?_ | with_reducible refine if_not ?_ | with_reducible refine if_tt ?_ | with_reducible refine if_ff ?_ | ((with_reducible refine if_decT ?_ ?_); (focus first | omega | (simp only [List.length_cons, List.length_nil]; omega))) | ((with_reducible refine if_decF ?_ ?_); (focus first | omega | (simp only [List.length_cons, List.length_nil]; omega))) | with_reducible refine if_dec (fun hc => ?_) (fun hc => ?_) | with_reducible refine s_if ?_ | with_reducible refine w_andT ?_ | with_reducible refine w_orT ?_ | with_reducible refine w_andM ?_ | with_reducible refine w_orM ?_ | with_reducible refine w_notM ?_ | with_reducible refine w_ifM ?_ | with_reducible refine w_truT ?_ | with_reducible refine w_negI ?_ | with_reducible refine ex_truB ?_ | with_reducible refine ⟨_, rfl, ?_⟩ | dsimp only [L.d] | ((with_reducible refine if_t ?_ ?_); (focus exact rfl)) | ((with_reducible refine if_f ?_ ?_); (focus exact rfl)) | ((with_reducible apply w_len); (focus exact .inl rfl)) | ((with_reducible apply w_len); (focus exact .inr rfl))))
local macro_rules | `(tactic| fail "SA") => `(tactic| (repeat' fail "S1"))
local macro_rules | `(tactic| fail "SR") => `(tactic| (repeat fail "S1"))
set_option hygiene true
theorem pick_ok {F FD : FnS} {NN ND : List Str} (hF : F = runF NN (mPick FD)) (hN : NN.length = 2) (hD : FD = runF ND mDraw) (hND : ND.length = 5) {s : S} {p : Pen} {r : List MO} (hs : s.st = .dic p.fs :: r) {ds : List D} (h0 : 0 < ds.length) (h1 : ds.length < 1073741824) {Q : L → S → Prop}
    (q : ∀ (d : D) (p' : Pen), d ∈ ds → Q (.sh d) ⟨s.sl, .dic p'.fs :: r⟩) : wm (callN 2 F [.mref 0, .lst ds]) s Q := by
  refine w_call hF rfl ?_
  rw [hN, hs]
  show ws (mPick FD) ⟨[some (.sh (.mref 0)), some (.sh (.lst ds))], .dic p.fs :: r⟩ _ _ _ _
  unfold mPick
  fail "SA"
  refine draw_ok hD hND rfl (by omega) (by omega) fun x p' hx0 hx1 => ?_
  fail "SA"
  obtain ⟨k, rfl⟩ := Int.eq_ofNat_of_zero_le hx0
  have hk : k < ds.length := by omega
  refine w_ixW (.inl rfl) (atI_nat (List.getElem?_eq_getElem hk)) ?_
  fail "SA"
  exact q _ p' (List.getElem_mem hk)
/-- plain data -/
inductive Pln : Nat → D → Prop
  | int (k : Nat) (i : Int) : Pln k (.int i)
  | bl (k : Nat) (b : Bool) : Pln k (.bl b)
  | non (k : Nat) : Pln k .non
  | tup {k : Nat} {ds : List D} (h : ∀ d ∈ ds, Pln k d) (hl : ds.length ≤ lineN) : Pln (k + 1) (.tup ds)
def isTab : List (Str × String × Bool) := [("tuple", "int", false), ("tuple", "bool", false), ("tuple", "NoneType", false), ("tuple", "tuple", true), ("str", "int", false), ("int", "int", true), ("bool", "int", false)]
theorem is_ok {isi : List (List Str × Bv.Ty × Bool)} (H : ∀ e ∈ isTab, isiT isi [e.1] (.b e.2.1) = some e.2.2) {FF : Nat → FnS} {NN : List Str} (hF : ∀ j, FF (j + 1) = runF NN (mIs isi (FF j))) (hN : NN.length = 3) :
    ∀ (k : Nat) (d : D), Pln k d → ∀ (s : S) (Q : L → S → Prop), Q (.sh (.bl true)) s → wm (callN 2 (FF (k + 1)) [d, d]) s Q := by
  have t1 : isiT isi [Str.ofString "tuple"] (.b "int") = some false := H ("tuple", "int", false) (by simp [isTab])
  have t2 : isiT isi [Str.ofString "tuple"] (.b "bool") = some false := H ("tuple", "bool", false) (by simp [isTab])
  have t3 : isiT isi [Str.ofString "tuple"] (.b "NoneType") = some false := H ("tuple", "NoneType", false) (by simp [isTab])
  have t4 : isiT isi [Str.ofString "tuple"] (.b "tuple") = some true := H ("tuple", "tuple", true) (by simp [isTab])
  have t5 : isiT isi [Str.ofString "str"] (.b "int") = some false := H ("str", "int", false) (by simp [isTab])
  have t6 : isiT isi [Str.ofString "int"] (.b "int") = some true := H ("int", "int", true) (by simp [isTab])
  have t7 : isiT isi [Str.ofString "bool"] (.b "int") = some false := H ("bool", "int", false) (by simp [isTab])
  have body : ∀ (k : Nat) (d : D) (s : S) (Q : L → S → Prop), Q (.sh (.bl true)) s → ws (mIs isi (FF k)) ⟨[some (.sh d), some (.sh d), none], s.st⟩ (fun s' => Q (.sh .non) ⟨s.sl, s'.st⟩) (fun l s' => Q l ⟨s.sl, s'.st⟩) (fun _ => False) (fun _ => False) → wm (callN 2 (FF (k + 1)) [d, d]) s Q := fun k d s Q q h => by
    refine w_call (hF k) rfl ?_
    rw [hN]
    exact h
  intro k d hd
  induction hd with
  | int k i =>
    intro s Q q
    refine body k _ s Q q ?_
    unfold mIs
    fail "SA"
    all_goals simpa using q
  | bl k b =>
    intro s Q q
    refine body k _ s Q q ?_
    unfold mIs
    cases b
    all_goals fail "SA"
    all_goals exact q
  | non k =>
    intro s Q q
    refine body k _ s Q q ?_
    unfold mIs
    fail "SA"
    all_goals exact q
  | @tup k ds h hl ih =>
    intro s Q q
    refine body (k + 1) _ s Q q ?_
    unfold mIs
    fail "SA"
    have hl2 : ds.length ≤ 16777216 := hl
    fail "SA"
    refine w_lcP (.s (.s .z)) (by rw [rgD_len]; simpa using hl) (fun _ => none) (fun d hd => ?_) ?_
    · obtain ⟨i, hi, rfl⟩ := mem_rgD hd
      have hi : i < ds.length := by simpa using hi
      rw [Int.zero_add]
      refine ⟨_, .s (.s .z), ?_⟩
      fail "SA"
      refine w_ixW (.inr rfl) (atI_nat (List.getElem?_eq_getElem hi)) ?_
      fail "SA"
      refine w_ixW (.inr rfl) (atI_nat (List.getElem?_eq_getElem hi)) ?_
      fail "SA"
      refine ih _ (List.getElem_mem hi) _ _ ?_
      fail "SA"
      exact ⟨rfl, by simp⟩
    · have e0 : (rgD 0 (ds.length : Int).toNat).filterMap (fun _ => (none : Option D)) = [] := by simp
      rw [e0]
      fail "SA"
      refine w_eqD (b := true) rfl ?_
      fail "SA"
      exact q
end Bv

/-! comprehensions over lists of plain things; loops -/
namespace Bv
open PySem PySem.Spec PyProof.Rows L2
theorem wipeS_st' (s : S) : ∀ vs : List Nat, (wipeS s vs).st = s.st
  | [] => rfl
  | v :: vs => wipeS_st' s vs
theorem wipeS_get' {s : S} {i : Nat} : ∀ {vs : List Nat}, i ∉ vs → (wipeS s vs).sl[i]? = s.sl[i]?
  | [], _ => rfl
  | v :: vs, h => by
    show ((wipeS s vs).sl.set v none)[i]? = _
    rw [List.getElem?_set_ne (fun z => h (by simp [z]))]
    exact wipeS_get' (fun z => h (by simp [z]))
theorem wipeS_in' {s : S} {i : Nat} : ∀ {vs : List Nat}, i ∈ vs → i < s.sl.length → (wipeS s vs).sl[i]? = some none
  | v :: vs, h, hl => by
    show ((wipeS s vs).sl.set v none)[i]? = _
    by_cases e : v = i
    · subst e
      rw [List.getElem?_set_self (by rw [wipeS_len]; exact hl)]
    · rw [List.getElem?_set_ne e]
      exact wipeS_in' ((List.mem_cons.mp h).resolve_left (fun z => e z.symm)) hl
theorem wipeS_twice (s : S) (vs : List Nat) : wipeS (wipeS s vs) vs = wipeS s vs := by
  have h1 : (wipeS (wipeS s vs) vs).st = (wipeS s vs).st := wipeS_st' _ _
  have h2 : (wipeS (wipeS s vs) vs).sl = (wipeS s vs).sl := by
    apply List.ext_getElem?
    intro i
    by_cases hi : i ∈ vs
    · by_cases hl : i < s.sl.length
      · rw [wipeS_in' hi (by rw [wipeS_len]; exact hl), wipeS_in' hi hl]
      · rw [List.getElem?_eq_none (by rw [wipeS_len, wipeS_len]; omega), List.getElem?_eq_none (by rw [wipeS_len]; omega)]
    · rw [wipeS_get' hi]
  cases h : wipeS (wipeS s vs) vs
  cases h' : wipeS s vs
  rw [h] at h1 h2
  rw [h'] at h1 h2
  simp_all
theorem restS_same {s s' : S} {vs : List Nat} (h : wipeS s' vs = wipeS s vs) : restS s s' vs = s := by
  have hst : s'.st = s.st := by
    have := congrArg S.st h
    rwa [wipeS_st', wipeS_st'] at this
  have hln : s'.sl.length = s.sl.length := by
    have := congrArg (fun x : S => x.sl.length) h
    simpa [wipeS_len] using this
  have hsl : (restS s s' vs).sl = s.sl := by
    unfold restS
    apply List.ext_getElem?
    intro i
    show (((List.range s'.sl.length).map fun i => if i ∈ vs then (s.sl[i]?).getD none else (s'.sl[i]?).getD none))[i]? = _
    rw [List.getElem?_map]
    by_cases hi : i < s.sl.length
    · rw [List.getElem?_range (by rw [hln]; exact hi)]
      show some (if i ∈ vs then (s.sl[i]?).getD none else (s'.sl[i]?).getD none) = _
      by_cases hv : i ∈ vs
      · rw [if_pos hv, List.getElem?_eq_getElem hi]; rfl
      · rw [if_neg hv]
        have z := congrArg (fun x : S => x.sl[i]?) h
        rw [wipeS_get' hv, wipeS_get' hv] at z
        rw [z, List.getElem?_eq_getElem hi]; rfl
    · rw [List.getElem?_eq_none (by rw [List.length_range, hln]; omega), List.getElem?_eq_none (by omega)]
      rfl
  have : (restS s s' vs).st = s.st := hst
  cases h1 : restS s s' vs
  rw [h1] at hsl this
  cases s
  simp_all
section
variable {α : Type} {l : List α} {e : α → D} {vs : List Nat} {a : AS} {t : M Bool} {el : M D} {sl sm : List (Option L)} {st : List MO} {Q : L → S → Prop}
/-- a comprehension that leaves all as it was -/
theorem w_lcG (p : α → Bool) (f : α → D) (hw : wipeS ⟨sl, st⟩ vs = ⟨sm, st⟩) (hl : l.length ≤ lineN)
    (h : ∀ x ∈ l, ∃ sd, a (.sh (e x)) ⟨sm, st⟩ = some ⟨sd, st⟩ ∧ wipeS ⟨sd, st⟩ vs = ⟨sm, st⟩ ∧ wm t ⟨sd, st⟩ fun b s4 => s4 = ⟨sd, st⟩ ∧ b = p x ∧ (p x = true → wm el ⟨sd, st⟩ fun y s5 => s5 = ⟨sd, st⟩ ∧ y = f x))
    (q : Q (.ol ((l.filter p).map f)) ⟨sl, st⟩) : wm (lcD (l.map e) vs a t el) ⟨sl, st⟩ Q := by
  unfold lcD
  have key : ∀ (r : List α) (acc : List D) (s : S), (∀ d ∈ r, d ∈ l) → acc.length + r.length ≤ lineN → wipeS s vs = ⟨sm, st⟩ → ∃ s', lcB vs a t el (r.map e) acc s = .ok (acc ++ (r.filter p).map f) s' ∧ wipeS s' vs = ⟨sm, st⟩ := by
    intro r
    induction r with
    | nil => intro acc s _ _ hs; exact ⟨s, by simp [lcB], hs⟩
    | cons x r ih =>
      intro acc s hm hlen hs
      obtain ⟨sd, h1, h2, h3⟩ := h x (hm x (by simp))
      obtain ⟨b, s4, e4, rfl, hb, h4⟩ := wm_ok h3
      rw [List.map_cons]
      unfold lcB
      rw [hs, h1]
      dsimp only
      rw [e4]
      rw [List.length_cons] at hlen
      subst hb
      cases hp : p x with
      | false =>
        dsimp only
        obtain ⟨s', h5, h6⟩ := ih acc ⟨sd, st⟩ (fun x hx => hm x (by simp [hx])) (by omega) h2
        exact ⟨s', by rw [h5, List.filter_cons, hp]; rfl, h6⟩
      | true =>
        dsimp only
        obtain ⟨y, s5, e5, rfl, h7⟩ := wm_ok (h4 hp)
        rw [e5]
        dsimp only
        rw [if_pos (by omega)]
        obtain ⟨s', h5, h6⟩ := ih (acc ++ [y]) ⟨sd, st⟩ (fun x hx => hm x (by simp [hx])) (by rw [List.length_append, List.length_singleton]; omega) h2
        refine ⟨s', ?_, h6⟩
        rw [h5, List.filter_cons, hp, h7]
        simp
  obtain ⟨s', h5, h6⟩ := key l [] (wipeS ⟨sl, st⟩ vs) (fun _ h => h) (by simpa using hl) (by rw [hw, ← hw, wipeS_twice, hw])
  refine w_eq (s' := ⟨sl, st⟩) (a := .ol ((l.filter p).map f)) ?_ q
  unfold lcM
  show (match lcB vs a t el (l.map e) [] (wipeS ⟨sl, st⟩ vs) with | .ok ys s2 => (Res.ok (L.ol ys) (restS ⟨sl, st⟩ s2 vs) : Res L) | _ => Res.bad) = _
  rw [h5]
  dsimp only
  rw [restS_same (h6.trans hw.symm), List.nil_append]
/-- without a test -/
theorem w_lcF (f : α → D) (hw : wipeS ⟨sl, st⟩ vs = ⟨sm, st⟩) (hl : l.length ≤ lineN)
    (h : ∀ x ∈ l, ∃ sd, a (.sh (e x)) ⟨sm, st⟩ = some ⟨sd, st⟩ ∧ wipeS ⟨sd, st⟩ vs = ⟨sm, st⟩ ∧ wm el ⟨sd, st⟩ fun y s5 => s5 = ⟨sd, st⟩ ∧ y = f x)
    (q : Q (.ol (l.map f)) ⟨sl, st⟩) : wm (lcD (l.map e) vs a yesM el) ⟨sl, st⟩ Q := by
  refine w_lcG (fun _ => true) f hw hl (fun x hx => ?_) (by rw [List.filter_eq_self.mpr (fun _ _ => rfl)]; exact q)
  obtain ⟨sd, h1, h2, h3⟩ := h x hx
  exact ⟨sd, h1, h2, w_yes ⟨rfl, rfl, fun _ => h3⟩⟩
theorem rgD_map (a : Int) (m : Nat) : rgD a m = (List.range m).map fun i => D.int (a + (i : Nat)) := rfl
/-- a comprehension with draws: each turn makes some x with P x -/
theorem w_lcW {β : Type} {ds : List D} {T : Type} (g : β → D) (τ : T → List MO) (P : Nat → β → Prop) {p0 : T} (hw : wipeS ⟨sl, []⟩ vs = ⟨sm, []⟩) (hl : ds.length ≤ lineN)
    (h : ∀ (i : Nat) (d : D) (p : T), ds[i]? = some d → ∃ sd, a (.sh d) ⟨sm, τ p⟩ = some ⟨sd, τ p⟩ ∧ wipeS ⟨sd, []⟩ vs = ⟨sm, []⟩ ∧ wm el ⟨sd, τ p⟩ fun y s5 => ∃ p' x, s5 = ⟨sd, τ p'⟩ ∧ y = g x ∧ P i x)
    (q : ∀ (xs : List β) (p : T), xs.length = ds.length → (∀ (i : Nat) (x : β), xs[i]? = some x → P i x) → Q (.ol (xs.map g)) ⟨sl, τ p⟩) : wm (lcD ds vs a yesM el) ⟨sl, τ p0⟩ Q := by
  unfold lcD
  have wst : ∀ (x y : List (Option L)) (st : List MO), wipeS ⟨x, []⟩ vs = ⟨y, []⟩ → wipeS ⟨x, st⟩ vs = ⟨y, st⟩ := by
    intro x y st hxy
    have h1 : ∀ vs : List Nat, (wipeS ⟨x, st⟩ vs).sl = (wipeS ⟨x, []⟩ vs).sl := fun vs => by
      induction vs with
      | nil => rfl
      | cons v vs ih => show (wipeS ⟨x, st⟩ vs).sl.set v none = (wipeS ⟨x, []⟩ vs).sl.set v none; rw [ih]
    have h2 := h1 vs
    rw [hxy] at h2
    have h3 := wipeS_st' ⟨x, st⟩ vs
    cases hz : wipeS ⟨x, st⟩ vs
    rw [hz] at h2 h3
    simp_all
  have key : ∀ (r : List D) (i : Nat) (xs : List β) (p : T) (s : S), ds.drop i = r → xs.length = i → (∀ (j : Nat) (x : β), xs[j]? = some x → P j x) → wipeS s vs = ⟨sm, τ p⟩ →
      ∃ (xs' : List β) (p' : T) (s' : S), lcB vs a yesM el r (xs.map g) s = .ok (xs'.map g) s' ∧ xs'.length = i + r.length ∧ (∀ (j : Nat) (x : β), xs'[j]? = some x → P j x) ∧ wipeS s' vs = ⟨sm, τ p'⟩ := by
    intro r
    induction r with
    | nil => intro i xs p s _ hx hP hs; exact ⟨xs, p, s, by simp [lcB], by simpa using hx, hP, hs⟩
    | cons d r ih =>
      intro i xs p s hd hx hP hs
      have hdi : ds[i]? = some d := by
        have := congrArg (fun z : List D => z[0]?) hd
        simpa using this
      have hi : i < ds.length := (List.getElem?_eq_some_iff.mp hdi).1
      obtain ⟨sd, h1, h2, h3⟩ := h i d p hdi
      unfold lcB
      rw [hs, h1]
      dsimp only
      show ∃ (xs' : List β) (p' : T) (s' : S), (match el ⟨sd, τ p⟩ with | .ok y s3 => if (xs.map g).length < lineN then lcB vs a yesM el r (xs.map g ++ [y]) s3 else Res.bad | _ => Res.bad) = .ok (xs'.map g) s' ∧ _
      obtain ⟨y, s5, e5, p', x, rfl, hy, hPx⟩ := wm_ok h3
      rw [e5]
      dsimp only
      rw [if_pos (by rw [List.length_map, hx]; omega), hy, show xs.map g ++ [g x] = (xs ++ [x]).map g by simp]
      obtain ⟨xs', p2, s', g1, g2, g3, g4⟩ := ih (i + 1) (xs ++ [x]) p' ⟨sd, τ p'⟩ (by rw [← List.drop_drop, hd]; rfl) (by simp [hx]) (fun j z hz => by
        by_cases hj : j < xs.length
        · rw [List.getElem?_append_left hj] at hz; exact hP j z hz
        · rw [List.getElem?_append_right (by omega)] at hz
          cases hk : j - xs.length with
          | zero =>
            rw [hk] at hz
            have : x = z := by simpa using hz
            subst this
            have : j = i := by omega
            subst this
            exact hPx
          | succ k => rw [hk] at hz; simp at hz) (wst _ _ _ h2)
      exact ⟨xs', p2, s', g1, by rw [g2, List.length_cons]; omega, g3, g4⟩
  obtain ⟨xs', p', s', h5, h6, h7, h8⟩ := key ds 0 [] p0 (wipeS ⟨sl, τ p0⟩ vs) (by rw [List.drop_zero]) rfl (fun j x hx => by simp at hx) (by rw [wipeS_twice]; exact wst _ _ _ hw)
  have hr : restS ⟨sl, τ p0⟩ s' vs = ⟨sl, τ p'⟩ := by
    have h9 := restS_same (s := ⟨sl, τ p'⟩) (s' := s') (h8.trans (wst _ _ _ hw).symm)
    rw [← h9]
    unfold restS
    rfl
  refine w_eq (s' := ⟨sl, τ p'⟩) (a := .ol (xs'.map g)) ?_ (q xs' p' (by omega) h7)
  unfold lcM
  show (match lcB vs a yesM el ds [] (wipeS ⟨sl, τ p0⟩ vs) with | .ok ys s2 => (Res.ok (L.ol ys) (restS ⟨sl, τ p0⟩ s2 vs) : Res L) | _ => Res.bad) = _
  have h5' : lcB vs a yesM el ds [] (wipeS ⟨sl, τ p0⟩ vs) = .ok (xs'.map g) s' := h5
  rw [h5']
  dsimp only
  rw [hr]
end
/-! loops -/
theorem s_forR {sl : S} {a : AS} {f : MS} {m n : Nat} {N : S → Prop} {R : L → S → Prop} {B C : S → Prop} (I : Nat → S → Prop) (hm : m = n) (h0 : I 0 sl)
    (hb : ∀ (i : Nat) (s : S), i < n → I i s → ws (asg a (.sh (.int (i : Int)))) s (fun s1 => ws f s1 (I (i + 1)) R N (I (i + 1))) (fun _ _ => False) (fun _ => False) (fun _ => False)) (hN : ∀ s, I n s → N s) : ws (forB a f (rgD 0 m)) sl N R B C := by
  subst hm
  refine s_forI I h0 (fun i d s hd hi => ?_) (fun s hi => hN s (by rw [rgD_len] at hi; exact hi))
  have hlt : i < (rgD 0 m).length := (List.getElem?_eq_some_iff.mp hd).1
  rw [rgD_get hlt, Int.zero_add] at hd
  cases hd
  rw [rgD_len] at hlt
  exact hb i s hlt hi
theorem s_forL {α : Type} {sl : S} {a : AS} {f : MS} {l : List α} {e : α → D} {N : S → Prop} {R : L → S → Prop} {B C : S → Prop} (I : Nat → S → Prop) (h0 : I 0 sl)
    (hb : ∀ (i : Nat) (hi : i < l.length) (s : S), I i s → ws (asg a (.sh (e l[i]))) s (fun s1 => ws f s1 (I (i + 1)) R N (I (i + 1))) (fun _ _ => False) (fun _ => False) (fun _ => False)) (hN : ∀ s, I l.length s → N s) : ws (forB a f (l.map e)) sl N R B C := by
  refine s_forI I h0 (fun i d s hd hi => ?_) (fun s hi => hN s (by rw [List.length_map] at hi; exact hi))
  rw [List.getElem?_map] at hd
  by_cases hlt : i < l.length
  · rw [List.getElem?_eq_getElem hlt] at hd
    cases hd
    exact hb i hlt s hi
  · rw [List.getElem?_eq_none (by omega)] at hd
    cases hd
theorem take_get {α : Type} {l : List α} {i : Nat} (h : i < l.length) : l.take (i + 1) = l.take i ++ [l[i]] := by
  rw [List.take_succ, List.getElem?_eq_getElem h]
  rfl
theorem w_bools {f : List Bool → Bool} {l : L} {ds : List D} {bs : List Bool} {s : S} {Q : L → S → Prop} (h : l.d = .lst ds) (h2 : blsOf ds = some bs) (q : Q (.sh (.bl (f bs))) s) : wm (boolsW f l) s Q := by
  refine w_eq (s' := s) (a := .sh (.bl (f bs))) ?_ q
  unfold boolsW
  rw [h]
  dsimp only
  rw [h2]
  rfl
theorem w_best {f : List Int → Int} {l : L} {ns : List Int} {s : S} {Q : L → S → Prop} (h : l.d = .lst (ns.map D.int) ∨ l.d = .tup (ns.map D.int)) (h2 : ns ≠ []) (q : Q (.sh (.int (f ns))) s) : wm (bestW2 f l) s Q := by
  refine w_eq (s' := s) (a := .sh (.int (f ns))) ?_ q
  unfold bestW2
  rcases h with h | h <;> rw [h] <;> dsimp only <;> rw [intsOf_map] <;> cases ns with
  | nil => exact absurd rfl h2
  | cons x r => rfl
theorem w_sum {l : L} {ns : List Int} {s : S} {Q : L → S → Prop} (h : l.d = .lst (ns.map D.int) ∨ l.d = .tup (ns.map D.int)) (q : Q (.sh (.int ns.sum)) s) : wm (sumW2 l) s Q := by
  refine w_eq (s' := s) (a := .sh (.int ns.sum)) ?_ q
  unfold sumW2
  rcases h with h | h <;> rw [h] <;> dsimp only <;> rw [intsOf_map] <;> rfl
theorem w_rgOf {f : M D} {g : List D → L} {s : S} {Q : L → S → Prop} (h : wm f s fun d s' => wm (rgW g d) s' Q) : wm (rgOf f g) s Q := w_bind h
theorem w_rgW {g : List D → L} {j : Int} {s : S} {Q : L → S → Prop} (h : 0 ≤ j ∧ j ≤ 16777216) (q : Q (g (rgD 0 j.toNat)) s) : wm (rgW g (.int j)) s Q := by
  refine w_eq (s' := s) (a := g (rgD 0 j.toNat)) ?_ q
  unfold rgW
  dsimp only
  rw [if_pos (by simp only [Bool.and_eq_true, decide_eq_true_eq]; exact h)]
  rfl
theorem w_rgOf2 {fa fb : M D} {g : List D → L} {s : S} {Q : L → S → Prop} (h : wm fa s fun d s1 => wm fb s1 fun e s2 => wm (rgW2 g d e) s2 Q) : wm (rgOf2 fa fb g) s Q := w_bind (wm_mono h fun _ _ h => w_bind h)
theorem w_rgW2 {g : List D → L} {i j : Int} {s : S} {Q : L → S → Prop} (h : (-1073741824 ≤ i ∧ i ≤ 1073741824) ∧ (-1073741824 ≤ j ∧ j ≤ 1073741824) ∧ j - i ≤ 16777216) (q : Q (g (rgD i (j - i).toNat)) s) : wm (rgW2 g (.int i) (.int j)) s Q := by
  refine w_eq (s' := s) (a := g (rgD i (j - i).toNat)) ?_ q
  unfold rgW2
  dsimp only
  rw [if_pos (by simp only [Bool.and_eq_true, decide_eq_true_eq]; omega)]
  rfl
theorem w_mul1 {d : D} {j : Int} {s : S} {Q : L → S → Prop} (h : 0 ≤ j ∧ j ≤ 1000) (q : Q (.sh (.tup (List.replicate j.toNat d))) s) : wm (gMul (.tup [d]) (.int j)) s Q := by
  refine w_eq (s' := s) (a := .sh (.tup (List.replicate j.toNat d))) ?_ q
  unfold gMul
  dsimp only
  rw [if_pos (by simp only [Bool.and_eq_true, decide_eq_true_eq, List.length_cons, List.length_nil]; omega)]
  have : (List.replicate j.toNat [d]).flatten = List.replicate j.toNat d := by
    generalize j.toNat = k
    induction k with
    | zero => rfl
    | succ k ih => rw [List.replicate_succ, List.replicate_succ, List.flatten_cons, ih]; rfl
  rw [this]
  rfl
theorem w_addT {ds es : List D} {s : S} {Q : L → S → Prop} (h : ds.length + es.length ≤ lineN) (q : Q (.sh (.tup (ds ++ es))) s) : wm (gAdd (.tup ds) (.tup es)) s Q := by
  refine w_eq (s' := s) (a := .sh (.tup (ds ++ es))) ?_ q
  unfold gAdd
  dsimp only
  rw [if_pos h]
  rfl
theorem w_inN {fa : M D} {i : Nat} {neg : Bool} {s : S} {Q : L → S → Prop} (h : wm fa s fun d s1 => wm (slN i) s1 fun l s2 => wm (inL neg d l) s2 Q) : wm (inN fa i neg) s Q := w_bind (wm_mono h fun _ _ h => w_bind h)
theorem w_inLs {d e : D} {neg : Bool} {s : S} {Q : L → S → Prop} (h : wm (gIn2 neg d e) s Q) : wm (inL neg d (.sh e)) s Q := h
theorem w_inLo {d : D} {ds : List D} {neg : Bool} {s : S} {Q : L → S → Prop} (h : wm (gIn2 neg d (.lst ds)) s Q) : wm (inL neg d (.ol ds)) s Q := h
theorem w_gcd {i j : Int} {s : S} {Q : L → S → Prop} (q : Q (.sh (.int ((Nat.gcd i.natAbs j.natAbs : Nat) : Int))) s) : wm (gGcd [.int i, .int j]) s Q := ⟨q⟩
theorem w_idxM {fa fb : M D} {s : S} {Q : L → S → Prop} (h : wm fa s fun d s1 => ∃ ds, d = .lst ds ∧ wm fb s1 fun e s2 => wm (gIdx (.lst ds) e) s2 Q) : wm (idxM fa fb) s Q := by
  refine w_bind (wm_mono h fun d s1 ⟨ds, e, q⟩ => ?_)
  subst e
  exact w_bind q
theorem w_ext {i : Nat} {f : M D} {ds : List D} {s : S} {Q : L → S → Prop} (h0 : s.sl[i]? = some (some (.ol ds))) (h : wm f s fun d s' => wm (extN i d) s' Q) : wm (extM i f) s Q := by
  have hc : chkL i s = .ok () s := by unfold chkL; rw [h0]
  exact w_bind (w_eq hc (w_bind h))
theorem w_extN {i : Nat} {ds es : List D} {sl sm : List (Option L)} {st : List MO} {Q : L → S → Prop} (h : sl[i]? = some (some (.ol ds))) (hl : ds.length + es.length ≤ lineN) (hs : SetAt i (some (.ol (ds ++ es))) sl sm) (q : Q (.sh .non) ⟨sm, st⟩) : wm (extN i (.lst es)) ⟨sl, st⟩ Q := by
  refine w_eq (s' := ⟨sm, st⟩) (a := .sh .non) ?_ q
  unfold extN
  dsimp only
  rw [h]
  dsimp only
  rw [if_pos hl, hs.eq]
theorem w_enW {es : List D} {s : S} {Q : List D → S → Prop} (q : Q (enD 0 es) s) : wm (enW [.lst es]) s Q := ⟨q⟩
theorem w_enT {es : List D} {s : S} {Q : List D → S → Prop} (q : Q (enD 0 es) s) : wm (enW [.tup es]) s Q := ⟨q⟩
theorem w_zpL {es fs : List D} {s : S} {Q : List D → S → Prop} (q : Q (zpD es fs) s) : wm (zpW [.lst es, .lst fs]) s Q := ⟨q⟩
theorem w_zpT {es fs : List D} {s : S} {Q : List D → S → Prop} (q : Q (zpD es fs) s) : wm (zpW [.tup es, .tup fs]) s Q := ⟨q⟩
theorem enD_map {α : Type} (e : α → D) : ∀ (k : Nat) (l : List α), enD k (l.map e) = (l.zipIdx k).map fun p => .tup [.int (p.2 : Nat), e p.1]
  | _, [] => rfl
  | k, x :: r => by
    show D.tup [.int (k : Nat), e x] :: enD (k + 1) (r.map e) = _
    rw [enD_map e (k + 1) r]
    rfl
theorem zpD_map {α β : Type} (e : α → D) (f : β → D) : ∀ (l : List α) (m : List β), zpD (l.map e) (m.map f) = (l.zip m).map fun p => .tup [e p.1, f p.2]
  | [], _ => by simp [zpD]
  | _ :: _, [] => by simp [zpD]
  | x :: r, y :: q => by
    show D.tup [e x, f y] :: zpD (r.map e) (q.map f) = _
    rw [zpD_map e f r q]
    rfl
theorem w_sort {l : L} {ns : List Int} {s : S} {Q : L → S → Prop} (h : l.d = .lst (ns.map D.int)) (q : Q (.ol ((sortI ns).map D.int)) s) : wm (sortW2 l) s Q := by
  refine w_eq (s' := s) (a := .ol ((sortI ns).map D.int)) ?_ q
  unfold sortW2
  rw [h]
  dsimp only
  rw [intsOf_map]
  rfl
/-! the law's end -/
theorem plain_of {F : FnS} {N : List Str} {m : MS} (hF : F = runF N m) (h : ∀ ns : List Int, ns.length ≤ 63 → ws m (initS N [.scr (ns.map D.int)] []) (fun _ => False) (fun l _ => l = .sh (.bl true)) (fun _ => False) (fun _ => False)) : Plain F := fun ns hns => by
  have h := (h ns hns).out
  subst hF
  unfold runF
  show ∃ s, (match m (initS N [.scr (ns.map D.int)] []) with
    | .rt x s' => Res.ok x s'
    | .nx s' => Res.ok (.sh .non) s'
    | .exc C fs s' => Res.exc C fs s'
    | _ => Res.bad) = Res.ok (.sh (.bl true)) s
  cases e : m (initS N [.scr (ns.map D.int)] []) with
  | rt l s' =>
    rw [e] at h
    have h : l = .sh (.bl true) := h
    exact ⟨s', by rw [h]⟩
  | _ => rw [e] at h; exact h.elim
end Bv

/-! plain things as values: ==, in -/
namespace Bv
open PySem PySem.Spec PyProof.Rows L2
/-- e writes the things of P as plain data of depth k at most; unlike things as unlike data -/
structure Emb {α : Type} [DecidableEq α] (e : α → D) (P : α → Prop) (k : Nat) : Prop where
  ok : ∃ py : α → PyData, ∀ x, P x → (e x).py = some (py x) ∧ (py x).canLay0 = true ∧ (py x).depth ≤ k ∧ ∀ y, P y → PyData.eqv (py x) (py y) = decide (x = y)
section
variable {α β γ : Type} [DecidableEq α] [DecidableEq β] [DecidableEq γ] {e : α → D} {P : α → Prop} {k : Nat} {eb : β → D} {Pb : β → Prop} {ec : γ → D} {Pc : γ → Prop}
theorem emb_int : Emb D.int (fun _ => True) 0 := ⟨fun i => .int i, fun x _ => ⟨by unfold D.py; rfl, by simp [PyData.canLay0], by simp [PyData.depth], fun y _ => by rw [PyData.eqv]; rfl⟩⟩
theorem emb_bl : Emb D.bl (fun _ => True) 0 := ⟨fun i => .bool i, fun x _ => ⟨by unfold D.py; rfl, by simp [PyData.canLay0], by simp [PyData.depth], fun y _ => by rw [PyData.eqv]; cases x <;> cases y <;> rfl⟩⟩
theorem emb_str : Emb D.str (fun x => PyData.strOk x = true) 0 := ⟨fun i => .str i, fun x h => ⟨by unfold D.py; rfl, by simpa [PyData.canLay0] using h, by simp [PyData.depth], fun y _ => by rw [PyData.eqv]; by_cases h : x = y <;> simp [h]⟩⟩
theorem pyL_emb {py : α → PyData} : ∀ (xs : List α), (∀ x ∈ xs, (e x).py = some (py x)) → pyL (xs.map e) = some (xs.map py)
  | [], _ => rfl
  | x :: r, h => by
    show pyL (e x :: r.map e) = _
    unfold pyL
    rw [h x (by simp), pyL_emb r (fun y hy => h y (by simp [hy]))]
    rfl
theorem layAll_emb {py : α → PyData} : ∀ (xs : List α), (∀ x ∈ xs, (py x).canLay0 = true) → PyData.canLayAll0 (xs.map py) = true
  | [], _ => by simp [PyData.canLayAll0]
  | x :: r, h => by
    simp only [List.map_cons, PyData.canLayAll0, Bool.and_eq_true]
    exact ⟨h x (by simp), layAll_emb r (fun y hy => h y (by simp [hy]))⟩
theorem depAll_emb {py : α → PyData} : ∀ (xs : List α), (∀ x ∈ xs, (py x).depth ≤ k) → PyData.depthAll (xs.map py) ≤ k
  | [], _ => by simp [PyData.depthAll]
  | x :: r, h => by
    simp only [List.map_cons, PyData.depthAll]
    have := h x (by simp)
    have := depAll_emb r (fun y hy => h y (by simp [hy]))
    omega
theorem eqvAll_emb {py : α → PyData} (h : ∀ x, P x → ∀ y, P y → PyData.eqv (py x) (py y) = decide (x = y)) : ∀ (xs ys : List α), (∀ x ∈ xs, P x) → (∀ y ∈ ys, P y) → PyData.eqvAll (xs.map py) (ys.map py) = decide (xs = ys)
  | [], [], _, _ => by simp [PyData.eqvAll]
  | [], _ :: _, _, _ => by simp [PyData.eqvAll]
  | _ :: _, [], _, _ => by simp [PyData.eqvAll]
  | x :: r, y :: q, h1, h2 => by
    simp only [List.map_cons, PyData.eqvAll]
    rw [h x (h1 x (by simp)) y (h2 y (by simp)), eqvAll_emb h r q (fun z hz => h1 z (by simp [hz])) (fun z hz => h2 z (by simp [hz]))]
    simp [Bool.decide_and]
theorem emb_tup (h : Emb e P k) : Emb (fun xs : List α => .tup (xs.map e)) (fun xs => ∀ x ∈ xs, P x) (k + 1) := by
  obtain ⟨py, h⟩ := h.ok
  refine ⟨fun xs => .tuple (xs.map py), fun xs hx => ⟨?_, ?_, ?_, fun ys hy => ?_⟩⟩
  · unfold D.py; rw [pyL_emb xs fun x hh => (h x (hx x hh)).1]; rfl
  · simp only [PyData.canLay0]; exact layAll_emb xs fun x hh => (h x (hx x hh)).2.1
  · simp only [PyData.depth]
    have := depAll_emb (k := k) (py := py) xs fun x hh => (h x (hx x hh)).2.2.1
    omega
  · rw [PyData.eqv]; exact eqvAll_emb (P := P) (fun x hx y hy => (h x hx).2.2.2 y hy) xs ys hx hy
theorem emb_lst (h : Emb e P k) : Emb (fun xs : List α => .lst (xs.map e)) (fun xs => ∀ x ∈ xs, P x) (k + 1) := by
  obtain ⟨py, h⟩ := h.ok
  refine ⟨fun xs => .list (xs.map py), fun xs hx => ⟨?_, ?_, ?_, fun ys hy => ?_⟩⟩
  · unfold D.py; rw [pyL_emb xs fun x hh => (h x (hx x hh)).1]; rfl
  · simp only [PyData.canLay0]; exact layAll_emb xs fun x hh => (h x (hx x hh)).2.1
  · simp only [PyData.depth]
    have := depAll_emb (k := k) (py := py) xs fun x hh => (h x (hx x hh)).2.2.1
    omega
  · rw [PyData.eqv]; exact eqvAll_emb (P := P) (fun x hx y hy => (h x hx).2.2.2 y hy) xs ys hx hy
theorem Emb.up (h : Emb e P k) {m : Nat} (hm : k ≤ m) : Emb e P m := by
  obtain ⟨py, h⟩ := h.ok
  exact ⟨py, fun x hx => ⟨(h x hx).1, (h x hx).2.1, Nat.le_trans (h x hx).2.2.1 hm, (h x hx).2.2.2⟩⟩
theorem emb_pair (h : Emb e P k) (hb : Emb eb Pb k) : Emb (fun p : α × β => .tup [e p.1, eb p.2]) (fun p => P p.1 ∧ Pb p.2) (k + 1) := by
  obtain ⟨py, h⟩ := h.ok
  obtain ⟨pb, hb⟩ := hb.ok
  refine ⟨fun p => .tuple [py p.1, pb p.2], fun ⟨x, z⟩ ⟨hx, hz⟩ => ⟨?_, ?_, ?_, fun ⟨x', z'⟩ ⟨hx', hz'⟩ => ?_⟩⟩
  · simp only [D.py, pyL, (h x hx).1, (hb z hz).1]; rfl
  · simp only [PyData.canLay0, PyData.canLayAll0, (h x hx).2.1, (hb z hz).2.1, Bool.and_self]
  · simp only [PyData.depth, PyData.depthAll]
    have := (h x hx).2.2.1
    have := (hb z hz).2.2.1
    omega
  · simp only [PyData.eqv, PyData.eqvAll, (h x hx).2.2.2 x' hx', (hb z hz).2.2.2 z' hz', Prod.mk.injEq, Bool.decide_and, Bool.and_true]
theorem emb_trip (h : Emb e P k) (hb : Emb eb Pb k) (hc : Emb ec Pc k) : Emb (fun p : α × β × γ => .tup [e p.1, eb p.2.1, ec p.2.2]) (fun p => P p.1 ∧ Pb p.2.1 ∧ Pc p.2.2) (k + 1) := by
  obtain ⟨py, h⟩ := h.ok
  obtain ⟨pb, hb⟩ := hb.ok
  obtain ⟨pc, hc⟩ := hc.ok
  refine ⟨fun p => .tuple [py p.1, pb p.2.1, pc p.2.2], fun ⟨x, z, w⟩ ⟨hx, hz, hw⟩ => ⟨?_, ?_, ?_, fun ⟨x', z', w'⟩ ⟨hx', hz', hw'⟩ => ?_⟩⟩
  · simp only [D.py, pyL, (h x hx).1, (hb z hz).1, (hc w hw).1]; rfl
  · simp only [PyData.canLay0, PyData.canLayAll0, (h x hx).2.1, (hb z hz).2.1, (hc w hw).2.1, Bool.and_self]
  · simp only [PyData.depth, PyData.depthAll]
    have := (h x hx).2.2.1
    have := (hb z hz).2.2.1
    have := (hc w hw).2.2.1
    omega
  · simp only [PyData.eqv, PyData.eqvAll, (h x hx).2.2.2 x' hx', (hb z hz).2.2.2 z' hz', (hc w hw).2.2.2 w' hw', Prod.mk.injEq, Bool.decide_and, Bool.and_true]
theorem Emb.eq (h : Emb e P k) (hk : k ≤ 64) {x y : α} (hx : P x) (hy : P y) : eqD (e x) (e y) = some (decide (x = y)) := by
  obtain ⟨py, h⟩ := h.ok
  obtain ⟨a1, a2, a3, a4⟩ := h x hx
  obtain ⟨b1, b2, b3, b4⟩ := h y hy
  unfold eqD
  rw [a1, b1]
  dsimp only
  rw [if_pos, a4 y hy]
  unfold SeqAt.shaped
  rw [a2, b2]
  simp only [Bool.true_and, Bool.and_eq_true, decide_eq_true_eq]
  omega
theorem Emb.inL (h : Emb e P k) (hk : k < 64) {x : α} {ys : List α} (hx : P x) (hy : ∀ y ∈ ys, P y) : inD (e x) (.lst (ys.map e)) = some (decide (x ∈ ys)) ∧ inD (e x) (.tup (ys.map e)) = some (decide (x ∈ ys)) := by
  obtain ⟨py, h⟩ := h.ok
  obtain ⟨a1, a2, a3, a4⟩ := h x hx
  have c1 := pyL_emb ys fun y hh => (h y (hy y hh)).1
  have c2 := layAll_emb (py := py) ys fun y hh => (h y (hy y hh)).2.1
  have c3 := depAll_emb (k := k) (py := py) ys fun y hh => (h y (hy y hh)).2.2.1
  have c4 : (ys.map py).any (fun z => PyData.eqv z (py x)) = decide (x ∈ ys) := by
    rw [List.any_map]
    have : (ys.any fun y => decide (y = x)) = decide (x ∈ ys) := by
      rw [Bool.eq_iff_iff, List.any_eq_true, decide_eq_true_eq]
      exact ⟨fun ⟨y, hy, e⟩ => by rw [← of_decide_eq_true e]; exact hy, fun hx => ⟨x, hx, by simp⟩⟩
    rw [← this]
    have hc : ∀ (l : List α), (∀ y ∈ l, P y) → l.any ((fun z => PyData.eqv z (py x)) ∘ py) = l.any fun y => decide (y = x) := fun l => by
      induction l with
      | nil => intro _; rfl
      | cons y r ih =>
        intro hl
        rw [List.any_cons, List.any_cons, ih fun z hz => hl z (by simp [hz])]
        show (PyData.eqv (py y) (py x) || _) = _
        rw [(h y (hl y (by simp))).2.2.2 x hx]
    exact hc ys hy
  have c5 : ((SeqAt.shaped (py x) && SeqAt.shaped (.list (ys.map py))) = true) ∧ ((SeqAt.shaped (py x) && SeqAt.shaped (.tuple (ys.map py))) = true) := by
    unfold SeqAt.shaped
    simp only [PyData.canLay0, a2, c2, Bool.true_and, Bool.and_eq_true, decide_eq_true_eq]
    simp only [PyData.depth]
    omega
  constructor
  · show (match (e x).py, pyL (ys.map e) with | some p, some qs => if SeqAt.shaped p && SeqAt.shaped (.list qs) then some (qs.any fun z => PyData.eqv z p) else none | _, _ => none) = _
    rw [a1, c1]
    dsimp only
    rw [if_pos c5.1, c4]
  · show (match (e x).py, pyL (ys.map e) with | some p, some qs => if SeqAt.shaped p && SeqAt.shaped (.tuple qs) then some (qs.any fun z => PyData.eqv z p) else none | _, _ => none) = _
    rw [a1, c1]
    dsimp only
    rw [if_pos c5.2, c4]
end
theorem w_eqE {α : Type} [DecidableEq α] {e : α → D} {P : α → Prop} {k : Nat} (h : Emb e P k) (hk : k ≤ 64) {x y : α} (hx : P x) (hy : P y) {s : S} {Q : L → S → Prop} (q : Q (.sh (.bl (decide (x = y)))) s) : wm (gEq (e x) (e y)) s Q := w_eqD (h.eq hk hx hy) q
theorem w_neE {α : Type} [DecidableEq α] {e : α → D} {P : α → Prop} {k : Nat} (h : Emb e P k) (hk : k ≤ 64) {x y : α} (hx : P x) (hy : P y) {s : S} {Q : L → S → Prop} (q : Q (.sh (.bl (!decide (x = y)))) s) : wm (gNe (e x) (e y)) s Q := w_neD (h.eq hk hx hy) q
theorem w_inD {d e : D} {b : Bool} {neg : Bool} (h : inD d e = some b) {s : S} {Q : L → S → Prop} (q : Q (.sh (.bl (if neg then !b else b))) s) : wm (gIn2 neg d e) s Q := by
  refine w_eq (s' := s) (a := .sh (.bl (if neg then !b else b))) ?_ q
  unfold gIn2
  split
  · cases h
  · cases h
  · unfold gIn; rw [h]; rfl
/-! slices -/
theorem w_noP {s : S} {Q : Option Int → S → Prop} (q : Q none s) : wm noP s Q := ⟨q⟩
theorem w_soP {f : M D} {s : S} {Q : Option Int → S → Prop} (h : wm f s fun d s' => ∃ i, d = .int i ∧ Q (some i) s') : wm (soP f) s Q := by
  refine w_bind (wm_mono h fun d s' ⟨i, e, q⟩ => ?_)
  subst e
  exact ⟨q⟩
theorem w_slN {i : Nat} {x : L} {fl fh : M (Option Int)} {s : S} {Q : L → S → Prop} (h0 : s.sl[i]? = some (some x)) (h : wm fl s fun l s1 => wm fh s1 fun h s2 => wm (slN i) s2 fun x s3 => wm (slW x l h) s3 Q) : wm (slNM i fl fh) s Q :=
  w_bind (w_sl h0 (w_bind (wm_mono h fun _ _ h => w_bind (wm_mono h fun _ _ h => w_bind h))))
theorem w_slM {fa : M D} {fl fh : M (Option Int)} {s : S} {Q : L → S → Prop} (h : wm fa s fun d s0 => wm fl s0 fun l s1 => wm fh s1 fun h s2 => wm (slW (.sh d) l h) s2 Q) : wm (slM fa fl fh) s Q :=
  w_bind (wm_mono h fun _ _ h => w_bind (wm_mono h fun _ _ h => w_bind h))
theorem w_slL {l : L} {ds : List D} {lo hi : Option Int} {s : S} {Q : L → S → Prop} (h : l.d = .lst ds) (q : Q (.ol (cutD ds lo hi)) s) : wm (slW l lo hi) s Q := by
  refine w_eq (s' := s) (a := .ol (cutD ds lo hi)) ?_ q
  unfold slW; rw [h]; rfl
theorem w_slT {l : L} {ds : List D} {lo hi : Option Int} {s : S} {Q : L → S → Prop} (h : l.d = .tup ds) (q : Q (.sh (.tup (cutD ds lo hi))) s) : wm (slW l lo hi) s Q := by
  refine w_eq (s' := s) (a := .sh (.tup (cutD ds lo hi))) ?_ q
  unfold slW; rw [h]; rfl
theorem cut_take {ds : List D} {k : Nat} (h : k ≤ ds.length) : cutD ds none (some (k : Int)) = ds.take k := by
  unfold cutD
  rw [HT.sIx_none, HT.sIx_nat, List.drop_zero, Nat.min_eq_left h, Nat.sub_zero]
theorem cut_drop {ds : List D} {k : Nat} (h : k ≤ ds.length) : cutD ds (some (k : Int)) none = ds.drop k := by
  unfold cutD
  rw [HT.sIx_none, HT.sIx_nat, Nat.min_eq_left h, List.take_of_length_le (by simp)]
/-! over a range -/
section
variable {m : Nat} {vs : List Nat} {a : AS} {t : M Bool} {el : M D} {sl sm : List (Option L)} {st : List MO} {Q : L → S → Prop}
theorem w_lcR (p : Nat → Bool) (f : Nat → D) (hw : wipeS ⟨sl, st⟩ vs = ⟨sm, st⟩) (hl : m ≤ lineN)
    (h : ∀ x, x < m → ∃ sd, a (.sh (.int (x : Int))) ⟨sm, st⟩ = some ⟨sd, st⟩ ∧ wipeS ⟨sd, st⟩ vs = ⟨sm, st⟩ ∧ wm t ⟨sd, st⟩ fun b s4 => s4 = ⟨sd, st⟩ ∧ b = p x ∧ (p x = true → wm el ⟨sd, st⟩ fun y s5 => s5 = ⟨sd, st⟩ ∧ y = f x))
    (q : Q (.ol (((List.range m).filter p).map f)) ⟨sl, st⟩) : wm (lcD (rgD 0 m) vs a t el) ⟨sl, st⟩ Q := by
  rw [rgD_map]
  refine w_lcG p f hw (by rw [List.length_range]; exact hl) (fun x hx => ?_) q
  rw [Int.zero_add]
  exact h x (List.mem_range.mp hx)
theorem w_lcR1 (f : Nat → D) (hw : wipeS ⟨sl, st⟩ vs = ⟨sm, st⟩) (hl : m ≤ lineN)
    (h : ∀ x, x < m → ∃ sd, a (.sh (.int (x : Int))) ⟨sm, st⟩ = some ⟨sd, st⟩ ∧ wipeS ⟨sd, st⟩ vs = ⟨sm, st⟩ ∧ wm el ⟨sd, st⟩ fun y s5 => s5 = ⟨sd, st⟩ ∧ y = f x)
    (q : Q (.ol ((List.range m).map f)) ⟨sl, st⟩) : wm (lcD (rgD 0 m) vs a yesM el) ⟨sl, st⟩ Q := by
  rw [rgD_map]
  refine w_lcF f hw (by rw [List.length_range]; exact hl) (fun x hx => ?_) q
  rw [Int.zero_add]
  exact h x (List.mem_range.mp hx)
end
/-! the first place of an equal one -/
theorem Emb.idx {α : Type} [DecidableEq α] {e : α → D} {P : α → Prop} {k : Nat} (h : Emb e P k) (hk : k < 64) {x : α} {ys : List α} (hx : P x) (hy : ∀ y ∈ ys, P y) (hm : x ∈ ys) {s : S} {Q : L → S → Prop} (q : Q (.sh (.int (ys.findIdx fun y => decide (y = x) : Nat))) s) : wm (gIdx (.lst (ys.map e)) (e x)) s Q := by
  obtain ⟨py, h⟩ := h.ok
  obtain ⟨a1, a2, a3, a4⟩ := h x hx
  have c1 := pyL_emb ys fun y hh => (h y (hy y hh)).1
  have c2 := layAll_emb (py := py) ys fun y hh => (h y (hy y hh)).2.1
  have c3 := depAll_emb (k := k) (py := py) ys fun y hh => (h y (hy y hh)).2.2.1
  have c4 : (ys.map py).findIdx? (fun z => PyData.eqv z (py x)) = some (ys.findIdx fun y => decide (y = x)) := by
    rw [List.findIdx?_map]
    have e1 : ∀ (l : List α), (∀ y ∈ l, P y) → l.findIdx? ((fun z => PyData.eqv z (py x)) ∘ py) = l.findIdx? fun y => decide (y = x) := fun l => by
      induction l with
      | nil => intro _; rfl
      | cons y r ih =>
        intro hl
        rw [List.findIdx?_cons, List.findIdx?_cons, ih fun z hz => hl z (by simp [hz])]
        show (if PyData.eqv (py y) (py x) = true then _ else _) = _
        rw [(h y (hl y (by simp))).2.2.2 x hx]
    rw [e1 ys hy]
    exact List.findIdx?_eq_some_of_exists ⟨x, hm, by simp⟩
  refine w_eq (s' := s) (a := .sh (.int (ys.findIdx fun y => decide (y = x) : Nat))) ?_ q
  show (match pyL (ys.map e), (e x).py with
    | some qs, some p => if SeqAt.shaped (.list qs) && SeqAt.shaped p then (match qs.findIdx? fun z => PyData.eqv z p with
      | some j => (pure (.sh (.int (j : Nat))) : M L)
      | none => bad) else bad
    | _, _ => bad) s = _
  rw [c1, a1]
  dsimp only
  rw [if_pos, c4]
  · rfl
  · unfold SeqAt.shaped
    simp only [PyData.canLay0, a2, c2, Bool.true_and, Bool.and_eq_true, decide_eq_true_eq]
    simp only [PyData.depth]
    omega
/-! pigeons -/
theorem nodup_le {α : Type} [DecidableEq α] : ∀ (l : List α) (S : List α), l.Nodup → (∀ x ∈ l, x ∈ S) → l.length ≤ S.length
  | [], _, _, _ => Nat.zero_le _
  | x :: r, S, hn, hs => by
    rw [List.nodup_cons] at hn
    have hx := hs x (by simp)
    have := nodup_le r (S.erase x) hn.2 fun y hy => (List.mem_erase_of_ne (fun e => hn.1 (by rw [← e]; exact hy))).mpr (hs y (by simp [hy]))
    rw [List.length_erase_of_mem hx] at this
    have hp : 0 < S.length := List.length_pos_of_mem hx
    rw [List.length_cons]
    omega
theorem w_absP {i : Int} {s : S} {Q : L → S → Prop} (h : 0 ≤ i) (q : Q (.sh (.int i)) s) : wm (absW (.sh (.int i))) s Q := by
  refine w_eq (s' := s) (a := .sh (.int i)) ?_ q
  show Res.ok (L.sh (.int (if i < 0 then -i else i))) s = _
  rw [if_neg (by omega)]
theorem bls_map {α : Type} (p : α → Bool) (xs : List α) : blsOf (xs.map fun x => D.bl (p x)) = some (xs.map p) := by
  have e : (xs.map fun x => D.bl (p x)) = (xs.map p).map D.bl := by rw [List.map_map]; rfl
  rw [e]; exact blsOf_map _
theorem w_all {α : Type} {l : L} {p : α → Bool} {xs : List α} {s : S} {Q : L → S → Prop} (h : l.d = .lst (xs.map fun x => D.bl (p x))) (q : Q (.sh (.bl (xs.all p))) s) : wm (boolsW (fun bs => List.all bs id) l) s Q := by
  refine w_bools h (bls_map p xs) ?_
  have e : ((xs.map p).all id) = xs.all p := by rw [List.all_map]; rfl
  rw [e]; exact q
theorem w_any {α : Type} {l : L} {p : α → Bool} {xs : List α} {s : S} {Q : L → S → Prop} (h : l.d = .lst (xs.map fun x => D.bl (p x))) (q : Q (.sh (.bl (xs.any p))) s) : wm (boolsW (fun bs => List.any bs id) l) s Q := by
  refine w_bools h (bls_map p xs) ?_
  have e : ((xs.map p).any id) = xs.any p := by rw [List.any_map]; rfl
  rw [e]; exact q
/-! dicts of numbers that are all True -/
def kT (i : Int) : D × D := (.int i, .bl true)
def ddI (l : List Int) : List Int := l.foldl (fun acc x => if x ∈ acc then acc else acc ++ [x]) []
theorem putQ_kT (L : List Int) (x : Int) : putQ (L.map kT) (.inl x) (.int x) (.bl true) = (if x ∈ L then L else L ++ [x]).map kT := by
  have e1 : ∀ y : Int, kyIs (.int y) (.inl x) = decide (y = x) := fun y => by
    show decide (some (Sum.inl y : Key) = some (Sum.inl x)) = _
    by_cases h : y = x
    · simp [h]
    · have : ¬ (some (Sum.inl y : Key) = some (Sum.inl x)) := fun z => h (by cases z; rfl)
      simp [h, this]
  have e2 : ((L.map kT).any fun kv => kyIs kv.1 (.inl x)) = decide (x ∈ L) := by
    rw [List.any_map]
    have : (L.any fun y => decide (y = x)) = decide (x ∈ L) := by
      rw [Bool.eq_iff_iff, List.any_eq_true, decide_eq_true_eq]
      exact ⟨fun ⟨y, hy, e⟩ => by rw [← of_decide_eq_true e]; exact hy, fun hx => ⟨x, hx, by simp⟩⟩
    rw [← this]
    congr 1
    funext y
    exact e1 y
  unfold putQ
  rw [e2]
  by_cases h : x ∈ L
  · rw [if_pos (by simpa using h), if_pos h, List.map_map]
    refine List.map_congr_left fun y _ => ?_
    show (if kyIs (D.int y) (.inl x) = true then (D.int y, D.bl true) else (D.int y, D.bl true)) = _
    split <;> rfl
  · rw [if_neg (by simpa using h), if_neg h, List.map_append]
    rfl
theorem valQ_kT (L : List Int) (x : Int) : (valQ (L.map kT) (.inl x)).isSome = decide (x ∈ L) := by
  unfold valQ
  induction L with
  | nil => rfl
  | cons y r ih =>
    rw [List.map_cons, List.find?_cons]
    by_cases h : y = x
    · have : kyIs (kT y).1 (.inl x) = true := by subst h; show decide (some (Sum.inl y : Key) = some (Sum.inl y)) = true; simp
      rw [this]
      simp [h]
    · have : kyIs (kT y).1 (.inl x) = false := by
        show decide (some (Sum.inl y : Key) = some (Sum.inl x)) = false
        have : ¬ (some (Sum.inl y : Key) = some (Sum.inl x)) := fun z => h (by cases z; rfl)
        simp [this]
      rw [this]
      dsimp only
      rw [ih]
      have h2 : ¬ x = y := fun z => h z.symm
      simp [h2]
theorem plainK_kT (L : List Int) : plainK (L.map kT) = true := by
  unfold plainK
  rw [List.all_map, List.all_eq_true]
  intro x _
  rfl
theorem keysI_kT : ∀ L : List Int, keysI (L.map kT) = some L
  | [] => rfl
  | x :: r => by
    show (match intOf (.int x), keysI (r.map kT) with | some i, some ks => some (i :: ks) | _, _ => none) = _
    rw [keysI_kT r]
    rfl
theorem w_inK {L : List Int} {x : Int} {neg : Bool} {s : S} {Q : Bv.L → S → Prop} (q : Q (.sh (.bl (if neg then !decide (x ∈ L) else decide (x ∈ L)))) s) : wm (gIn2 neg (.int x) (.dic (L.map kT))) s Q := by
  refine w_eq (s' := s) (a := .sh (.bl (if neg then !decide (x ∈ L) else decide (x ∈ L)))) ?_ q
  show gInD neg (.int x) (L.map kT) s = _
  have e : atD (L.map kT) (.int x) = some (valQ (L.map kT) (.inl x)) := by
    show (if plainK (L.map kT) = true then some (valQ (L.map kT) (.inl x)) else none) = _
    rw [if_pos (plainK_kT L)]
  unfold gInD
  rw [e]
  dsimp only
  rw [valQ_kT]
  rfl
theorem w_sortK {l : L} {L : List Int} {s : S} {Q : Bv.L → S → Prop} (h : l.d = .dic (L.map kT)) (h2 : L.length < 64) (q : Q (.ol ((sortI L).map D.int)) s) : wm (sortW2 l) s Q := by
  refine w_eq (s' := s) (a := .ol ((sortI L).map D.int)) ?_ q
  unfold sortW2
  rw [h]
  dsimp only
  rw [keysI_kT]
  dsimp only
  rw [if_pos h2]
  rfl
def dcD (ds : List D) (vs : List Nat) (a : AS) (t : M Bool) (k e : M D) : M L := dcM2 (pure ds) vs a t k e
theorem w_dcS {m : M (List D)} {vs : List Nat} {a : AS} {t : M Bool} {k e : M D} {s : S} {Q : L → S → Prop} (h : wm m s fun ds s1 => wm (dcD ds vs a t k e) s1 Q) : wm (dcM2 m vs a t k e) s Q := by
  obtain ⟨ds, s1, e1, h⟩ := wm_ok h
  have h := h.out
  refine ⟨?_⟩
  unfold dcD at h
  unfold dcM2 at h ⊢
  rw [e1]
  exact h
theorem ddI_len (l : List Int) : (ddI l).length ≤ l.length := by
  have : ∀ (l acc : List Int), (l.foldl (fun acc x => if x ∈ acc then acc else acc ++ [x]) acc).length ≤ acc.length + l.length := fun l => by
    induction l with
    | nil => intro acc; simp
    | cons x r ih =>
      intro acc
      rw [List.foldl_cons]
      refine Nat.le_trans (ih _) ?_
      split
      · rw [List.length_cons]; omega
      · rw [List.length_append, List.length_singleton, List.length_cons]; omega
  have := this l []
  rw [List.length_nil, Nat.zero_add] at this
  exact this
theorem ddI_mem {l : List Int} {x : Int} : x ∈ ddI l ↔ x ∈ l := by
  have : ∀ (l acc : List Int), x ∈ l.foldl (fun acc x => if x ∈ acc then acc else acc ++ [x]) acc ↔ x ∈ acc ∨ x ∈ l := fun l => by
    induction l with
    | nil => intro acc; simp
    | cons y r ih =>
      intro acc
      rw [List.foldl_cons, ih]
      split
      · rename_i h
        constructor
        · rintro (h1 | h1)
          · exact .inl h1
          · exact .inr (by simp [h1])
        · rintro (h1 | h1)
          · exact .inl h1
          · rcases List.mem_cons.mp h1 with rfl | h1
            · exact .inl h
            · exact .inr h1
      · simp only [List.mem_append, List.mem_singleton, List.mem_cons]
        constructor
        · rintro ((h1 | h1) | h1)
          · exact .inl h1
          · exact .inr (.inl (by simpa using h1))
          · exact .inr (.inr h1)
        · rintro (h1 | h1 | h1)
          · exact .inl (.inl h1)
          · exact .inl (.inr (by simp [h1]))
          · exact .inr h1
  have := this l []
  refine Iff.trans this ⟨fun h => h.resolve_left (fun z => by cases z), .inr⟩
theorem ddI_nodup (l : List Int) : (ddI l).Nodup := by
  have : ∀ (l acc : List Int), acc.Nodup → (l.foldl (fun acc x => if x ∈ acc then acc else acc ++ [x]) acc).Nodup := fun l => by
    induction l with
    | nil => intro acc h; exact h
    | cons y r ih =>
      intro acc h
      rw [List.foldl_cons]
      refine ih _ ?_
      split
      · exact h
      · rename_i hy
        rw [List.nodup_append]
        refine ⟨h, by simp, fun a ha b hb e => ?_⟩
        rw [List.mem_singleton.mp hb] at e
        exact hy (e ▸ ha)
  exact this l [] List.nodup_nil
/-- {number: True for ..} -/
theorem w_dcK {α : Type} {l : List α} {e : α → D} {vs : List Nat} {a : AS} {k el : M D} {sl sm : List (Option L)} {st : List MO} {Q : L → S → Prop} (κ : α → Int) (hw : wipeS ⟨sl, st⟩ vs = ⟨sm, st⟩) (hl : l.length ≤ lineN)
    (h : ∀ x ∈ l, ∃ sd, a (.sh (e x)) ⟨sm, st⟩ = some ⟨sd, st⟩ ∧ wipeS ⟨sd, st⟩ vs = ⟨sm, st⟩ ∧ wm k ⟨sd, st⟩ fun y s5 => s5 = ⟨sd, st⟩ ∧ y = .int (κ x) ∧ wm el ⟨sd, st⟩ fun z s6 => s6 = ⟨sd, st⟩ ∧ z = .bl true)
    (q : Q (.od ((ddI (l.map κ)).map kT)) ⟨sl, st⟩) : wm (dcD (l.map e) vs a yesM k el) ⟨sl, st⟩ Q := by
  unfold dcD
  have key : ∀ (r : List α) (acc : List Int) (s : S), (∀ d ∈ r, d ∈ l) → acc.length + r.length ≤ lineN → wipeS s vs = ⟨sm, st⟩ → ∃ s', dcB2 vs a yesM k el (r.map e) (acc.map kT) s = .ok (((r.map κ).foldl (fun acc x => if x ∈ acc then acc else acc ++ [x]) acc).map kT) s' ∧ wipeS s' vs = ⟨sm, st⟩ := by
    intro r
    induction r with
    | nil => intro acc s _ _ hs; exact ⟨s, by simp [dcB2], hs⟩
    | cons x r ih =>
      intro acc s hm hlen hs
      obtain ⟨sd, h1, h2, h3⟩ := h x (hm x (by simp))
      obtain ⟨y, s5, e5, rfl, rfl, h4⟩ := wm_ok h3
      obtain ⟨z, s6, e6, rfl, rfl⟩ := wm_ok h4
      rw [List.length_cons] at hlen
      rw [List.map_cons]
      unfold dcB2
      rw [hs, h1]
      dsimp only
      show ∃ s' : S, (match k ⟨sd, st⟩ with
        | .ok kd s3 => (match el s3 with
          | .ok y s4 => (match putO (acc.map kT) kd y with
            | some acc1 => dcB2 vs a yesM k el (r.map e) acc1 s4
            | none => Res.bad)
          | _ => Res.bad)
        | _ => Res.bad) = _ ∧ _
      rw [e5]
      dsimp only
      rw [e6]
      dsimp only
      have hpo : putO (acc.map kT) (.int (κ x)) (.bl true) = some (putQ (acc.map kT) (.inl (κ x)) (.int (κ x)) (.bl true)) := by
        show (if (plainK (acc.map kT) && decide ((acc.map kT).length < lineN)) = true then some (putQ (acc.map kT) (.inl (κ x)) (.int (κ x)) (.bl true)) else none) = _
        rw [if_pos (by rw [plainK_kT, Bool.true_and, decide_eq_true_eq, List.length_map]; omega)]
      rw [hpo]
      dsimp only
      rw [putQ_kT]
      obtain ⟨s', h5, h6⟩ := ih (if κ x ∈ acc then acc else acc ++ [κ x]) ⟨sd, st⟩ (fun x hx => hm x (by simp [hx])) (by split <;> (try rw [List.length_append, List.length_singleton]) <;> omega) h2
      exact ⟨s', by rw [h5, List.map_cons, List.foldl_cons], h6⟩
  obtain ⟨s', h5, h6⟩ := key l [] (wipeS ⟨sl, st⟩ vs) (fun _ h => h) (by simpa using hl) (by rw [hw, ← hw, wipeS_twice, hw])
  refine w_eq (s' := ⟨sl, st⟩) (a := .od ((ddI (l.map κ)).map kT)) ?_ q
  unfold dcM2
  show (match dcB2 vs a yesM k el (l.map e) (([] : List Int).map kT) (wipeS ⟨sl, st⟩ vs) with | .ok ys s2 => (Res.ok (L.od ys) (restS ⟨sl, st⟩ s2 vs) : Res L) | _ => Res.bad) = _
  rw [h5]
  dsimp only
  rw [restS_same (h6.trans hw.symm)]
  rfl
theorem w_isN {d e : D} {b : Bool} {s : S} {Q : L → S → Prop} (h : isD d e = some b) (q : Q (.sh (.bl (!b))) s) : wm (gIs true d e) s Q := by
  refine w_eq (s' := s) (a := .sh (.bl (!b))) ?_ q
  unfold gIs; rw [h]; rfl
theorem w_min2 {i j : Int} {s : S} {Q : L → S → Prop} (q : Q (.sh (.int (if j < i then j else i))) s) : wm (gMin2 [.int i, .int j]) s Q := ⟨q⟩
theorem w_sortD {l : L} {ns : List Int} {s : S} {Q : L → S → Prop} (h : l.d = .lst (ns.map D.int)) (q : Q (.ol ((sortI ns).reverse.map D.int)) s) : wm (sortR l) s Q := by
  refine w_eq (s' := s) (a := .ol ((sortI ns).reverse.map D.int)) ?_ q
  unfold sortR
  rw [h]
  dsimp only
  rw [intsOf_map]
  rfl
end Bv

/-! texts; dicts of one's own; sorted rows -/
namespace Bv
open PySem PySem.Spec PyProof.Rows L2
set_option hygiene false
local macro_rules | `(tactic| fail "S1") => `(tactic| (first | with_reducible refine s_seq ?_ | with_reducible refine s_nil ?_ | with_reducible refine s_ag ?_ | with_reducible refine s_rt ?_ | with_reducible refine s_ex ?_ | with_reducible refine s_for ?_ | with_reducible refine s_par2 ?_ | with_reducible refine s_par3 ?_ | with_reducible refine w_pure ?_ | with_reducible refine w_dM ?_ | with_reducible refine w_sM ?_ | with_reducible refine w_th ?_ | with_reducible refine w_fn ?_ | with_reducible refine w_rg ?_ | with_reducible refine w_it ?_ | with_reducible refine w_nil ?_ | with_reducible refine w_cons ?_ | with_reducible refine w_bin2 ?_ | with_reducible refine w_addI ?_ | with_reducible refine w_subI ?_ | with_reducible refine w_ltI ?_ | with_reducible refine w_leI ?_ | with_reducible refine w_gtI ?_ | with_reducible refine w_geI ?_ | with_reducible refine w_eqS ?_ | with_reducible refine w_neS ?_ | with_reducible refine w_eqI ?_ | with_reducible refine w_neI ?_ | with_reducible refine w_int ?_ | with_reducible refine w_ixM ?_ | with_reducible refine w_cmpT ?_ | with_reducible refine w_notT ?_ | with_reducible refine w_blT ?_ | with_reducible refine w_yes ?_ | with_reducible refine w_chM ?_ | with_reducible refine w_lcS ?_ | with_reducible refine w_itL ?_ | with_reducible refine w_ix0T ?_ | with_reducible refine w_ix0L ?_ | with_reducible refine w_ix0O ?_ | with_reducible refine w_ix1T ?_ | with_reducible refine w_ix1L ?_ | with_reducible refine w_ix1O ?_ | with_reducible refine w_ix2T ?_ | with_reducible refine w_ix2L ?_ | with_reducible refine w_ix2O ?_ | with_reducible refine w_ix3T ?_ | with_reducible refine w_ix3L ?_ | with_reducible refine w_ix3O ?_ | with_reducible refine w_itT ?_ | with_reducible refine w_itC ?_ | with_reducible refine w_lstS ?_ | with_reducible refine w_lstL ?_ | with_reducible refine w_lstT ?_ | with_reducible refine w_lstO ?_ | with_reducible refine w_tupT ?_ | with_reducible refine w_tupL ?_ | with_reducible refine w_tupO ?_ | with_reducible refine w_dd ?_ | with_reducible refine s_asT1 ?_ | with_reducible refine s_stS ?_ | with_reducible refine w_max2 ?_ | with_reducible refine w_min2 ?_ | with_reducible refine s_asT0 ?_ | with_reducible refine w_gcd ?_ | with_reducible refine w_idxM ?_ | with_reducible refine w_enW ?_ | with_reducible refine w_enT ?_ | with_reducible refine w_zpL ?_ | with_reducible refine w_zpT ?_ | with_reducible refine w_rgOf ?_ | with_reducible refine w_rgOf2 ?_ | with_reducible refine w_inN ?_ | with_reducible refine w_inLs ?_ | with_reducible refine w_inLo ?_ | with_reducible refine w_dcS ?_ | with_reducible refine w_inK ?_ | with_reducible refine w_noP ?_ | with_reducible refine w_soP ?_ | with_reducible refine w_slM ?_ | with_reducible refine s_op ?_ | with_reducible refine w_inLd ?_ | with_reducible refine w_itS ?_ | with_reducible refine w_joM ?_ | with_reducible refine w_inLF ?_ | with_reducible refine w_inLT ?_ | with_reducible refine w_inPF ?_ | with_reducible refine w_cmLs ?_ | with_reducible refine w_cmLns ?_ | with_reducible refine w_cmLo ?_ | with_reducible refine w_cmLno ?_ | with_reducible refine w_eqOl ?_ | with_reducible refine w_eqOt ?_ | with_reducible refine w_eqOi ?_ | with_reducible refine w_eqOb ?_ | with_reducible refine w_eqOs ?_ | with_reducible refine w_neOl ?_ | with_reducible refine w_neOt ?_ | with_reducible refine w_neOi ?_ | with_reducible refine w_neOb ?_ | with_reducible refine w_neOs ?_ | ((with_reducible apply w_esc); (focus exact rfl)) | ((with_reducible apply w_sl); (focus exact rfl)) | ((with_reducible apply s_asN); (focus (repeat (first | exact SetAt.z | apply SetAt.s)))) | ((with_reducible apply w_ixN); (focus exact rfl)) | ((with_reducible apply w_slN); (focus exact rfl)) | ((with_reducible apply w_slL); (focus exact rfl)) | ((with_reducible apply w_slT); (focus exact rfl)) | ((with_reducible apply w_escO); (focus exact rfl); (focus (repeat (first | exact SetAt.z | apply SetAt.s)))) | ((with_reducible apply w_mv); (focus exact rfl); (focus (repeat (first | exact SetAt.z | apply SetAt.s)))) | ((with_reducible refine w_modI ?_ ?_); (focus first | omega | decide)) | ((with_reducible refine w_fdvI ?_ ?_ ?_); (focus first | omega | decide); (focus first | omega | decide)) | ((with_reducible refine w_powI ?_ ?_); (focus decide)) | ((with_reducible refine w_mulI ?_ ?_); (focus first | exact .inr (by decide) | exact .inl (by decide) | exact .inr (by constructor <;> omega) | exact .inl (by constructor <;> omega))) | ((with_reducible apply w_app); (focus exact rfl)) | ((with_reducible apply w_cmN); (focus exact rfl)) | ((with_reducible apply w_appN); (focus exact rfl); (focus first | decide | (simp only [List.length_cons, List.length_nil]; decide)); (focus (repeat (first | exact SetAt.z | apply SetAt.s)))) | ((with_reducible apply w_isi); (focus exact rfl); (focus assumption)) | ((with_reducible apply w_isF); (focus exact rfl)) | ((with_reducible apply w_isN); (focus exact rfl)) | ((with_reducible apply w_fldS); (focus exact rfl)) | ((with_reducible apply s_stN); (focus exact rfl); (focus exact Nat.le_of_ble_eq_true rfl); (focus (repeat (first | exact SetAt.z | apply SetAt.s)))) | ((with_reducible apply w_fldO); (focus exact rfl)) | ((with_reducible refine w_rg1 ?_ ?_); (focus first | (constructor <;> omega) | decide)) | ((with_reducible refine w_rg2 ?_ ?_); (focus first | (refine ⟨?_, ?_, ?_, ?_⟩ <;> omega) | decide)) | ((with_reducible refine w_rgW ?_ ?_); (focus constructor <;> omega)) | ((with_reducible refine w_rgW2 ?_ ?_); (focus refine ⟨⟨?_, ?_⟩, ⟨?_, ?_⟩, ?_⟩ <;> omega)) | ((with_reducible refine w_addT ?_ ?_); (focus (simp only [List.length_map, List.length_replicate, List.length_cons, List.length_nil, List.length_range]; unfold lineN; omega))) | ((with_reducible refine w_mul1 ?_ ?_); (focus constructor <;> omega)) | ((with_reducible refine w_tup ?_ ?_); (focus exact Nat.le_of_ble_eq_true rfl)) | ((with_reducible refine w_lst ?_ ?_); (focus exact Nat.le_of_ble_eq_true rfl)) | ((with_reducible refine w_pen_at ?_ ?_); (focus exact rfl)) | ((with_reducible refine s_pen_at ?_ ?_ ?_); (focus exact rfl); (focus exact rfl)) | ((with_reducible refine w_pen_digits ?_ ?_); (focus exact rfl)) | ((with_reducible refine s_pen_digits ?_ ?_); (focus exact rfl)) | ((with_reducible refine w_pen_count ?_ ?_); (focus exact rfl)) | ((with_reducible refine s_pen_count ?_ ?_); (focus exact rfl)) | ((with_reducible refine w_pen_fold ?_ ?_); (focus exact rfl)) | ((with_reducible refine s_pen_fold ?_ ?_); (focus exact rfl)) | ((with_reducible refine w_pen_cells ?_ ?_); (focus exact rfl)) | with_reducible refine s_dp ?_ | with_reducible refine if_not ?_ | with_reducible refine if_tt ?_ | with_reducible refine if_ff ?_ | ((with_reducible refine if_decT ?_ ?_); (focus first | omega | (simp only [List.length_cons, List.length_nil]; omega))) | ((with_reducible refine if_decF ?_ ?_); (focus first | omega | (simp only [List.length_cons, List.length_nil]; omega))) | with_reducible refine if_dec (fun hc => ?_) (fun hc => ?_) | with_reducible refine s_if ?_ | with_reducible refine w_andT ?_ | with_reducible refine w_orT ?_ | with_reducible refine w_andM ?_ | with_reducible refine w_orM ?_ | with_reducible refine w_notM ?_ | with_reducible refine w_ifM ?_ | with_reducible refine w_truT ?_ | with_reducible refine w_negI ?_ | with_reducible refine ex_truB ?_ | with_reducible refine ⟨_, rfl, ?_⟩ | dsimp only [L.d] | ((with_reducible refine if_t ?_ ?_); (focus exact rfl)) | ((with_reducible refine if_f ?_ ?_); (focus exact rfl)) | ((with_reducible apply w_len); (focus exact .inl rfl)) | ((with_reducible apply w_len); (focus exact .inr rfl))))
local macro_rules | `(tactic| fail "SA") => `(tactic| (repeat' fail "S1"))
local macro_rules | `(tactic| fail "SR") => `(tactic| (repeat fail "S1"))
set_option hygiene true
section
variable {s : S} {Q : L → S → Prop}
theorem w_lenS {x : Str} (h : x.length ≤ 16777216) (q : Q (.sh (.int (x.length : Nat))) s) : wm (lenW (.sh (.str x))) s Q := by
  refine w_eq (s' := s) (a := .sh (.int (x.length : Nat))) ?_ q
  show (if x.length ≤ lineN then (pure (.sh (.int x.length)) : M L) else bad) s = _
  rw [if_pos (show x.length ≤ lineN from h)]; rfl
theorem w_lenD {l : L} {kvs : List (D × D)} (h : l.d = .dic kvs) (q : Q (.sh (.int (kvs.length : Nat))) s) : wm (lenW l) s Q := by
  refine w_eq (s' := s) (a := .sh (.int (kvs.length : Nat))) ?_ q
  unfold lenW; rw [h]; rfl
theorem w_ixS {x : Str} {i : Int} {c : Nat} (h : x.length ≤ 16777216) (h2 : atI x.cps.toList i = some c) (q : Q (.sh (.str ⟨#[c]⟩)) s) : wm (ixW (.sh (.str x)) (.int i)) s Q := by
  refine w_eq (s' := s) (a := .sh (.str ⟨#[c]⟩)) ?_ q
  show (if x.length ≤ lineN then (match atI x.cps.toList i with | some c => (pure (.sh (.str ⟨#[c]⟩)) : M L) | none => bad) else bad) s = _
  rw [if_pos (show x.length ≤ lineN from h), h2]; rfl
theorem w_ixD {l : L} {kvs : List (D × D)} {e d : D} (h : l.d = .dic kvs) (h2 : atD kvs e = some (some d)) (q : Q (.sh d) s) : wm (ixW l e) s Q := by
  refine w_eq (s' := s) (a := .sh d) ?_ q
  unfold ixW
  rw [h]
  cases e <;> (dsimp only; rw [h2]; rfl)
theorem w_inDd {neg : Bool} {kvs : List (D × D)} {d : D} {r : Option D} (h : atD kvs d = some r) (q : Q (.sh (.bl (if neg then !r.isSome else r.isSome))) s) : wm (gIn2 neg d (.dic kvs)) s Q := by
  refine w_eq (s' := s) (a := .sh (.bl (if neg then !r.isSome else r.isSome))) ?_ q
  show gInD neg d kvs s = _
  unfold gInD
  rw [h]; rfl
theorem w_inLd {neg : Bool} {kvs : List (D × D)} {d : D} (h : wm (gIn2 neg d (.dic kvs)) s Q) : wm (inL neg d (.od kvs)) s Q := h
theorem w_inS1 {neg : Bool} {c : Nat} {z : Str} (q : Q (.sh (.bl (if neg then !decide (c ∈ z.cps.toList) else decide (c ∈ z.cps.toList)))) s) : wm (gIn2 neg (.str ⟨#[c]⟩) (.str z)) s Q := by
  refine w_eq (s' := s) (a := .sh (.bl (if neg then !decide (c ∈ z.cps.toList) else decide (c ∈ z.cps.toList)))) ?_ q
  show gInS neg (.str ⟨#[c]⟩) z s = _
  have e : sgn1 ⟨#[c]⟩ = some c := rfl
  unfold gInS
  dsimp only
  rw [e]; rfl
theorem w_addS {x y : Str} (h : x.length + y.length ≤ 16777216) (q : Q (.sh (.str (x ++ y))) s) : wm (gAdd (.str x) (.str y)) s Q := by
  refine w_eq (s' := s) (a := .sh (.str (x ++ y))) ?_ q
  show (if x.length + y.length ≤ lineN then (pure (.sh (.str (x ++ y))) : M L) else bad) s = _
  rw [if_pos (show x.length + y.length ≤ lineN from h)]; rfl
theorem w_strI {i : Int} (h : i.natAbs.log2 < 1920) (q : Q (.sh (.str (toString i))) s) : wm (strW (.sh (.int i))) s Q := by
  refine w_eq (s' := s) (a := .sh (.str (toString i))) ?_ q
  show (if i.natAbs.log2 < 1920 then (pure (.sh (.str (toString i))) : M L) else bad) s = _
  rw [if_pos h]; rfl
theorem w_joM {fo fe : M D} (h : wm fo s fun d s1 => ∃ x, d = .str x ∧ wm fe s1 fun e s2 => ∃ ys : List Str, e = .lst (ys.map D.str) ∧ (ys.map (·.length)).sum + ys.length * x.length ≤ 16777216 ∧ Q (.sh (.str (Txt.join x ys))) s2) : wm (joM fo fe) s Q := by
  refine w_bind (wm_mono h fun d s1 ⟨x, e, q⟩ => ?_)
  subst e
  refine w_bind (wm_mono q fun e s2 ⟨ys, e1, h1, q⟩ => ?_)
  subst e1
  refine w_eq (s' := s2) (a := .sh (.str (Txt.join x ys))) ?_ q
  show joW x (ys.map D.str) s2 = _
  unfold joW
  rw [strsOf_map]
  dsimp only
  rw [if_pos h1]; rfl
theorem w_itS {x : Str} {Q : List D → S → Prop} (q : Q (x.cps.toList.map fun c => D.str ⟨#[c]⟩) s) : wm (itD (.str x)) s Q := ⟨q⟩
/-- a list of rows of numbers, the first of them empty, sorted -/
theorem w_sortT {l : L} {nss : List (List Int)} (h : l.d = .lst (nss.map tupD)) (h2 : nss.head? = some []) (q : Q (.ol ((lexSort nss).map tupD)) s) : wm (sortW2 l) s Q := by
  refine w_eq (s' := s) (a := .ol ((lexSort nss).map tupD)) ?_ q
  unfold sortW2
  rw [h]
  dsimp only
  have e : intsOf (nss.map tupD) = none := by
    cases nss with
    | nil => cases h2
    | cons n r => rfl
  rw [e, tupsOf_map]
  dsimp only
  rw [if_pos h2]; rfl
end
/-! own dicts written -/
section
variable {sl sm : List (Option L)} {st : List MO} {s : S} {i : Nat} {N : S → Prop} {R : L → S → Prop} {B C : S → Prop}
theorem s_op {mk mv : M D} (h : wm mv s fun y s1 => ∃ kvs, s1.sl[i]? = some (some (.od kvs)) ∧ wm mk s1 fun kd s2 => ws (opN i kd y) s2 N R B C) : ws (opS i mk mv) s N R B C := by
  refine s_th (wm_mono h fun y s1 ⟨kvs, h1, h2⟩ => s_th ?_)
  refine w_eq (s' := s1) (a := ()) ?_ (s_th h2)
  unfold chkD; rw [h1]
theorem s_opN {kvs ks : List (D × D)} {kd y : D} (h : sl[i]? = some (some (.od kvs))) (hp : putO kvs kd y = some ks) (hs : SetAt i (some (.od ks)) sl sm) (q : N ⟨sm, st⟩) : ws (opN i kd y) ⟨sl, st⟩ N R B C := by
  refine ⟨?_⟩
  unfold opN
  dsimp only
  rw [h]
  dsimp only
  rw [hp]
  dsimp only
  rw [hs.eq]
  exact q
end
/-! names and their places -/
def plD (ns : List Str) (k : Nat) : List (D × D) := match ns with
  | [] => []
  | x :: r => (.str x, .int (k : Nat)) :: plD r (k + 1)
theorem kyIs_str (x y : Str) : kyIs (.str x) (.inr y) = decide (x = y) := by
  show decide (some (Sum.inr x : Key) = some (Sum.inr y)) = _
  by_cases h : x = y
  · simp [h]
  · have : ¬ (some (Sum.inr x : Key) = some (Sum.inr y)) := fun z => h (by cases z; rfl)
    simp [h, this]
theorem plainK_pl : ∀ (ns : List Str) (k : Nat), plainK (plD ns k) = true
  | [], _ => rfl
  | x :: r, k => by
    show (plainK ((.str x, .int (k : Nat)) :: plD r (k + 1))) = true
    have := plainK_pl r (k + 1)
    unfold plainK at this ⊢
    rw [List.all_cons, this]; rfl
theorem plD_len : ∀ (ns : List Str) (k : Nat), (plD ns k).length = ns.length
  | [], _ => rfl
  | x :: r, k => by show (plD r (k + 1)).length + 1 = _; rw [plD_len r]; rfl
theorem plD_app : ∀ (ns : List Str) (k : Nat) (x : Str), plD ns k ++ [(.str x, .int ((k + ns.length : Nat) : Int))] = plD (ns ++ [x]) k
  | [], k, x => rfl
  | y :: r, k, x => by
    show (D.str y, D.int (k : Nat)) :: (plD r (k + 1) ++ [(.str x, .int ((k + (r.length + 1) : Nat) : Int))]) = (D.str y, D.int (k : Nat)) :: plD (r ++ [x]) (k + 1)
    rw [← plD_app r (k + 1) x, show k + (r.length + 1) = k + 1 + r.length by omega]
theorem any_pl : ∀ (ns : List Str) (k : Nat) (x : Str), ((plD ns k).any fun kv => kyIs kv.1 (.inr x)) = decide (x ∈ ns)
  | [], _, _ => rfl
  | y :: r, k, x => by
    show (kyIs (.str y) (.inr x) || (plD r (k + 1)).any fun kv => kyIs kv.1 (.inr x)) = _
    rw [any_pl r (k + 1) x, kyIs_str]
    by_cases h : y = x
    · simp [h]
    · have : ¬ x = y := fun z => h z.symm
      simp [h, this]
theorem put_pl {ns : List Str} {x : Str} (h : x ∉ ns) (hl : ns.length < 16777216) : putO (plD ns 0) (.str x) (.int (ns.length : Nat)) = some (plD (ns ++ [x]) 0) := by
  show (if plainK (plD ns 0) && decide ((plD ns 0).length < lineN) then some (putQ (plD ns 0) (.inr x) (.str x) (.int (ns.length : Nat))) else none) = _
  have hl2 : (plD ns 0).length < lineN := by rw [plD_len]; exact hl
  rw [plainK_pl, decide_eq_true hl2]
  show some (putQ (plD ns 0) (.inr x) (.str x) (.int (ns.length : Nat))) = _
  unfold putQ
  rw [any_pl, decide_eq_false h, if_neg (by decide), ← plD_app, Nat.zero_add]
theorem val_pl : ∀ {ns : List Str} {k i : Nat} {x : Str}, ns.Nodup → ns[i]? = some x → valQ (plD ns k) (.inr x) = some (.int ((k + i : Nat) : Int))
  | [], _, _, _, _, h => by simp at h
  | y :: r, k, 0, x, _, h => by
    have : y = x := by simpa using h
    subst this
    show ((plD (y :: r) k).find? _).map _ = _
    show (((.str y, .int (k : Nat)) :: plD r (k + 1)).find? fun kv : D × D => kyIs kv.1 (.inr y)).map (·.2) = _
    rw [List.find?_cons, kyIs_str, decide_eq_true rfl]; rfl
  | y :: r, k, i + 1, x, hn, h => by
    rw [List.nodup_cons] at hn
    have hx : r[i]? = some x := by simpa using h
    have hxy : ¬ y = x := fun z => hn.1 (by rw [z]; exact List.mem_of_getElem? hx)
    show (((.str y, .int (k : Nat)) :: plD r (k + 1)).find? fun kv : D × D => kyIs kv.1 (.inr x)).map (·.2) = _
    rw [List.find?_cons, kyIs_str, decide_eq_false hxy]
    have := val_pl (k := k + 1) hn.2 hx
    unfold valQ at this
    dsimp only
    rw [this, show k + 1 + i = k + (i + 1) by omega]
theorem at_pl {ns : List Str} {i : Nat} {x : Str} (hn : ns.Nodup) (h : ns[i]? = some x) : atD (plD ns 0) (.str x) = some (some (.int (i : Nat))) := by
  show (if plainK (plD ns 0) = true then some (valQ (plD ns 0) (.inr x)) else none) = _
  rw [if_pos (plainK_pl ns 0), val_pl hn h, Nat.zero_add]
theorem at_plN {ns : List Str} {x : Str} (h : x ∉ ns) : atD (plD ns 0) (.str x) = some none := by
  show (if plainK (plD ns 0) = true then some (valQ (plD ns 0) (.inr x)) else none) = _
  rw [if_pos (plainK_pl ns 0)]
  have e := any_pl ns 0 x
  rw [decide_eq_false h] at e
  unfold valQ
  have : (plD ns 0).find? (fun kv => kyIs kv.1 (.inr x)) = none := by
    rw [List.find?_eq_none]
    intro p hp
    have := List.any_eq_false.mp e p hp
    simpa using this
  rw [this]; rfl
/-! pairs that are all True -/
abbrev pairD (p : Nat × Nat) : D := .tup [.int (p.1 : Nat), .int (p.2 : Nat)]
def pdD (ps : List (Nat × Nat)) : List (D × D) := ps.map fun p => (pairD p, .bl true)
theorem tkIs_pair (p q : Nat × Nat) : tkIs (pairD p) [.inl (q.1 : Nat), .inl (q.2 : Nat)] = decide (p = q) := by
  show decide (some [(Sum.inl ((p.1 : Nat) : Int) : Key), Sum.inl ((p.2 : Nat) : Int)] = some [Sum.inl ((q.1 : Nat) : Int), Sum.inl ((q.2 : Nat) : Int)]) = _
  by_cases h : p = q
  · simp [h]
  · have : ¬ (some [(Sum.inl ((p.1 : Nat) : Int) : Key), Sum.inl ((p.2 : Nat) : Int)] = some [Sum.inl ((q.1 : Nat) : Int), Sum.inl ((q.2 : Nat) : Int)]) := fun z => h (by
      have z := Option.some.inj z
      have z1 := Sum.inl.inj (List.cons.inj z).1
      have z2 := Sum.inl.inj (List.cons.inj (List.cons.inj z).2).1
      exact Prod.ext (Int.ofNat.inj z1) (Int.ofNat.inj z2))
    simp only [h, this, decide_false]
theorem tupK_pd (ps : List (Nat × Nat)) : tupK (pdD ps) = true := by
  unfold tupK pdD
  rw [List.all_map, List.all_eq_true]
  intro x _
  rfl
theorem put_pd {ps : List (Nat × Nat)} {p : Nat × Nat} (hl : ps.length < 16777216) : putO (pdD ps) (pairD p) (.bl true) = some (pdD (if p ∈ ps then ps else ps ++ [p])) := by
  have hl2 : (pdD ps).length < lineN := by unfold pdD; rw [List.length_map]; exact hl
  show (if tupK (pdD ps) && decide ((pdD ps).length < lineN) then some (putT (pdD ps) [.inl (p.1 : Nat), .inl (p.2 : Nat)] (pairD p) (.bl true)) else none) = _
  rw [tupK_pd, decide_eq_true hl2]
  show some (putT (pdD ps) [.inl (p.1 : Nat), .inl (p.2 : Nat)] (pairD p) (.bl true)) = _
  have e2 : ((pdD ps).any fun kv => tkIs kv.1 [.inl (p.1 : Nat), .inl (p.2 : Nat)]) = decide (p ∈ ps) := by
    unfold pdD
    rw [List.any_map]
    have : (ps.any fun y => decide (y = p)) = decide (p ∈ ps) := by
      rw [Bool.eq_iff_iff, List.any_eq_true, decide_eq_true_eq]
      exact ⟨fun ⟨y, hy, e⟩ => by rw [← of_decide_eq_true e]; exact hy, fun hx => ⟨p, hx, by simp⟩⟩
    rw [← this]
    congr 1
    funext y
    exact tkIs_pair y p
  unfold putT
  rw [e2]
  by_cases h : p ∈ ps
  · rw [if_pos (by simpa using h), if_pos h]
    unfold pdD
    rw [List.map_map]
    congr 1
    refine List.map_congr_left fun y _ => ?_
    show (if tkIs (pairD y) _ = true then (pairD y, D.bl true) else (pairD y, D.bl true)) = _
    split <;> rfl
  · rw [if_neg (by simpa using h), if_neg h]
    unfold pdD
    rw [List.map_append]; rfl
def prL (p : Nat × Nat) : List Int := [(p.1 : Nat), (p.2 : Nat)]
theorem keysP_pd : ∀ ps : List (Nat × Nat), keysP (pdD ps) = some (ps.map fun p => (((p.1 : Nat) : Int), ((p.2 : Nat) : Int)))
  | [] => rfl
  | p :: r => by
    show (match pairOf (pairD p), keysP (pdD r) with | some i, some ks => some (i :: ks) | _, _ => none) = _
    rw [keysP_pd r]; rfl
theorem w_sortP {l : L} {ps : List (Nat × Nat)} {s : S} {Q : L → S → Prop} (h : l.d = .dic (pdD ps)) (q : Q (.ol ((lexSort (ps.map prL)).map tupD)) s) : wm (sortW2 l) s Q := by
  refine w_eq (s' := s) (a := .ol ((lexSort (ps.map prL)).map tupD)) ?_ q
  unfold sortW2
  rw [h]
  dsimp only
  cases ps with
  | nil =>
    have e : lexSort (([] : List (Nat × Nat)).map prL) = [] := by
      have := (lexSort_perm (([] : List (Nat × Nat)).map prL)).length_eq
      exact List.eq_nil_of_length_eq_zero (by simpa using this)
    rw [e]
    have e2 : sortI [] = [] := by
      have := (sortI_perm []).length_eq
      exact List.eq_nil_of_length_eq_zero (by simpa using this)
    show (if ([] : List Int).length < 64 then (pure (.ol ((sortI []).map D.int)) : M L) else bad) s = _
    rw [if_pos (by decide), e2]; rfl
  | cons p r =>
    have e : keysI (pdD (p :: r)) = none := rfl
    rw [e, keysP_pd]
    dsimp only
    rw [List.map_map]; rfl
theorem prL_pair (p : Nat × Nat) : tupD (prL p) = pairD p := rfl
/-- before one another, as tuples are -/
def ltPr (p q : Nat × Nat) : Prop := p.1 < q.1 ∨ (p.1 = q.1 ∧ p.2 < q.2)
theorem lex_pr {p q : Nat × Nat} (h : ltPr p q) : HT.lexLt (prL q) (prL p) = false := by
  unfold prL
  rw [HT.lexLt_cons, HT.lexLt_cons, HT.lexLt_nil_nil]
  unfold ltPr at h
  by_cases e : ((q.1 : Nat) : Int) = (p.1 : Nat)
  · rw [if_pos e]
    by_cases e2 : ((q.2 : Nat) : Int) = (p.2 : Nat)
    · rw [if_pos e2]
    · rw [if_neg e2]; exact decide_eq_false (by omega)
  · rw [if_neg e]; exact decide_eq_false (by omega)
theorem lexSort_pr {ps : List (Nat × Nat)} (h : ps.Pairwise ltPr) : (lexSort (ps.map prL)).map tupD = ps.map pairD := by
  have e : ps.map prL = lexSort (ps.map prL) := lexSort_is (List.Perm.refl _) (by rw [List.pairwise_map]; exact h.imp fun h => lex_pr h)
  rw [← e, List.map_map]; rfl
/-! a sign of a text drawn -/
theorem pickS_ok {F FD : FnS} {NN ND : List Str} (hF : F = runF NN (mPick FD)) (hN : NN.length = 2) (hD : FD = runF ND mDraw) (hND : ND.length = 5) {s : S} {p : Pen} {r : List MO} (hs : s.st = .dic p.fs :: r) {x : Str} (h0 : 0 < x.length) (h1 : x.length < 16777216) {Q : L → S → Prop}
    (q : ∀ (c : Nat) (p' : Pen), c ∈ x.cps.toList → Q (.sh (.str ⟨#[c]⟩)) ⟨s.sl, .dic p'.fs :: r⟩) : wm (callN 2 F [.mref 0, .str x]) s Q := by
  refine w_call hF rfl ?_
  rw [hN, hs]
  show ws (mPick FD) ⟨[some (.sh (.mref 0)), some (.sh (.str x))], .dic p.fs :: r⟩ _ _ _ _
  unfold mPick
  fail "SA"
  refine w_lenS (by omega) ?_
  fail "SA"
  refine draw_ok hD hND rfl (by omega) (by omega) fun y p' hx0 hx1 => ?_
  fail "SA"
  obtain ⟨k, rfl⟩ := Int.eq_ofNat_of_zero_le hx0
  have hk : k < x.cps.toList.length := by
    have e : x.length = x.cps.toList.length := TL.len_tl x
    omega
  refine w_ixS (by omega) (atI_nat (List.getElem?_eq_getElem hk)) ?_
  fail "SA"
  exact q _ p' (List.getElem_mem hk)
/-! a part of a list, by draws -/
theorem SetAt.mk {α : Type} : ∀ {i : Nat} {x : α} {l : List α}, i < l.length → SetAt i x l (l.set i x)
  | 0, _, a :: l, _ => .z
  | i + 1, _, a :: l, h => .s (SetAt.mk (by rw [List.length_cons] at h; omega))
theorem w_lcK {α T : Type} {l : List α} {e : α → D} {v : Nat} {t : M Bool} {el : M D} {sl sm : List (Option L)} {o : Option L} (τ : T → List MO) {p0 : T} {Q : L → S → Prop} (hw : SetAt v none sl sm) (ho : sl[v]? = some o) (hl : l.length ≤ lineN)
    (h : ∀ (x : α) (p : T), x ∈ l → ∃ sd, SetAt v (some (.sh (e x))) sm sd ∧ wm t ⟨sd, τ p⟩ fun b s4 => ∃ p', s4 = ⟨sd, τ p'⟩ ∧ (b = true → wm el ⟨sd, τ p'⟩ fun y s5 => s5 = ⟨sd, τ p'⟩ ∧ y = e x))
    (q : ∀ (qs : List α) (p : T), qs.Sublist l → Q (.ol (qs.map e)) ⟨sl, τ p⟩) : wm (lcD (l.map e) [v] (asN v) t el) ⟨sl, τ p0⟩ Q := by
  have hln := hw.len
  have smn : SetAt v none sm sm := by
    have := SetAt.mk (i := v) (x := (none : Option L)) (l := sm) (by rw [hln.1]; exact hln.2)
    rw [show sm.set v none = sm by rw [← hw.eq, List.set_set]] at this
    exact this
  refine w_lcI (o := o) (fun i acc s' => ∃ (qs : List α) (p : T) (sx : List (Option L)), acc = qs.map e ∧ qs.Sublist (l.take i) ∧ SetAt v none sx sm ∧ s' = ⟨sx, τ p⟩) hw ho (by rw [List.length_map]; exact hl) ⟨[], p0, sm, rfl, List.nil_sublist _, smn, rfl⟩ (fun i d acc s' hd hI => ?_) (fun acc s' hI => ?_)
  · obtain ⟨qs, p, sx, rfl, hsub, hsx, rfl⟩ := hI
    rw [List.getElem?_map] at hd
    cases hx : l[i]? with
    | none => rw [hx] at hd; cases hd
    | some x =>
      rw [hx] at hd
      have hd : e x = d := Option.some.inj hd
      subst hd
      obtain ⟨sd, h1, h2⟩ := h x p (List.mem_of_getElem? hx)
      have hsd : SetAt v none sd sm := by
        have := SetAt.mk (i := v) (x := (none : Option L)) (l := sd) (by rw [h1.len.1, hln.1]; exact hln.2)
        rw [show sd.set v none = sm by rw [← h1.eq, List.set_set, smn.eq]] at this
        exact this
      have htk : l.take (i + 1) = l.take i ++ [x] := by rw [List.take_succ, hx]; rfl
      refine ⟨sm, sd, hsx, h1, wm_mono h2 fun b s4 ⟨p', e1, h3⟩ => ?_⟩
      subst e1
      cases b with
      | false =>
        rw [if_neg (by decide)]
        exact ⟨qs, p', sd, rfl, by rw [htk]; exact hsub.trans (List.sublist_append_left _ _), hsd, rfl⟩
      | true =>
        rw [if_pos rfl]
        refine wm_mono (h3 rfl) fun y s5 ⟨e2, e3⟩ => ?_
        subst e2 e3
        exact ⟨qs ++ [x], p', sd, by rw [List.map_append]; rfl, by rw [htk]; exact hsub.append (List.Sublist.refl _), hsd, rfl⟩
  · obtain ⟨qs, p, sx, rfl, hsub, hsx, rfl⟩ := hI
    have e1 : sx.length = sl.length := by rw [← hsx.len.1, ← hln.1]
    refine ⟨e1, sl, ?_, q qs p (by rw [List.length_map, List.take_length] at hsub; exact hsub)⟩
    have := SetAt.mk (i := v) (x := o) (l := sx) (by rw [e1]; exact hln.2)
    have e2 : sx.set v o = sl := by
      have z1 : (sx.set v none).set v o = (sl.set v none).set v o := by rw [hsx.eq, hw.eq]
      rw [List.set_set, List.set_set] at z1
      rw [z1]
      obtain ⟨h1, h2⟩ := List.getElem?_eq_some_iff.mp ho
      rw [← h2]
      exact List.set_getElem_self h1
    rw [e2] at this
    exact this
theorem w_inDF {kvs : List (D × D)} {d : D} {r : Option D} {s : S} {Q : L → S → Prop} (h : atD kvs d = some r) (q : Q (.sh (.bl r.isSome)) s) : wm (gIn2 false d (.dic kvs)) s Q := w_inDd h q
theorem w_inDT {kvs : List (D × D)} {d : D} {r : Option D} {s : S} {Q : L → S → Prop} (h : atD kvs d = some r) (q : Q (.sh (.bl (!r.isSome))) s) : wm (gIn2 true d (.dic kvs)) s Q := w_inDd h q
theorem w_inSF {c : Nat} {z : Str} {s : S} {Q : L → S → Prop} (h : c ∈ z.cps.toList) (q : Q (.sh (.bl true)) s) : wm (gIn2 false (.str ⟨#[c]⟩) (.str z)) s Q := w_inS1 (by show Q (.sh (.bl (decide (c ∈ z.cps.toList)))) s; rw [decide_eq_true h]; exact q)
theorem w_inST {c : Nat} {z : Str} {s : S} {Q : L → S → Prop} (h : c ∈ z.cps.toList) (q : Q (.sh (.bl false)) s) : wm (gIn2 true (.str ⟨#[c]⟩) (.str z)) s Q := w_inS1 (by show Q (.sh (.bl (!decide (c ∈ z.cps.toList)))) s; rw [decide_eq_true h]; exact q)
/-! natural numbers as values -/
abbrev nI (n : Nat) : D := .int (n : Nat)
theorem embN : Emb nI (fun _ => True) 0 := by
  obtain ⟨py, h⟩ := emb_int.ok
  refine ⟨fun n => py (n : Nat), fun x _ => ⟨(h x trivial).1, (h x trivial).2.1, (h x trivial).2.2.1, fun y _ => ?_⟩⟩
  rw [(h x trivial).2.2.2 y trivial]
  exact decide_eq_decide.mpr ⟨fun e => Int.ofNat.inj e, fun e => by rw [e]⟩
theorem embPr : Emb pairD (fun _ => True ∧ True) 1 := emb_pair embN embN
section
variable {s : S} {Q : L → S → Prop}
theorem w_inLF {x : Nat} {l : List Nat} (q : Q (.sh (.bl (decide (x ∈ l)))) s) : wm (gIn2 false (.int (x : Nat)) (.tup (l.map nI))) s Q := w_inD (embN.inL (by decide) trivial fun _ _ => trivial).2 q
theorem w_inLT {x : Nat} {l : List Nat} (q : Q (.sh (.bl (!decide (x ∈ l)))) s) : wm (gIn2 true (.int (x : Nat)) (.tup (l.map nI))) s Q := w_inD (embN.inL (by decide) trivial fun _ _ => trivial).2 q
theorem w_inPF {x : Nat × Nat} {l : List (Nat × Nat)} (q : Q (.sh (.bl (decide (x ∈ l)))) s) : wm (gIn2 false (pairD x) (.lst (l.map pairD))) s Q := w_inD (b := decide (x ∈ l)) ((embPr.inL (by decide) ⟨trivial, trivial⟩ fun _ _ => ⟨trivial, trivial⟩).1.trans (congrArg some (decide_eq_decide.mpr Iff.rfl))) (by show Q (.sh (.bl (decide (x ∈ l)))) s; exact q)
theorem eqD_nilI (ns : List Int) : eqD (.lst (ns.map D.int)) (.lst []) = some (decide (ns = [])) := (emb_lst emb_int).eq (x := ns) (y := []) (by decide) (fun _ _ => trivial) (fun _ h => by cases h)
theorem eqD_nilP (ns : List (Nat × Nat)) : eqD (.lst (ns.map pairD)) (.lst []) = some (decide (ns = [])) := (emb_lst embPr).eq (x := ns) (y := []) (by decide) (fun _ _ => ⟨trivial, trivial⟩) (fun _ h => by cases h)
theorem w_eqNp {ns : List (Nat × Nat)} (q : Q (.sh (.bl (decide (ns = [])))) s) : wm (gEq (.lst (ns.map pairD)) (.lst [])) s Q := w_eqD (eqD_nilP ns) q
theorem w_neNn {ns : List Nat} (q : Q (.sh (.bl (!decide (ns = [])))) s) : wm (gNe (.lst (ns.map nI)) (.lst [])) s Q := by
  refine w_neD (b := decide (ns = [])) ?_ q
  have := eqD_nilI (ns.map fun n => ((n : Nat) : Int))
  rw [List.map_map] at this
  rw [show (ns.map nI) = ns.map (D.int ∘ fun n => ((n : Nat) : Int)) from rfl, this]
  simp
theorem w_neN1 {α : Type} {xs : List α} (q : Q (.sh (.bl (!decide (xs = [])))) s) : wm (gNe (.lst (xs.map fun _ => D.int 1)) (.lst [])) s Q := by
  refine w_neD (b := decide (xs = [])) ?_ q
  have := eqD_nilI (xs.map fun _ => (1 : Int))
  rw [List.map_map] at this
  rw [show (xs.map fun _ => D.int 1) = xs.map (D.int ∘ fun _ => (1 : Int)) from rfl, this]
  simp
theorem w_addL {ds es : List D} (h : ds.length + es.length ≤ 16777216) (q : Q (.ol (ds ++ es)) s) : wm (gAdd (.lst ds) (.lst es)) s Q := by
  refine w_eq (s' := s) (a := .ol (ds ++ es)) ?_ q
  unfold gAdd
  dsimp only
  rw [if_pos (show ds.length + es.length ≤ lineN from h)]
  rfl
end
theorem enD_get2 {α : Type} {e : α → D} {l : List α} {i : Nat} {d : D} (d0 : α) (h : (enD 0 (l.map e))[i]? = some d) : i < l.length ∧ d = .tup [.int (i : Nat), e (l.getD i d0)] := by
  rw [enD_map, List.getElem?_map, List.getElem?_zipIdx] at h
  cases hx : l[i]? with
  | none => rw [hx] at h; cases h
  | some x =>
    rw [hx] at h
    have h : D.tup [.int ((0 + i : Nat) : Int), e x] = d := Option.some.inj h
    refine ⟨(List.getElem?_eq_some_iff.mp hx).1, ?_⟩
    rw [← h, Nat.zero_add, List.getD_eq_getElem?_getD, hx]
    rfl
theorem enD_len2 {α : Type} {e : α → D} {l : List α} : (enD 0 (l.map e)).length = l.length := by
  rw [enD_map, List.length_map, List.length_zipIdx]
/-- a loop over enumerate(..) -/
theorem s_forE {α : Type} {sl : S} {a : AS} {f : MS} {l : List α} {e : α → D} (d0 : α) {N : S → Prop} {R : L → S → Prop} {B C : S → Prop} (I : Nat → S → Prop) (h0 : I 0 sl)
    (hb : ∀ (i : Nat) (s : S), i < l.length → I i s → ws (asg a (.sh (.tup [.int (i : Nat), e (l.getD i d0)]))) s (fun s1 => ws f s1 (I (i + 1)) R N (I (i + 1))) (fun _ _ => False) (fun _ => False) (fun _ => False)) (hN : ∀ s, I l.length s → N s) : ws (forB a f (enD 0 (l.map e))) sl N R B C := by
  refine s_forI I h0 (fun i d s hd hi => ?_) (fun s hi => hN s (by rw [enD_len2] at hi; exact hi))
  obtain ⟨h1, rfl⟩ := enD_get2 d0 hd
  exact hb i s h1 hi
theorem atN {l : List Nat} {k : Nat} (h : k < l.length) : atI (l.map nI) (k : Int) = some (nI (l.getD k 0)) := atI_nat (by rw [List.getElem?_map, List.getElem?_eq_getElem h, List.getD_eq_getElem?_getD, List.getElem?_eq_getElem h]; rfl)
/-! own lists looked at -/
section
variable {s : S} {Q : L → S → Prop} {T : Tb}
theorem w_cmN {i : Nat} {neg : Bool} {fb : M D} {x : L} (h0 : s.sl[i]? = some (some x)) (h : wm fb s fun e s1 => wm (slN i) s1 fun l s2 => wm (cmL neg l e) s2 Q) : wm (cmN i neg fb) s Q := w_bind (w_sl h0 (w_bind (wm_mono h fun _ _ h => w_bind h)))
theorem w_cmLs {d e : D} (h : wm (gEq d e) s Q) : wm (cmL false (.sh d) e) s Q := h
theorem w_cmLns {d e : D} (h : wm (gNe d e) s Q) : wm (cmL true (.sh d) e) s Q := h
theorem w_cmLo {ds : List D} {e : D} (h : wm (gEq (.lst ds) e) s Q) : wm (cmL false (.ol ds) e) s Q := h
theorem w_cmLno {ds : List D} {e : D} (h : wm (gNe (.lst ds) e) s Q) : wm (cmL true (.ol ds) e) s Q := h
theorem w_brM {m : Nat} {f : FnS} {is : List Nat} {ls : List L} (h1 : slL s is = some ls) (h2 : ls.length = m) (h3 : noMs (ls.map L.d) = true) (h4 : wm (callN m f (ls.map L.d)) ⟨[], []⟩ fun l s' => s' = ⟨[], []⟩ ∧ ∃ d, l = .sh d ∧ noL d = true ∧ Q (.sh d) s) : wm (brM m f is) s Q := by
  obtain ⟨l, s', e, h5, d, h6, h7, h8⟩ := wm_ok h4
  subst h5 h6
  have hl : (ls.map L.d).length = m := by rw [List.length_map]; exact h2
  unfold callN at e
  rw [if_pos hl] at e
  unfold callM at e
  refine w_eq (s' := s) (a := .sh d) ?_ h8
  unfold brM
  rw [h1]
  dsimp only
  rw [if_pos ⟨h2, h3⟩]
  dsimp only at e
  cases q : f (ls.map L.d) ⟨[], []⟩ with
  | ok x s2 =>
    rw [q] at e
    injection e with e1 e2
    subst e1
    obtain ⟨sl2, st2⟩ := s2
    have : st2 = [] := by injection e2
    subst this
    dsimp only
    rw [if_pos h7]
  | exc C fs s2 => rw [q] at e; cases e
  | bad => rw [q] at e; cases e
theorem w_eqOl {ds : List D} {e : D} (h : wm (gEq (.lst ds) e) s Q) : wm (gEqO T (.lst ds) e) s Q := h
theorem w_eqOt {ds : List D} {e : D} (h : wm (gEq (.tup ds) e) s Q) : wm (gEqO T (.tup ds) e) s Q := h
theorem w_eqOi {i : Int} {e : D} (h : wm (gEq (.int i) e) s Q) : wm (gEqO T (.int i) e) s Q := h
theorem w_eqOb {b : Bool} {e : D} (h : wm (gEq (.bl b) e) s Q) : wm (gEqO T (.bl b) e) s Q := h
theorem w_eqOs {x : Str} {e : D} (h : wm (gEq (.str x) e) s Q) : wm (gEqO T (.str x) e) s Q := h
theorem w_neOl {ds : List D} {e : D} (h : wm (gNe (.lst ds) e) s Q) : wm (gNeO T (.lst ds) e) s Q := h
theorem w_neOt {ds : List D} {e : D} (h : wm (gNe (.tup ds) e) s Q) : wm (gNeO T (.tup ds) e) s Q := h
theorem w_neOi {i : Int} {e : D} (h : wm (gNe (.int i) e) s Q) : wm (gNeO T (.int i) e) s Q := h
theorem w_neOb {b : Bool} {e : D} (h : wm (gNe (.bl b) e) s Q) : wm (gNeO T (.bl b) e) s Q := h
theorem w_neOs {x : Str} {e : D} (h : wm (gNe (.str x) e) s Q) : wm (gNeO T (.str x) e) s Q := h
theorem ownB_ok {F : FnS} {d e : D} {b : Bool} (h : wm (callN 2 F [d, e]) s fun l s' => l = .sh (.bl b) ∧ Q (.sh (.bl b)) s') : wm (ownB F d e) s Q := by
  obtain ⟨l, s', h1, h2, h3⟩ := wm_ok h
  subst h2
  refine w_eq (s' := s') (a := .sh (.bl b)) ?_ h3
  unfold callN at h1
  rw [if_pos (show [d, e].length = 2 from rfl)] at h1
  unfold callM at h1
  unfold ownB gOwn
  cases q : F [d, e] ⟨[], s.st⟩ with
  | ok x s2 => rw [q] at h1; dsimp only at h1 ⊢; injection h1 with e1 e2; rw [e1, e2]
  | exc C fs s2 => rw [q] at h1; cases h1
  | bad => rw [q] at h1; cases h1
theorem w_eqOo {C : Str} {fs gs : List (Str × D)} {F : FnS} {b : Bool} (hm : T.me C "__eq__" = some F) (h : wm (callN 2 F [.inst C fs, .inst C gs]) s fun l s' => l = .sh (.bl b) ∧ Q (.sh (.bl b)) s') : wm (gEqO T (.inst C fs) (.inst C gs)) s Q := by
  show wm (if C = C then (match T.me C "__eq__" with | some F => ownB F (.inst C fs) (.inst C gs) | none => bad) else bad) s Q
  rw [if_pos rfl, hm]
  exact ownB_ok h
theorem w_neOo {C : Str} {fs gs : List (Str × D)} {F : FnS} {b : Bool} (hm : T.me C "__ne__" = some F) (h : wm (callN 2 F [.inst C fs, .inst C gs]) s fun l s' => l = .sh (.bl b) ∧ Q (.sh (.bl b)) s') : wm (gNeO T (.inst C fs) (.inst C gs)) s Q := by
  show wm (if C = C then (match T.me C "__ne__" with | some F => ownB F (.inst C fs) (.inst C gs) | none => bad) else bad) s Q
  rw [if_pos rfl, hm]
  exact ownB_ok h
end
end Bv

/-! stars, two clauses, dicts of tuples, a range downwards -/
namespace Bv
open PySem PySem.Spec L2
set_option hygiene false
local macro_rules | `(tactic| fail "S1") => `(tactic| (first | with_reducible refine s_seq ?_ | with_reducible refine w_lc2S ?_ | with_reducible refine s_nil ?_ | with_reducible refine s_ag ?_ | with_reducible refine s_rt ?_ | with_reducible refine s_ex ?_ | with_reducible refine s_for ?_ | with_reducible refine s_par2 ?_ | with_reducible refine s_par3 ?_ | with_reducible refine w_pure ?_ | with_reducible refine w_dM ?_ | with_reducible refine w_sM ?_ | with_reducible refine w_th ?_ | with_reducible refine w_fn ?_ | with_reducible refine w_rg ?_ | with_reducible refine w_it ?_ | with_reducible refine w_nil ?_ | with_reducible refine w_cons ?_ | with_reducible refine w_bin2 ?_ | with_reducible refine w_addI ?_ | with_reducible refine w_subI ?_ | with_reducible refine w_ltI ?_ | with_reducible refine w_leI ?_ | with_reducible refine w_gtI ?_ | with_reducible refine w_geI ?_ | with_reducible refine w_eqS ?_ | with_reducible refine w_neS ?_ | with_reducible refine w_eqI ?_ | with_reducible refine w_neI ?_ | with_reducible refine w_int ?_ | with_reducible refine w_ixM ?_ | with_reducible refine w_cmpT ?_ | with_reducible refine w_notT ?_ | with_reducible refine w_blT ?_ | with_reducible refine w_yes ?_ | with_reducible refine w_chM ?_ | with_reducible refine w_lcS ?_ | with_reducible refine w_itL ?_ | with_reducible refine w_ix0T ?_ | with_reducible refine w_ix0L ?_ | with_reducible refine w_ix0O ?_ | with_reducible refine w_ix1T ?_ | with_reducible refine w_ix1L ?_ | with_reducible refine w_ix1O ?_ | with_reducible refine w_ix2T ?_ | with_reducible refine w_ix2L ?_ | with_reducible refine w_ix2O ?_ | with_reducible refine w_ix3T ?_ | with_reducible refine w_ix3L ?_ | with_reducible refine w_ix3O ?_ | with_reducible refine w_itT ?_ | with_reducible refine w_itC ?_ | with_reducible refine w_lstS ?_ | with_reducible refine w_lstL ?_ | with_reducible refine w_lstT ?_ | with_reducible refine w_lstO ?_ | with_reducible refine w_tupT ?_ | with_reducible refine w_tupL ?_ | with_reducible refine w_tupO ?_ | with_reducible refine w_dd ?_ | with_reducible refine s_asT1 ?_ | with_reducible refine s_stS ?_ | with_reducible refine w_max2 ?_ | with_reducible refine w_min2 ?_ | with_reducible refine s_asT0 ?_ | with_reducible refine w_gcd ?_ | with_reducible refine w_idxM ?_ | with_reducible refine w_enW ?_ | with_reducible refine w_enT ?_ | with_reducible refine w_zpL ?_ | with_reducible refine w_zpT ?_ | with_reducible refine w_rgOf ?_ | with_reducible refine w_rgOf2 ?_ | with_reducible refine w_inN ?_ | with_reducible refine w_inLs ?_ | with_reducible refine w_inLo ?_ | with_reducible refine w_dcS ?_ | with_reducible refine w_inK ?_ | with_reducible refine w_noP ?_ | with_reducible refine w_soP ?_ | with_reducible refine w_slM ?_ | with_reducible refine s_op ?_ | with_reducible refine w_inLd ?_ | with_reducible refine w_itS ?_ | with_reducible refine w_joM ?_ | with_reducible refine w_inLF ?_ | with_reducible refine w_inLT ?_ | with_reducible refine w_inPF ?_ | with_reducible refine w_cmLs ?_ | with_reducible refine w_cmLns ?_ | with_reducible refine w_cmLo ?_ | with_reducible refine w_cmLno ?_ | with_reducible refine w_eqOl ?_ | with_reducible refine w_eqOt ?_ | with_reducible refine w_eqOi ?_ | with_reducible refine w_eqOb ?_ | with_reducible refine w_eqOs ?_ | with_reducible refine w_neOl ?_ | with_reducible refine w_neOt ?_ | with_reducible refine w_neOi ?_ | with_reducible refine w_neOb ?_ | with_reducible refine w_neOs ?_ | ((with_reducible apply w_esc); (focus exact rfl)) | ((with_reducible apply w_sl); (focus exact rfl)) | ((with_reducible apply s_asN); (focus (repeat (first | exact SetAt.z | apply SetAt.s)))) | ((with_reducible apply w_ixN); (focus exact rfl)) | ((with_reducible apply w_slN); (focus exact rfl)) | ((with_reducible apply w_slL); (focus exact rfl)) | ((with_reducible apply w_slT); (focus exact rfl)) | ((with_reducible apply w_escO); (focus exact rfl); (focus (repeat (first | exact SetAt.z | apply SetAt.s)))) | ((with_reducible apply w_mv); (focus exact rfl); (focus (repeat (first | exact SetAt.z | apply SetAt.s)))) | ((with_reducible refine w_modI ?_ ?_); (focus first | omega | decide)) | ((with_reducible refine w_fdvI ?_ ?_ ?_); (focus first | omega | decide); (focus first | omega | decide)) | ((with_reducible refine w_powI ?_ ?_); (focus decide)) | ((with_reducible refine w_mulI ?_ ?_); (focus first | exact .inr (by decide) | exact .inl (by decide) | exact .inr (by constructor <;> omega) | exact .inl (by constructor <;> omega))) | ((with_reducible apply w_app); (focus exact rfl)) | ((with_reducible apply w_cmN); (focus exact rfl)) | ((with_reducible apply w_appN); (focus exact rfl); (focus first | decide | (simp only [List.length_cons, List.length_nil]; decide)); (focus (repeat (first | exact SetAt.z | apply SetAt.s)))) | ((with_reducible apply w_isi); (focus exact rfl); (focus assumption)) | ((with_reducible apply w_isF); (focus exact rfl)) | ((with_reducible apply w_isN); (focus exact rfl)) | ((with_reducible apply w_fldS); (focus exact rfl)) | ((with_reducible apply s_stN); (focus exact rfl); (focus exact Nat.le_of_ble_eq_true rfl); (focus (repeat (first | exact SetAt.z | apply SetAt.s)))) | ((with_reducible apply w_fldO); (focus exact rfl)) | ((with_reducible refine w_rg1 ?_ ?_); (focus first | (constructor <;> omega) | decide)) | ((with_reducible refine w_rg2 ?_ ?_); (focus first | (refine ⟨?_, ?_, ?_, ?_⟩ <;> omega) | decide)) | ((with_reducible refine w_rgW ?_ ?_); (focus constructor <;> omega)) | ((with_reducible refine w_rgW2 ?_ ?_); (focus refine ⟨⟨?_, ?_⟩, ⟨?_, ?_⟩, ?_⟩ <;> omega)) | ((with_reducible refine w_addT ?_ ?_); (focus (simp only [List.length_map, List.length_replicate, List.length_cons, List.length_nil, List.length_range]; unfold lineN; omega))) | ((with_reducible refine w_mul1 ?_ ?_); (focus constructor <;> omega)) | ((with_reducible refine w_tup ?_ ?_); (focus exact Nat.le_of_ble_eq_true rfl)) | ((with_reducible refine w_lst ?_ ?_); (focus exact Nat.le_of_ble_eq_true rfl)) | ((with_reducible refine w_pen_at ?_ ?_); (focus exact rfl)) | ((with_reducible refine s_pen_at ?_ ?_ ?_); (focus exact rfl); (focus exact rfl)) | ((with_reducible refine w_pen_digits ?_ ?_); (focus exact rfl)) | ((with_reducible refine s_pen_digits ?_ ?_); (focus exact rfl)) | ((with_reducible refine w_pen_count ?_ ?_); (focus exact rfl)) | ((with_reducible refine s_pen_count ?_ ?_); (focus exact rfl)) | ((with_reducible refine w_pen_fold ?_ ?_); (focus exact rfl)) | ((with_reducible refine s_pen_fold ?_ ?_); (focus exact rfl)) | ((with_reducible refine w_pen_cells ?_ ?_); (focus exact rfl)) | with_reducible refine s_dp ?_ | with_reducible refine if_not ?_ | with_reducible refine if_tt ?_ | with_reducible refine if_ff ?_ | ((with_reducible refine if_decT ?_ ?_); (focus first | omega | (simp only [List.length_cons, List.length_nil]; omega))) | ((with_reducible refine if_decF ?_ ?_); (focus first | omega | (simp only [List.length_cons, List.length_nil]; omega))) | with_reducible refine if_dec (fun hc => ?_) (fun hc => ?_) | with_reducible refine s_if ?_ | with_reducible refine w_andT ?_ | with_reducible refine w_orT ?_ | with_reducible refine w_andM ?_ | with_reducible refine w_orM ?_ | with_reducible refine w_notM ?_ | with_reducible refine w_ifM ?_ | with_reducible refine w_truT ?_ | with_reducible refine w_negI ?_ | with_reducible refine ex_truB ?_ | with_reducible refine ⟨_, rfl, ?_⟩ | dsimp only [L.d] | ((with_reducible refine if_t ?_ ?_); (focus exact rfl)) | ((with_reducible refine if_f ?_ ?_); (focus exact rfl)) | ((with_reducible apply w_len); (focus exact .inl rfl)) | ((with_reducible apply w_len); (focus exact .inr rfl))))
local macro_rules | `(tactic| fail "SA") => `(tactic| (repeat' fail "S1"))
local macro_rules | `(tactic| fail "SR") => `(tactic| (repeat fail "S1"))
set_option hygiene true
open PyProof.Rows hiding pairD
section
variable {s : S} {Q : List D → S → Prop}
theorem w_star {f : M D} {fs : M (List D)} (h : wm f s fun d s1 => ∃ ds, (d = .tup ds ∨ d = .lst ds) ∧ wm fs s1 fun es s2 => Q (ds ++ es) s2) : wm (starM f fs) s Q := w_bind (wm_mono h fun d s1 ⟨ds, hd, h⟩ => by
  rcases hd with rfl | rfl
  · exact w_bind (wm_mono h fun _ _ q => ⟨q⟩)
  · exact w_bind (wm_mono h fun _ _ q => ⟨q⟩))
/-- a range downwards -/
def dnD (n : Nat) : List D := (List.range n).map fun i => .int (((n - 1 - i : Nat)) : Int)
theorem w_rg3 {n : Nat} (h : n ≤ 1000) (q : Q (dnD n) s) : wm (rg3W [.int ((n : Int) - 1), .int (-1), .int (-1)]) s Q := by
  have hs : Builtin.Range.rangeSize ((n : Int) - 1) (-1) (-1) = n := by
    unfold Builtin.Range.rangeSize
    rw [if_neg (by decide)]
    split
    · show ((n : Int) - 1 - -1 - 1) / 1 + 1 = n
      rw [Int.ediv_one]; omega
    · omega
  have hsm : Builtin.Range.small ((n : Int) - 1) (-1) (-1) = true := by
    unfold Builtin.Range.small
    rw [hs]
    unfold Builtin.Range.rangeFitsLong
    simp only [Bool.and_eq_true, Bool.or_eq_true, decide_eq_true_eq, beq_iff_eq]
    exact ⟨⟨⟨⟨by omega, by decide⟩, by decide⟩, by omega⟩, .inr (by decide)⟩
  have : rg3W [.int ((n : Int) - 1), .int (-1), .int (-1)] = pure (dnD n) := by
    show (if (decide ((-1 : Int) ≠ 0) && decide ((-1 : Int).natAbs < 1073741824) && Builtin.Range.small ((n : Int) - 1) (-1) (-1)) = true then (pure (rgC ((n : Int) - 1) (-1) (Builtin.Range.rangeSize ((n : Int) - 1) (-1) (-1)).toNat) : M (List D)) else bad) = _
    rw [hsm, if_pos (by decide), hs]
    congr 1
    unfold rgC dnD
    rw [show ((n : Int)).toNat = n by omega]
    exact List.map_congr_left fun i hi => by
      have := List.mem_range.mp hi
      show D.int _ = D.int _
      congr 1; omega
  rw [this]
  exact ⟨q⟩
end
theorem w_sortTu {l : L} {ns : List Int} {s : S} {Q : L → S → Prop} (h : l.d = .tup (ns.map D.int)) (q : Q (.ol ((sortI ns).map D.int)) s) : wm (sortW2 l) s Q := by
  refine w_eq (s' := s) (a := .ol ((sortI ns).map D.int)) ?_ q
  unfold sortW2
  rw [h]
  dsimp only
  rw [intsOf_map]
  rfl
/-! ### dicts whose keys are tuples, all True -/
structure KeyE {α : Type} (e : α → D) (κ : α → List Key) : Prop where
  k : ∀ x, tkeyOf (e x) = some (κ x)
  inj : ∀ x y, κ x = κ y → x = y
def kD {α : Type} (e : α → D) (l : List α) : List (D × D) := l.map fun x => (e x, .bl true)
section
variable {α : Type} [DecidableEq α] {e : α → D} {κ : α → List Key}
theorem KeyE.is (K : KeyE e κ) (x y : α) : tkIs (e x) (κ y) = decide (x = y) := by
  unfold tkIs
  rw [K.k x]
  exact decide_eq_decide.mpr ⟨fun h => K.inj _ _ (Option.some.inj h), fun h => by rw [h]⟩
theorem KeyE.nk (K : KeyE e κ) (x : α) : keyOf (e x) = none := by
  cases h : keyOf (e x) with
  | none => rfl
  | some k => have := tkeyOf_key h; rw [K.k x] at this; cases this
theorem KeyE.tup (K : KeyE e κ) (l : List α) : tupK (kD e l) = true := by
  unfold tupK kD
  rw [List.all_map, List.all_eq_true]
  intro x _
  show (tkeyOf (e x)).isSome = true
  rw [K.k x]; rfl
theorem KeyE.any (K : KeyE e κ) (l : List α) (x : α) : ((kD e l).any fun kv => tkIs kv.1 (κ x)) = decide (x ∈ l) := by
  unfold kD
  rw [List.any_map, Bool.eq_iff_iff, List.any_eq_true, decide_eq_true_eq]
  constructor
  · rintro ⟨y, hy, h⟩
    have h : tkIs (e y) (κ x) = true := h
    rw [K.is] at h
    rw [← of_decide_eq_true h]; exact hy
  · intro h
    exact ⟨x, h, by show tkIs (e x) (κ x) = true; rw [K.is]; simp⟩
theorem KeyE.put (K : KeyE e κ) {l : List α} {x : α} (hx : x ∉ l) (hl : l.length < lineN) : putO (kD e l) (e x) (.bl true) = some (kD e (l ++ [x])) := by
  unfold putO
  rw [K.nk x]
  dsimp only
  rw [K.k x]
  dsimp only
  rw [K.tup, if_pos (by rw [Bool.true_and, decide_eq_true_eq]; unfold kD; rw [List.length_map]; exact hl)]
  unfold putT
  rw [K.any, if_neg (by simpa using hx)]
  congr 1
  unfold kD
  rw [List.map_append]
  rfl
theorem KeyE.val (K : KeyE e κ) (l : List α) (x : α) : (valT (kD e l) (κ x)).isSome = decide (x ∈ l) := by
  unfold valT
  rw [Option.isSome_map, ← K.any l x, Bool.eq_iff_iff, List.find?_isSome, List.any_eq_true]
theorem w_inKD (K : KeyE e κ) {l : List α} {x : α} {neg : Bool} {s : S} {Q : L → S → Prop} (q : Q (.sh (.bl (if neg then !decide (x ∈ l) else decide (x ∈ l)))) s) : wm (gIn2 neg (e x) (.dic (kD e l))) s Q := by
  refine w_eq (s' := s) (a := .sh (.bl (if neg then !decide (x ∈ l) else decide (x ∈ l)))) ?_ q
  show gInD neg (e x) (kD e l) s = _
  cases l with
  | nil =>
    have e1 : atD (kD e []) (e x) = none := by
      unfold atD
      rw [K.nk x]
      dsimp only
      rw [K.k x]
      rfl
    unfold gInD
    rw [e1]
    dsimp only
    rw [K.k x]
    cases neg <;> rfl
  | cons y r =>
    have e1 : atD (kD e (y :: r)) (e x) = some (valT (kD e (y :: r)) (κ x)) := by
      unfold atD
      rw [K.nk x]
      dsimp only
      rw [K.k x]
      dsimp only
      rw [K.tup]
      rfl
    unfold gInD
    rw [e1]
    dsimp only
    rw [K.val]
    rfl
/-- {x: True for x in ..}, all unlike -/
theorem w_dcT (K : KeyE e κ) {l : List α} {vs : List Nat} {a : AS} {k el : M D} {sl sm : List (Option L)} {st : List MO} {Q : L → S → Prop} (nd : l.Nodup) (hw : wipeS ⟨sl, st⟩ vs = ⟨sm, st⟩) (hl : l.length ≤ lineN)
    (h : ∀ x ∈ l, ∃ sd, a (.sh (e x)) ⟨sm, st⟩ = some ⟨sd, st⟩ ∧ wipeS ⟨sd, st⟩ vs = ⟨sm, st⟩ ∧ wm k ⟨sd, st⟩ fun y s5 => s5 = ⟨sd, st⟩ ∧ y = e x ∧ wm el ⟨sd, st⟩ fun z s6 => s6 = ⟨sd, st⟩ ∧ z = .bl true)
    (q : Q (.od (kD e l)) ⟨sl, st⟩) : wm (dcD (l.map e) vs a yesM k el) ⟨sl, st⟩ Q := by
  unfold dcD
  have key : ∀ (r acc : List α) (s : S), (∀ d ∈ r, d ∈ l) → (acc ++ r).Nodup → acc.length + r.length ≤ lineN → wipeS s vs = ⟨sm, st⟩ → ∃ s', dcB2 vs a yesM k el (r.map e) (kD e acc) s = .ok (kD e (acc ++ r)) s' ∧ wipeS s' vs = ⟨sm, st⟩ := by
    intro r
    induction r with
    | nil => intro acc s _ _ _ hs; exact ⟨s, by rw [List.append_nil]; simp [dcB2], hs⟩
    | cons x r ih =>
      intro acc s hm hnd hlen hs
      obtain ⟨sd, h1, h2, h3⟩ := h x (hm x (by simp))
      obtain ⟨y, s5, e5, rfl, rfl, h4⟩ := wm_ok h3
      obtain ⟨z, s6, e6, rfl, rfl⟩ := wm_ok h4
      rw [List.length_cons] at hlen
      rw [List.map_cons]
      unfold dcB2
      rw [hs, h1]
      dsimp only
      show ∃ s' : S, (match k ⟨sd, st⟩ with
        | .ok kd s3 => (match el s3 with
          | .ok y s4 => (match putO (kD e acc) kd y with
            | some acc1 => dcB2 vs a yesM k el (r.map e) acc1 s4
            | none => Res.bad)
          | _ => Res.bad)
        | _ => Res.bad) = _ ∧ _
      rw [e5]
      dsimp only
      rw [e6]
      dsimp only
      have hx : x ∉ acc := fun hx => by
        rw [List.nodup_append] at hnd
        exact hnd.2.2 x hx x (by simp) rfl
      rw [K.put hx (by omega)]
      dsimp only
      obtain ⟨s', h5, h6⟩ := ih (acc ++ [x]) ⟨sd, st⟩ (fun x hx => hm x (by simp [hx])) (by rw [List.append_assoc]; exact hnd) (by rw [List.length_append, List.length_singleton]; omega) h2
      exact ⟨s', by rw [h5, List.append_assoc]; rfl, h6⟩
  obtain ⟨s', h5, h6⟩ := key l [] (wipeS ⟨sl, st⟩ vs) (fun _ h => h) nd (by simpa using hl) (by rw [hw, ← hw, wipeS_twice, hw])
  refine w_eq (s' := ⟨sl, st⟩) (a := .od (kD e l)) ?_ q
  unfold dcM2
  show (match dcB2 vs a yesM k el (l.map e) (kD e []) (wipeS ⟨sl, st⟩ vs) with | .ok ys s2 => (Res.ok (L.od ys) (restS ⟨sl, st⟩ s2 vs) : Res L) | _ => Res.bad) = _
  rw [h5]
  dsimp only
  rw [restS_same (h6.trans hw.symm)]
  rfl
end
theorem kE_pair : KeyE pairD fun p => [.inl (p.1 : Nat), .inl (p.2 : Nat)] where
  k := fun x => rfl
  inj := fun x y h => by
    have z1 := Sum.inl.inj (List.cons.inj h).1
    have z2 := Sum.inl.inj (List.cons.inj (List.cons.inj h).2).1
    exact Prod.ext (Int.ofNat.inj z1) (Int.ofNat.inj z2)
theorem keysOf_nI : ∀ l : List Nat, keysOf (l.map nI) = some (l.map fun a => (.inl (a : Nat) : Key))
  | [] => rfl
  | a :: r => by
    show (match keyOf (nI a), keysOf (r.map nI) with | some k, some ks => some (k :: ks) | _, _ => none) = _
    rw [keysOf_nI r]; rfl
theorem kE_lot : KeyE (fun l : List Nat => D.tup (l.map nI)) fun l => l.map fun a => (.inl (a : Nat) : Key) where
  k := fun l => keysOf_nI l
  inj := fun x y h => by
    have : ∀ (x y : List Nat), (x.map fun a => (.inl (a : Nat) : Key)) = (y.map fun a => (.inl (a : Nat) : Key)) → x = y := by
      intro x
      induction x with
      | nil => intro y h; cases y with
        | nil => rfl
        | cons b y => cases h
      | cons a x ih => intro y h; cases y with
        | nil => cases h
        | cons b y =>
          have h1 := Sum.inl.inj (List.cons.inj h).1
          rw [ih y (List.cons.inj h).2, Int.ofNat.inj h1]
    exact this x y h
/-! ### comprehensions of two clauses -/
def lcD2 (ds : List D) (vs : List Nat) (a : AS) (t : M Bool) (m1 : M (List D)) (vs1 : List Nat) (a1 : AS) (t1 : M Bool) (e : M D) : M L := lcM2 (pure ds) vs a t m1 vs1 a1 t1 e
theorem w_lc2S {m : M (List D)} {vs : List Nat} {a : AS} {t : M Bool} {m1 : M (List D)} {vs1 : List Nat} {a1 : AS} {t1 : M Bool} {e : M D} {s : S} {Q : L → S → Prop} (h : wm m s fun ds s1 => wm (lcD2 ds vs a t m1 vs1 a1 t1 e) s1 Q) : wm (lcM2 m vs a t m1 vs1 a1 t1 e) s Q := by
  obtain ⟨ds, s1, e1, h⟩ := wm_ok h
  obtain ⟨y, s2, e2, q⟩ := wm_ok h
  refine w_eq (s' := s2) (a := y) ?_ q
  unfold lcD2 at e2
  unfold lcM2 at e2 ⊢
  rw [e1]
  exact e2
section
variable {α β : Type} {l : List α} {e : α → D} {vs vs1 : List Nat} {a a1 : AS} {t t1 : M Bool} {m1 : M (List D)} {el : M D} {sl sm : List (Option L)} {st : List MO} {Q : L → S → Prop}
theorem w_lcH (l1 : α → List β) (e1 : α → β → D) (p : α → β → Bool) (g : α → β → D) (hw : wipeS ⟨sl, st⟩ vs = ⟨sm, st⟩) (hl : (l.flatMap l1).length ≤ lineN)
    (h : ∀ x ∈ l, ∃ sd sm1, a (.sh (e x)) ⟨sm, st⟩ = some ⟨sd, st⟩ ∧ wipeS ⟨sd, st⟩ vs = ⟨sm, st⟩ ∧ wipeS ⟨sd, st⟩ vs1 = ⟨sm1, st⟩ ∧ wm t ⟨sd, st⟩ fun b s4 => s4 = ⟨sd, st⟩ ∧ b = true ∧ wm m1 ⟨sd, st⟩ fun ds s5 => s5 = ⟨sd, st⟩ ∧ ds = (l1 x).map (e1 x) ∧
      ∀ y ∈ l1 x, ∃ se, a1 (.sh (e1 x y)) ⟨sm1, st⟩ = some ⟨se, st⟩ ∧ wipeS ⟨se, st⟩ vs1 = ⟨sm1, st⟩ ∧ wipeS ⟨se, st⟩ vs = ⟨sm, st⟩ ∧ wm t1 ⟨se, st⟩ fun b s6 => s6 = ⟨se, st⟩ ∧ b = p x y ∧ (p x y = true → wm el ⟨se, st⟩ fun d s7 => s7 = ⟨se, st⟩ ∧ d = g x y))
    (q : Q (.ol (l.flatMap fun x => ((l1 x).filter (p x)).map (g x))) ⟨sl, st⟩) : wm (lcD2 (l.map e) vs a t m1 vs1 a1 t1 el) ⟨sl, st⟩ Q := by
  unfold lcD2
  have inner : ∀ (x : α) (sm1 : List (Option L)), (∀ y ∈ l1 x, ∃ se, a1 (.sh (e1 x y)) ⟨sm1, st⟩ = some ⟨se, st⟩ ∧ wipeS ⟨se, st⟩ vs1 = ⟨sm1, st⟩ ∧ wipeS ⟨se, st⟩ vs = ⟨sm, st⟩ ∧ wm t1 ⟨se, st⟩ fun b s6 => s6 = ⟨se, st⟩ ∧ b = p x y ∧ (p x y = true → wm el ⟨se, st⟩ fun d s7 => s7 = ⟨se, st⟩ ∧ d = g x y)) →
      ∀ (r : List β) (acc : List D) (s : S), (∀ d ∈ r, d ∈ l1 x) → acc.length + r.length ≤ lineN → wipeS s vs1 = ⟨sm1, st⟩ → wipeS s vs = ⟨sm, st⟩ → ∃ s', lcB vs1 a1 t1 el (r.map (e1 x)) acc s = .ok (acc ++ (r.filter (p x)).map (g x)) s' ∧ wipeS s' vs1 = ⟨sm1, st⟩ ∧ wipeS s' vs = ⟨sm, st⟩ := by
    intro x sm1 h r
    induction r with
    | nil => intro acc s _ _ hs hs2; exact ⟨s, by simp [lcB], hs, hs2⟩
    | cons y r ih =>
      intro acc s hm hlen hs hs2
      obtain ⟨se, g1, g2, g2', g3⟩ := h y (hm y (by simp))
      obtain ⟨b, s4, e4, rfl, hb, g4⟩ := wm_ok g3
      rw [List.map_cons]
      unfold lcB
      rw [hs, g1]
      dsimp only
      rw [e4]
      rw [List.length_cons] at hlen
      subst hb
      cases hp : p x y with
      | false =>
        dsimp only
        obtain ⟨s', h5, h6⟩ := ih acc ⟨se, st⟩ (fun x hx => hm x (by simp [hx])) (by omega) g2 g2'
        exact ⟨s', by rw [h5, List.filter_cons, hp]; rfl, h6⟩
      | true =>
        dsimp only
        obtain ⟨d, s5, e5, rfl, h7⟩ := wm_ok (g4 hp)
        rw [e5]
        dsimp only
        rw [if_pos (by omega)]
        obtain ⟨s', h5, h6⟩ := ih (acc ++ [d]) ⟨se, st⟩ (fun x hx => hm x (by simp [hx])) (by rw [List.length_append, List.length_singleton]; omega) g2 g2'
        refine ⟨s', ?_, h6⟩
        rw [h5, List.filter_cons, hp, h7]
        simp
  have key : ∀ (r : List α) (acc : List D) (s : S), (∀ d ∈ r, d ∈ l) → acc.length + (r.flatMap l1).length ≤ lineN → wipeS s vs = ⟨sm, st⟩ → ∃ s', lcB2 vs a t m1 vs1 a1 t1 el (r.map e) acc s = .ok (acc ++ r.flatMap fun x => ((l1 x).filter (p x)).map (g x)) s' ∧ wipeS s' vs = ⟨sm, st⟩ := by
    intro r
    induction r with
    | nil => intro acc s _ _ hs; exact ⟨s, by simp [lcB2], hs⟩
    | cons x r ih =>
      intro acc s hm hlen hs
      rw [List.flatMap_cons, List.length_append] at hlen
      obtain ⟨sd, sm1, g1, g2, g3, g4⟩ := h x (hm x (by simp))
      obtain ⟨b, s4, e4, rfl, rfl, g5⟩ := wm_ok g4
      obtain ⟨ds, s5, e5, rfl, rfl, g6⟩ := wm_ok g5
      rw [List.map_cons]
      unfold lcB2
      rw [hs, g1]
      dsimp only
      rw [e4]
      dsimp only
      rw [e5]
      dsimp only
      obtain ⟨s6, e6, g7, g8⟩ := inner x sm1 g6 (l1 x) acc ⟨sd, st⟩ (fun _ h => h) (by omega) g3 g2
      rw [e6]
      dsimp only
      have hfl := List.length_filter_le (p x) (l1 x)
      obtain ⟨s', h5, h6⟩ := ih (acc ++ ((l1 x).filter (p x)).map (g x)) s6 (fun x hx => hm x (by simp [hx])) (by rw [List.length_append, List.length_map]; omega) g8
      exact ⟨s', by rw [h5, List.flatMap_cons, List.append_assoc], h6⟩
  obtain ⟨s', h5, h6⟩ := key l [] (wipeS ⟨sl, st⟩ vs) (fun _ h => h) (by simpa using hl) (by rw [hw, ← hw, wipeS_twice, hw])
  refine w_eq (s' := ⟨sl, st⟩) (a := .ol (l.flatMap fun x => ((l1 x).filter (p x)).map (g x))) ?_ q
  unfold lcM2
  show (match lcB2 vs a t m1 vs1 a1 t1 el (l.map e) [] (wipeS ⟨sl, st⟩ vs) with | .ok ys s2 => (Res.ok (L.ol ys) (restS ⟨sl, st⟩ s2 vs) : Res L) | _ => Res.bad) = _
  rw [h5]
  dsimp only
  rw [restS_same (h6.trans hw.symm), List.nil_append]
end
/-! ### plain data with texts -/
inductive Pls : Nat → D → Prop
  | int (k : Nat) (i : Int) : Pls k (.int i)
  | bl (k : Nat) (b : Bool) : Pls k (.bl b)
  | non (k : Nat) : Pls k .non
  | str (k : Nat) (x : Str) (h : PyData.strOk x = true) : Pls k (.str x)
  | tup {k : Nat} {ds : List D} (h : ∀ d ∈ ds, Pls k d) (hl : ds.length ≤ lineN) : Pls (k + 1) (.tup ds)
def isTabS : List (Str × String × Bool) := [("tuple", "int", false), ("tuple", "bool", false), ("tuple", "NoneType", false), ("tuple", "tuple", true), ("str", "int", false), ("int", "int", true), ("bool", "int", false), ("tuple", "str", false), ("str", "str", true)]
theorem is_okS {isi : List (List Str × Bv.Ty × Bool)} (H : ∀ e ∈ isTabS, isiT isi [e.1] (.b e.2.1) = some e.2.2) {FF : Nat → FnS} {NN : List Str} (hF : ∀ j, FF (j + 1) = runF NN (mIs isi (FF j))) (hN : NN.length = 3) :
    ∀ (k : Nat) (d : D), Pls k d → ∀ (s : S) (Q : L → S → Prop), Q (.sh (.bl true)) s → wm (callN 2 (FF (k + 1)) [d, d]) s Q := by
  have t1 : isiT isi [Str.ofString "tuple"] (.b "int") = some false := H ("tuple", "int", false) (by simp [isTabS])
  have t2 : isiT isi [Str.ofString "tuple"] (.b "bool") = some false := H ("tuple", "bool", false) (by simp [isTabS])
  have t3 : isiT isi [Str.ofString "tuple"] (.b "NoneType") = some false := H ("tuple", "NoneType", false) (by simp [isTabS])
  have t4 : isiT isi [Str.ofString "tuple"] (.b "tuple") = some true := H ("tuple", "tuple", true) (by simp [isTabS])
  have t5 : isiT isi [Str.ofString "str"] (.b "int") = some false := H ("str", "int", false) (by simp [isTabS])
  have t6 : isiT isi [Str.ofString "int"] (.b "int") = some true := H ("int", "int", true) (by simp [isTabS])
  have t8 : isiT isi [Str.ofString "tuple"] (.b "str") = some false := H ("tuple", "str", false) (by simp [isTabS])
  have t9 : isiT isi [Str.ofString "str"] (.b "str") = some true := H ("str", "str", true) (by simp [isTabS])
  have t7 : isiT isi [Str.ofString "bool"] (.b "int") = some false := H ("bool", "int", false) (by simp [isTabS])
  have body : ∀ (k : Nat) (d : D) (s : S) (Q : L → S → Prop), Q (.sh (.bl true)) s → ws (mIs isi (FF k)) ⟨[some (.sh d), some (.sh d), none], s.st⟩ (fun s' => Q (.sh .non) ⟨s.sl, s'.st⟩) (fun l s' => Q l ⟨s.sl, s'.st⟩) (fun _ => False) (fun _ => False) → wm (callN 2 (FF (k + 1)) [d, d]) s Q := fun k d s Q q h => by
    refine w_call (hF k) rfl ?_
    rw [hN]
    exact h
  intro k d hd
  induction hd with
  | int k i =>
    intro s Q q
    refine body k _ s Q q ?_
    unfold mIs
    fail "SA"
    all_goals simpa using q
  | bl k b =>
    intro s Q q
    refine body k _ s Q q ?_
    unfold mIs
    cases b
    all_goals fail "SA"
    all_goals exact q
  | non k =>
    intro s Q q
    refine body k _ s Q q ?_
    unfold mIs
    fail "SA"
    all_goals exact q
  | str k x h =>
    intro s Q q
    refine body k _ s Q q ?_
    unfold mIs
    fail "SA"
    refine w_eqE emb_str (x := x) (y := x) (by decide) h h ?_
    rw [decide_eq_true rfl]
    exact q
  | @tup k ds h hl ih =>
    intro s Q q
    refine body (k + 1) _ s Q q ?_
    unfold mIs
    fail "SA"
    have hl2 : ds.length ≤ 16777216 := hl
    fail "SA"
    refine w_lcP (.s (.s .z)) (by rw [rgD_len]; simpa using hl) (fun _ => none) (fun d hd => ?_) ?_
    · obtain ⟨i, hi, rfl⟩ := mem_rgD hd
      have hi : i < ds.length := by simpa using hi
      rw [Int.zero_add]
      refine ⟨_, .s (.s .z), ?_⟩
      fail "SA"
      refine w_ixW (.inr rfl) (atI_nat (List.getElem?_eq_getElem hi)) ?_
      fail "SA"
      refine w_ixW (.inr rfl) (atI_nat (List.getElem?_eq_getElem hi)) ?_
      fail "SA"
      refine ih _ (List.getElem_mem hi) _ _ ?_
      fail "SA"
      exact ⟨rfl, by simp⟩
    · have e0 : (rgD 0 (ds.length : Int).toNat).filterMap (fun _ => (none : Option D)) = [] := by simp
      rw [e0]
      fail "SA"
      refine w_eqD (b := true) rfl ?_
      fail "SA"
      exact q
end Bv

namespace Kt
open PySem PySem.Spec PyProof.Rows L2 Bv
def top (i : Nat) : Stmt := PySem.Challenge.pw_greenshares_k03_whole_phases.main.body.getD i (.Pass ⟨0, 0, 0, 0⟩)
/-! defs by their places -/
abbrev s_Crossing_eq : Stmt := inClass (top 14) 1
abbrev s_Crossing_ne : Stmt := inClass (top 14) 2
abbrev s__law_pen : Stmt := top 28
abbrev s__law_draw : Stmt := top 29
abbrev s__law_pick : Stmt := top 30
abbrev s__law_name : Stmt := top 32
abbrev s__law_names : Stmt := top 33
abbrev s__law_all_pairs : Stmt := top 40
abbrev s__law_drawn_crossing : Stmt := top 41
abbrev s__law_all_lots : Stmt := top 35
abbrev s__law_cliques : Stmt := top 39
abbrev s_is_name : Stmt := top 11
abbrev s_known_places : Stmt := top 15
abbrev s_pair_of : Stmt := top 16
abbrev s_CrossingI : Stmt := inClass (top 14) 0
abbrev s_made_of : Stmt := top 17
abbrev s_opposite_pairs : Stmt := top 21
abbrev s_opposite : Stmt := top 26
abbrev s__law_made : Stmt := top 42
abbrev s__law_is : Stmt := top 31
abbrev s_free_lots : Stmt := top 18
abbrev s_greatest_of : Stmt := top 22
abbrev s_greatest_cliques : Stmt := top 25
abbrev s_every_phase : Stmt := top 19
abbrev s_top_phases : Stmt := top 23
abbrev s_greatest_phases : Stmt := top 24
abbrev s_phases_of : Stmt := top 20
abbrev s__law_greatest_of : Stmt := top 37
abbrev s__law_plain : Stmt := top 43
abbrev s__law_is_free : Stmt := top 34
abbrev s__law_phases : Stmt := top 36
abbrev s__law_greatest_phases : Stmt := top 38
abbrev s_law : Stmt := top 44
/-! names -/
def n_Crossing_eq : List Str := ["self", "other"]
def u_Crossing_eq : List Str := []
def n_Crossing_ne : List Str := ["self", "other"]
def u_Crossing_ne : List Str := []
def n__law_pen : List Str := ["script", "fold", "cell"]
def u__law_pen : List Str := []
def n__law_draw : List Str := ["pen", "many", "cell", "digit", "blend"]
def u__law_draw : List Str := ["digit", "pen"]
def n__law_pick : List Str := ["pen", "some"]
def u__law_pick : List Str := []
def n__law_name : List Str := ["pen", "letters", "signs", "long", "lap"]
def u__law_name : List Str := []
def n__law_names : List Str := ["pen", "many", "found", "lap", "name"]
def u__law_names : List Str := ["found"]
def n__law_all_pairs : List Str := ["many", "found", "one", "other"]
def u__law_all_pairs : List Str := ["found"]
def n__law_drawn_crossing : List Str := ["pen", "most", "many", "names", "pairs", "way", "thin", "pair"]
def u__law_drawn_crossing : List Str := []
def n__law_all_lots : List Str := ["many", "found", "at", "lot"]
def u__law_all_lots : List Str := []
def n__law_cliques : List Str := ["crossing", "found", "lot", "pairs", "at", "other", "pair"]
def u__law_cliques : List Str := ["found", "pairs"]
def n_is_name : List Str := ["value", "sign"]
def u_is_name : List Str := []
def n_known_places : List Str := ["streams", "found", "name"]
def u_known_places : List Str := ["found"]
def n_pair_of : List Str := ["places", "pair", "name", "one", "other"]
def u_pair_of : List Str := []
def n_CrossingI : List Str := ["self", "streams", "conflicts", "places", "pair", "found"]
def u_CrossingI : List Str := ["found", "self"]
def n_made_of : List Str := ["streams", "pairs", "one", "other"]
def u_made_of : List Str := []
def n_opposite_pairs : List Str := ["crossing", "many", "one", "other"]
def u_opposite_pairs : List Str := []
def n_opposite : List Str := ["crossing"]
def u_opposite : List Str := []
def n__law_made : List Str := ["crossing", "names", "one", "other"]
def u__law_made : List Str := []
def n__law_is : List Str := ["told", "due", "at"]
def u__law_is : List Str := []
def n_free_lots : List Str := ["many", "bars", "found", "member", "more", "lot", "other"]
def u_free_lots : List Str := ["found", "more"]
def n_greatest_of : List Str := ["many", "lots", "known", "found", "lot", "further", "member"]
def u_greatest_of : List Str := ["found"]
def n_greatest_cliques : List Str := ["crossing", "many", "lots", "pair", "lot"]
def u_greatest_cliques : List Str := []
def n_every_phase : List Str := ["crossing", "pair"]
def u_every_phase : List Str := []
def n_top_phases : List Str := ["crossing"]
def u_top_phases : List Str := []
def n_greatest_phases : List Str := ["crossing"]
def u_greatest_phases : List Str := []
def n_phases_of : List Str := ["crossing"]
def u_phases_of : List Str := []
def n__law_greatest_of : List Str := ["lots", "found", "lot", "more", "one", "at"]
def u__law_greatest_of : List Str := ["found"]
def n__law_plain : List Str := ["told"]
def u__law_plain : List Str := []
def n__law_is_free : List Str := ["crossing", "lot", "pair"]
def u__law_is_free : List Str := []
def n__law_phases : List Str := ["crossing", "lot"]
def u__law_phases : List Str := []
def n__law_greatest_phases : List Str := ["crossing"]
def u__law_greatest_phases : List Str := []
def n_law : List Str := ["script", "pen", "lap", "crossing", "made", "many", "cliques", "other", "pairs", "pair", "lot"]
def u_law : List Str := []
def tyL : List Str := ["Crossing", "str", "list", "tuple", "int", "bool"]
def isiL : List (List Str × Bv.Ty × Bool) := [([("Crossing" : Str)], Bv.Ty.b "NoneType", false), ([("Crossing" : Str)], Bv.Ty.b "bool", false), ([("Crossing" : Str)], Bv.Ty.b "int", false), ([("Crossing" : Str)], Bv.Ty.b "str", false), ([("Crossing" : Str)], Bv.Ty.b "list", false), ([("Crossing" : Str)], Bv.Ty.b "tuple", false), ([("Crossing" : Str)], Bv.Ty.b "dict", false), ([("Crossing" : Str)], Bv.Ty.c "Crossing", true), ([("str" : Str)], Bv.Ty.b "NoneType", false), ([("str" : Str)], Bv.Ty.b "bool", false), ([("str" : Str)], Bv.Ty.b "int", false), ([("str" : Str)], Bv.Ty.b "str", true), ([("str" : Str)], Bv.Ty.b "list", false), ([("str" : Str)], Bv.Ty.b "tuple", false), ([("str" : Str)], Bv.Ty.b "dict", false), ([("list" : Str), ("tuple" : Str)], Bv.Ty.b "NoneType", false), ([("list" : Str), ("tuple" : Str)], Bv.Ty.b "bool", false), ([("list" : Str), ("tuple" : Str)], Bv.Ty.b "int", false), ([("list" : Str), ("tuple" : Str)], Bv.Ty.b "str", false), ([("list" : Str), ("tuple" : Str)], Bv.Ty.b "list", true), ([("list" : Str), ("tuple" : Str)], Bv.Ty.b "tuple", true), ([("list" : Str), ("tuple" : Str)], Bv.Ty.b "dict", false), ([("tuple" : Str)], Bv.Ty.b "NoneType", false), ([("tuple" : Str)], Bv.Ty.b "bool", false), ([("tuple" : Str)], Bv.Ty.b "int", false), ([("tuple" : Str)], Bv.Ty.b "str", false), ([("tuple" : Str)], Bv.Ty.b "list", false), ([("tuple" : Str)], Bv.Ty.b "tuple", true), ([("tuple" : Str)], Bv.Ty.b "dict", false), ([("int" : Str)], Bv.Ty.b "NoneType", false), ([("int" : Str)], Bv.Ty.b "bool", true), ([("int" : Str)], Bv.Ty.b "int", true), ([("int" : Str)], Bv.Ty.b "str", false), ([("int" : Str)], Bv.Ty.b "list", false), ([("int" : Str)], Bv.Ty.b "tuple", false), ([("int" : Str)], Bv.Ty.b "dict", false), ([("bool" : Str)], Bv.Ty.b "NoneType", false), ([("bool" : Str)], Bv.Ty.b "bool", true), ([("bool" : Str)], Bv.Ty.b "int", false), ([("bool" : Str)], Bv.Ty.b "str", false), ([("bool" : Str)], Bv.Ty.b "list", false), ([("bool" : Str)], Bv.Ty.b "tuple", false), ([("bool" : Str)], Bv.Ty.b "dict", false)]
def fldL : List Str := ["streams", "conflicts"]
def gcB : Bool := false
def coL : List (Str × D) := [("LETTERS", .str "abcdefghijklmnopqrstuvwxyz"), ("SIGNS", .str "abcdefghijklmnopqrstuvwxyz0123456789"), ("MOST_STREAMS", .int 12)]
def brL : List Str := []
/-! tables and meanings -/
def T_Crossing_eq : Tb := mkT [] [] tyL isiL fldL gcB coL [] brL
def F_Crossing_eq : FnS := defF T_Crossing_eq n_Crossing_eq u_Crossing_eq s_Crossing_eq
def T_Crossing_ne : Tb := mkT [] [] tyL isiL fldL gcB coL [(("Crossing", "__eq__"), F_Crossing_eq)] brL
def F_Crossing_ne : FnS := defF T_Crossing_ne n_Crossing_ne u_Crossing_ne s_Crossing_ne
def T__law_pen : Tb := mkT [] [] tyL isiL fldL gcB coL [] brL
def F__law_pen : FnS := defF T__law_pen n__law_pen u__law_pen s__law_pen
def T__law_draw : Tb := mkT [] [] tyL isiL fldL gcB coL [] brL
def F__law_draw : FnS := defF T__law_draw n__law_draw u__law_draw s__law_draw
def T__law_pick : Tb := mkT [("_law_draw", 2, F__law_draw)] [] tyL isiL fldL gcB coL [] brL
def F__law_pick : FnS := defF T__law_pick n__law_pick u__law_pick s__law_pick
def T__law_name : Tb := mkT [("_law_draw", 2, F__law_draw), ("_law_pick", 2, F__law_pick)] [] tyL isiL fldL gcB coL [] brL
def F__law_name : FnS := defF T__law_name n__law_name u__law_name s__law_name
def T__law_names : Tb := mkT [("_law_name", 1, F__law_name)] [] tyL isiL fldL gcB coL [] brL
def F__law_names : FnS := defF T__law_names n__law_names u__law_names s__law_names
def T__law_all_pairs : Tb := mkT [] [] tyL isiL fldL gcB coL [] brL
def F__law_all_pairs : FnS := defF T__law_all_pairs n__law_all_pairs u__law_all_pairs s__law_all_pairs
def T__law_drawn_crossing : Tb := mkT [("_law_draw", 2, F__law_draw), ("_law_names", 2, F__law_names), ("_law_all_pairs", 1, F__law_all_pairs)] [] tyL isiL fldL gcB coL [] brL
def F__law_drawn_crossing : FnS := defF T__law_drawn_crossing n__law_drawn_crossing u__law_drawn_crossing s__law_drawn_crossing
def T__law_all_lots : Tb := mkT [] [] tyL isiL fldL gcB coL [] brL
def F__law_all_lots : FnS := defF T__law_all_lots n__law_all_lots u__law_all_lots s__law_all_lots
def T__law_cliques : Tb := mkT [("_law_all_lots", 1, F__law_all_lots)] [] tyL isiL fldL gcB coL [] brL
def F__law_cliques : FnS := defF T__law_cliques n__law_cliques u__law_cliques s__law_cliques
def T_is_name : Tb := mkT [] [] tyL isiL fldL gcB coL [] brL
def F_is_name : FnS := defF T_is_name n_is_name u_is_name s_is_name
def T_known_places : Tb := mkT [("is_name", 1, F_is_name)] [] tyL isiL fldL gcB coL [] brL
def F_known_places : FnS := defF T_known_places n_known_places u_known_places s_known_places
def T_pair_of : Tb := mkT [] [] tyL isiL fldL gcB coL [] brL
def F_pair_of : FnS := defF T_pair_of n_pair_of u_pair_of s_pair_of
def T_CrossingI : Tb := mkT [("known_places", 1, F_known_places), ("pair_of", 2, F_pair_of)] [] tyL isiL fldL gcB coL [] brL
def F_CrossingI : FnI := defI T_CrossingI n_CrossingI u_CrossingI "Crossing" s_CrossingI
def T_made_of : Tb := mkT [] [("Crossing", 2, F_CrossingI)] tyL isiL fldL gcB coL [] brL
def F_made_of : FnS := defF T_made_of n_made_of u_made_of s_made_of
def T_opposite_pairs : Tb := mkT [] [] tyL isiL fldL gcB coL [] brL
def F_opposite_pairs : FnS := defF T_opposite_pairs n_opposite_pairs u_opposite_pairs s_opposite_pairs
def T_opposite : Tb := mkT [("made_of", 2, F_made_of), ("opposite_pairs", 1, F_opposite_pairs)] [] tyL isiL fldL gcB coL [] brL
def F_opposite : FnS := defF T_opposite n_opposite u_opposite s_opposite
def T__law_made : Tb := mkT [] [("Crossing", 2, F_CrossingI)] tyL isiL fldL gcB coL [] brL
def F__law_made : FnS := defF T__law_made n__law_made u__law_made s__law_made
def F__law_is0 : FnS := fun _ => bad
def F__law_iss : Nat → FnS
  | 0 => F__law_is0
  | j + 1 => defF (mkT [("_law_is", 2, F__law_iss j)] [] tyL isiL fldL gcB coL [] brL) n__law_is u__law_is s__law_is
abbrev F__law_is : FnS := F__law_iss 4
def T_free_lots : Tb := mkT [] [] tyL isiL fldL gcB coL [] brL
def F_free_lots : FnS := defF T_free_lots n_free_lots u_free_lots s_free_lots
def T_greatest_of : Tb := mkT [] [] tyL isiL fldL gcB coL [] brL
def F_greatest_of : FnS := defF T_greatest_of n_greatest_of u_greatest_of s_greatest_of
def T_greatest_cliques : Tb := mkT [("free_lots", 2, F_free_lots), ("opposite_pairs", 1, F_opposite_pairs), ("greatest_of", 2, F_greatest_of)] [] tyL isiL fldL gcB coL [] brL
def F_greatest_cliques : FnS := defF T_greatest_cliques n_greatest_cliques u_greatest_cliques s_greatest_cliques
def T_every_phase : Tb := mkT [("free_lots", 2, F_free_lots)] [] tyL isiL fldL gcB coL [] brL
def F_every_phase : FnS := defF T_every_phase n_every_phase u_every_phase s_every_phase
def T_top_phases : Tb := mkT [("greatest_of", 2, F_greatest_of), ("every_phase", 1, F_every_phase)] [] tyL isiL fldL gcB coL [] brL
def F_top_phases : FnS := defF T_top_phases n_top_phases u_top_phases s_top_phases
def T_greatest_phases : Tb := mkT [("top_phases", 1, F_top_phases)] [] tyL isiL fldL gcB coL [] brL
def F_greatest_phases : FnS := defF T_greatest_phases n_greatest_phases u_greatest_phases s_greatest_phases
def T_phases_of : Tb := mkT [("every_phase", 1, F_every_phase)] [] tyL isiL fldL gcB coL [] brL
def F_phases_of : FnS := defF T_phases_of n_phases_of u_phases_of s_phases_of
def T__law_greatest_of : Tb := mkT [] [] tyL isiL fldL gcB coL [] brL
def F__law_greatest_of : FnS := defF T__law_greatest_of n__law_greatest_of u__law_greatest_of s__law_greatest_of
def T__law_plain : Tb := mkT [] [] tyL isiL fldL gcB coL [] brL
def F__law_plain : FnS := defF T__law_plain n__law_plain u__law_plain s__law_plain
def T__law_is_free : Tb := mkT [] [] tyL isiL fldL gcB coL [] brL
def F__law_is_free : FnS := defF T__law_is_free n__law_is_free u__law_is_free s__law_is_free
def T__law_phases : Tb := mkT [("_law_all_lots", 1, F__law_all_lots), ("_law_is_free", 2, F__law_is_free)] [] tyL isiL fldL gcB coL [] brL
def F__law_phases : FnS := defF T__law_phases n__law_phases u__law_phases s__law_phases
def T__law_greatest_phases : Tb := mkT [("_law_greatest_of", 1, F__law_greatest_of), ("_law_phases", 1, F__law_phases)] [] tyL isiL fldL gcB coL [] brL
def F__law_greatest_phases : FnS := defF T__law_greatest_phases n__law_greatest_phases u__law_greatest_phases s__law_greatest_phases
def T_law : Tb := mkT [("_law_pen", 1, F__law_pen), ("_law_drawn_crossing", 2, F__law_drawn_crossing), ("_law_cliques", 1, F__law_cliques), ("opposite", 1, F_opposite), ("_law_made", 1, F__law_made), ("_law_is", 2, F__law_is), ("greatest_cliques", 1, F_greatest_cliques), ("greatest_phases", 1, F_greatest_phases), ("phases_of", 1, F_phases_of), ("_law_greatest_of", 1, F__law_greatest_of), ("_law_all_pairs", 1, F__law_all_pairs), ("_law_plain", 1, F__law_plain), ("_law_phases", 1, F__law_phases), ("_law_greatest_phases", 1, F__law_greatest_phases)] [] tyL isiL fldL gcB coL [(("Crossing", "__eq__"), F_Crossing_eq), (("Crossing", "__ne__"), F_Crossing_ne)] brL
def F_law : FnS := defF T_law n_law u_law s_law
/-! scopes -/
theorem sc_Crossing_eq : FnScope n_Crossing_eq ["self", "other"] (defScope s_Crossing_eq) := ⟨rfl, rfl, rfl, by decide +kernel, rfl, by decide +kernel, by decide +kernel⟩
theorem nm_Crossing_eq : ∀ x ∈ n_Crossing_eq, (x == ("__debug__" : Str)) = false ∧ (x == ("__classdict__" : Str)) = false := by decide +kernel
theorem sc_Crossing_ne : FnScope n_Crossing_ne ["self", "other"] (defScope s_Crossing_ne) := ⟨rfl, rfl, rfl, by decide +kernel, rfl, by decide +kernel, by decide +kernel⟩
theorem nm_Crossing_ne : ∀ x ∈ n_Crossing_ne, (x == ("__debug__" : Str)) = false ∧ (x == ("__classdict__" : Str)) = false := by decide +kernel
theorem sc__law_pen : FnScope n__law_pen ["script"] (defScope s__law_pen) := ⟨rfl, rfl, rfl, by decide +kernel, rfl, by decide +kernel, by decide +kernel⟩
theorem nm__law_pen : ∀ x ∈ n__law_pen, (x == ("__debug__" : Str)) = false ∧ (x == ("__classdict__" : Str)) = false := by decide +kernel
theorem sc__law_draw : FnScope n__law_draw ["pen", "many"] (defScope s__law_draw) := ⟨rfl, rfl, rfl, by decide +kernel, rfl, by decide +kernel, by decide +kernel⟩
theorem nm__law_draw : ∀ x ∈ n__law_draw, (x == ("__debug__" : Str)) = false ∧ (x == ("__classdict__" : Str)) = false := by decide +kernel
theorem sc__law_pick : FnScope n__law_pick ["pen", "some"] (defScope s__law_pick) := ⟨rfl, rfl, rfl, by decide +kernel, rfl, by decide +kernel, by decide +kernel⟩
theorem nm__law_pick : ∀ x ∈ n__law_pick, (x == ("__debug__" : Str)) = false ∧ (x == ("__classdict__" : Str)) = false := by decide +kernel
theorem sc__law_name : FnScope n__law_name ["pen"] (defScope s__law_name) := ⟨rfl, rfl, rfl, by decide +kernel, rfl, by decide +kernel, by decide +kernel⟩
theorem nm__law_name : ∀ x ∈ n__law_name, (x == ("__debug__" : Str)) = false ∧ (x == ("__classdict__" : Str)) = false := by decide +kernel
theorem sc__law_names : FnScope n__law_names ["pen", "many"] (defScope s__law_names) := ⟨rfl, rfl, rfl, by decide +kernel, rfl, by decide +kernel, by decide +kernel⟩
theorem nm__law_names : ∀ x ∈ n__law_names, (x == ("__debug__" : Str)) = false ∧ (x == ("__classdict__" : Str)) = false := by decide +kernel
theorem sc__law_all_pairs : FnScope n__law_all_pairs ["many"] (defScope s__law_all_pairs) := ⟨rfl, rfl, rfl, by decide +kernel, rfl, by decide +kernel, by decide +kernel⟩
theorem nm__law_all_pairs : ∀ x ∈ n__law_all_pairs, (x == ("__debug__" : Str)) = false ∧ (x == ("__classdict__" : Str)) = false := by decide +kernel
theorem sc__law_drawn_crossing : FnScope n__law_drawn_crossing ["pen", "most"] (defScope s__law_drawn_crossing) := ⟨rfl, rfl, rfl, by decide +kernel, rfl, by decide +kernel, by decide +kernel⟩
theorem nm__law_drawn_crossing : ∀ x ∈ n__law_drawn_crossing, (x == ("__debug__" : Str)) = false ∧ (x == ("__classdict__" : Str)) = false := by decide +kernel
theorem sc__law_all_lots : FnScope n__law_all_lots ["many"] (defScope s__law_all_lots) := ⟨rfl, rfl, rfl, by decide +kernel, rfl, by decide +kernel, by decide +kernel⟩
theorem nm__law_all_lots : ∀ x ∈ n__law_all_lots, (x == ("__debug__" : Str)) = false ∧ (x == ("__classdict__" : Str)) = false := by decide +kernel
theorem sc__law_cliques : FnScope n__law_cliques ["crossing"] (defScope s__law_cliques) := ⟨rfl, rfl, rfl, by decide +kernel, rfl, by decide +kernel, by decide +kernel⟩
theorem nm__law_cliques : ∀ x ∈ n__law_cliques, (x == ("__debug__" : Str)) = false ∧ (x == ("__classdict__" : Str)) = false := by decide +kernel
theorem sc_is_name : FnScope n_is_name ["value"] (defScope s_is_name) := ⟨rfl, rfl, rfl, by decide +kernel, rfl, by decide +kernel, by decide +kernel⟩
theorem nm_is_name : ∀ x ∈ n_is_name, (x == ("__debug__" : Str)) = false ∧ (x == ("__classdict__" : Str)) = false := by decide +kernel
theorem sc_known_places : FnScope n_known_places ["streams"] (defScope s_known_places) := ⟨rfl, rfl, rfl, by decide +kernel, rfl, by decide +kernel, by decide +kernel⟩
theorem nm_known_places : ∀ x ∈ n_known_places, (x == ("__debug__" : Str)) = false ∧ (x == ("__classdict__" : Str)) = false := by decide +kernel
theorem sc_pair_of : FnScope n_pair_of ["places", "pair"] (defScope s_pair_of) := ⟨rfl, rfl, rfl, by decide +kernel, rfl, by decide +kernel, by decide +kernel⟩
theorem nm_pair_of : ∀ x ∈ n_pair_of, (x == ("__debug__" : Str)) = false ∧ (x == ("__classdict__" : Str)) = false := by decide +kernel
theorem sc_CrossingI : FnScope n_CrossingI ["self", "streams", "conflicts"] (defScope s_CrossingI) := ⟨rfl, rfl, rfl, by decide +kernel, rfl, by decide +kernel, by decide +kernel⟩
theorem nm_CrossingI : ∀ x ∈ n_CrossingI, (x == ("__debug__" : Str)) = false ∧ (x == ("__classdict__" : Str)) = false := by decide +kernel
theorem sc_made_of : FnScope n_made_of ["streams", "pairs"] (defScope s_made_of) := ⟨rfl, rfl, rfl, by decide +kernel, rfl, by decide +kernel, by decide +kernel⟩
theorem nm_made_of : ∀ x ∈ n_made_of, (x == ("__debug__" : Str)) = false ∧ (x == ("__classdict__" : Str)) = false := by decide +kernel
theorem sc_opposite_pairs : FnScope n_opposite_pairs ["crossing"] (defScope s_opposite_pairs) := ⟨rfl, rfl, rfl, by decide +kernel, rfl, by decide +kernel, by decide +kernel⟩
theorem nm_opposite_pairs : ∀ x ∈ n_opposite_pairs, (x == ("__debug__" : Str)) = false ∧ (x == ("__classdict__" : Str)) = false := by decide +kernel
theorem sc_opposite : FnScope n_opposite ["crossing"] (defScope s_opposite) := ⟨rfl, rfl, rfl, by decide +kernel, rfl, by decide +kernel, by decide +kernel⟩
theorem nm_opposite : ∀ x ∈ n_opposite, (x == ("__debug__" : Str)) = false ∧ (x == ("__classdict__" : Str)) = false := by decide +kernel
theorem sc__law_made : FnScope n__law_made ["crossing"] (defScope s__law_made) := ⟨rfl, rfl, rfl, by decide +kernel, rfl, by decide +kernel, by decide +kernel⟩
theorem nm__law_made : ∀ x ∈ n__law_made, (x == ("__debug__" : Str)) = false ∧ (x == ("__classdict__" : Str)) = false := by decide +kernel
theorem sc__law_is : FnScope n__law_is ["told", "due"] (defScope s__law_is) := ⟨rfl, rfl, rfl, by decide +kernel, rfl, by decide +kernel, by decide +kernel⟩
theorem nm__law_is : ∀ x ∈ n__law_is, (x == ("__debug__" : Str)) = false ∧ (x == ("__classdict__" : Str)) = false := by decide +kernel
theorem sc_free_lots : FnScope n_free_lots ["many", "bars"] (defScope s_free_lots) := ⟨rfl, rfl, rfl, by decide +kernel, rfl, by decide +kernel, by decide +kernel⟩
theorem nm_free_lots : ∀ x ∈ n_free_lots, (x == ("__debug__" : Str)) = false ∧ (x == ("__classdict__" : Str)) = false := by decide +kernel
theorem sc_greatest_of : FnScope n_greatest_of ["many", "lots"] (defScope s_greatest_of) := ⟨rfl, rfl, rfl, by decide +kernel, rfl, by decide +kernel, by decide +kernel⟩
theorem nm_greatest_of : ∀ x ∈ n_greatest_of, (x == ("__debug__" : Str)) = false ∧ (x == ("__classdict__" : Str)) = false := by decide +kernel
theorem sc_greatest_cliques : FnScope n_greatest_cliques ["crossing"] (defScope s_greatest_cliques) := ⟨rfl, rfl, rfl, by decide +kernel, rfl, by decide +kernel, by decide +kernel⟩
theorem nm_greatest_cliques : ∀ x ∈ n_greatest_cliques, (x == ("__debug__" : Str)) = false ∧ (x == ("__classdict__" : Str)) = false := by decide +kernel
theorem sc_every_phase : FnScope n_every_phase ["crossing"] (defScope s_every_phase) := ⟨rfl, rfl, rfl, by decide +kernel, rfl, by decide +kernel, by decide +kernel⟩
theorem nm_every_phase : ∀ x ∈ n_every_phase, (x == ("__debug__" : Str)) = false ∧ (x == ("__classdict__" : Str)) = false := by decide +kernel
theorem sc_top_phases : FnScope n_top_phases ["crossing"] (defScope s_top_phases) := ⟨rfl, rfl, rfl, by decide +kernel, rfl, by decide +kernel, by decide +kernel⟩
theorem nm_top_phases : ∀ x ∈ n_top_phases, (x == ("__debug__" : Str)) = false ∧ (x == ("__classdict__" : Str)) = false := by decide +kernel
theorem sc_greatest_phases : FnScope n_greatest_phases ["crossing"] (defScope s_greatest_phases) := ⟨rfl, rfl, rfl, by decide +kernel, rfl, by decide +kernel, by decide +kernel⟩
theorem nm_greatest_phases : ∀ x ∈ n_greatest_phases, (x == ("__debug__" : Str)) = false ∧ (x == ("__classdict__" : Str)) = false := by decide +kernel
theorem sc_phases_of : FnScope n_phases_of ["crossing"] (defScope s_phases_of) := ⟨rfl, rfl, rfl, by decide +kernel, rfl, by decide +kernel, by decide +kernel⟩
theorem nm_phases_of : ∀ x ∈ n_phases_of, (x == ("__debug__" : Str)) = false ∧ (x == ("__classdict__" : Str)) = false := by decide +kernel
theorem sc__law_greatest_of : FnScope n__law_greatest_of ["lots"] (defScope s__law_greatest_of) := ⟨rfl, rfl, rfl, by decide +kernel, rfl, by decide +kernel, by decide +kernel⟩
theorem nm__law_greatest_of : ∀ x ∈ n__law_greatest_of, (x == ("__debug__" : Str)) = false ∧ (x == ("__classdict__" : Str)) = false := by decide +kernel
theorem sc__law_plain : FnScope n__law_plain ["told"] (defScope s__law_plain) := ⟨rfl, rfl, rfl, by decide +kernel, rfl, by decide +kernel, by decide +kernel⟩
theorem nm__law_plain : ∀ x ∈ n__law_plain, (x == ("__debug__" : Str)) = false ∧ (x == ("__classdict__" : Str)) = false := by decide +kernel
theorem sc__law_is_free : FnScope n__law_is_free ["crossing", "lot"] (defScope s__law_is_free) := ⟨rfl, rfl, rfl, by decide +kernel, rfl, by decide +kernel, by decide +kernel⟩
theorem nm__law_is_free : ∀ x ∈ n__law_is_free, (x == ("__debug__" : Str)) = false ∧ (x == ("__classdict__" : Str)) = false := by decide +kernel
theorem sc__law_phases : FnScope n__law_phases ["crossing"] (defScope s__law_phases) := ⟨rfl, rfl, rfl, by decide +kernel, rfl, by decide +kernel, by decide +kernel⟩
theorem nm__law_phases : ∀ x ∈ n__law_phases, (x == ("__debug__" : Str)) = false ∧ (x == ("__classdict__" : Str)) = false := by decide +kernel
theorem sc__law_greatest_phases : FnScope n__law_greatest_phases ["crossing"] (defScope s__law_greatest_phases) := ⟨rfl, rfl, rfl, by decide +kernel, rfl, by decide +kernel, by decide +kernel⟩
theorem nm__law_greatest_phases : ∀ x ∈ n__law_greatest_phases, (x == ("__debug__" : Str)) = false ∧ (x == ("__classdict__" : Str)) = false := by decide +kernel
theorem sc_law : FnScope n_law ["script"] (defScope s_law) := ⟨rfl, rfl, rfl, by decide +kernel, rfl, by decide +kernel, by decide +kernel⟩
theorem nm_law : ∀ x ∈ n_law, (x == ("__debug__" : Str)) = false ∧ (x == ("__classdict__" : Str)) = false := by decide +kernel
end Kt

namespace Kt
open PySem PySem.Spec PyProof.Rows L2 Bv
def m_Crossing_eq : MS :=
  seqS
  (rtS
    (Bv.andM (dM (thM (slN 1) (isiW (isiT isiL [Str.ofString "Crossing"]))))
      (bin2 (dM (fnM (consM (dM (thM (slN 0) (fldW (Str.ofString "streams")))) (consM (dM (thM (slN 0) (fldW (Str.ofString "conflicts")))) nilM)) Bv.gTup))
        (dM (fnM (consM (dM (thM (slN 1) (fldW (Str.ofString "streams")))) (consM (dM (thM (slN 1) (fldW (Str.ofString "conflicts")))) nilM)) Bv.gTup)) gEq)))
  nilS
theorem e_Crossing_eq : bodyS T_Crossing_eq (defCt T_Crossing_eq n_Crossing_eq u_Crossing_eq s_Crossing_eq) (defBody s_Crossing_eq) = m_Crossing_eq := by kernel_rfl
theorem r_Crossing_eq : F_Crossing_eq = runF n_Crossing_eq m_Crossing_eq := congrArg (runF n_Crossing_eq) e_Crossing_eq
def m_Crossing_ne : MS :=
  seqS (rtS (Bv.notM (dM (bin2 (escN 0) (escN 1) (gEqO T_Crossing_ne))))) nilS
theorem e_Crossing_ne : bodyS T_Crossing_ne (defCt T_Crossing_ne n_Crossing_ne u_Crossing_ne s_Crossing_ne) (defBody s_Crossing_ne) = m_Crossing_ne := by kernel_rfl
theorem r_Crossing_ne : F_Crossing_ne = runF n_Crossing_ne m_Crossing_ne := congrArg (runF n_Crossing_ne) e_Crossing_ne
def m__law_pen : MS :=
  seqS (agS (sM (dM (sM (pure (D.int 0))))) (asN 1))
  (seqS (forS (itM (escN 0)) (asN 2) (seqS (agS (sM (dM (bin2 (dM (thM (bin2 (dM (bin2 (escN 1) (pure (D.int 47)) gMul)) (escN 2) gAdd) intW)) (pure (D.int 1000000007)) gMod))) (asN 1)) nilS))
    (seqS
      (rtS
        (ddM [Str.ofString "cells", Str.ofString "at", Str.ofString "digits", Str.ofString "count", Str.ofString "fold"]
          (consM (dM (thM (slN 0) lstW)) (consM (pure (D.int 0)) (consM (pure (D.int 0)) (consM (pure (D.int 0)) (consM (escN 1) nilM)))))))
      nilS))
theorem e__law_pen : bodyS T__law_pen (defCt T__law_pen n__law_pen u__law_pen s__law_pen) (defBody s__law_pen) = m__law_pen := by kernel_rfl
theorem r__law_pen : F__law_pen = runF n__law_pen m__law_pen := congrArg (runF n__law_pen) e__law_pen
def m__law_draw : MS :=
  seqS (dpS 0 (Str.ofString "count") (dM (bin2 (dM (dgN 0 (Str.ofString "count"))) (pure (D.int 1)) gAdd)))
  (seqS
    (ifS (andT (cmpT (dM (dgN 0 (Str.ofString "digits"))) (pure (D.int 0)) gEq) (cmpT (dM (dgN 0 (Str.ofString "at"))) (dM (thM (dgN 0 (Str.ofString "cells")) lenW)) gLt))
      (seqS (agS (sM (dM (ixM (dM (dgN 0 (Str.ofString "cells"))) (dM (dgN 0 (Str.ofString "at")))))) (asN 2))
        (seqS (dpS 0 (Str.ofString "at") (dM (bin2 (dM (dgN 0 (Str.ofString "at"))) (pure (D.int 1)) gAdd)))
          (seqS
            (ifS (cmpT (escN 2) (dM (bin2 (pure (D.int 10)) (pure (D.int 18)) gPow)) gGe)
              (seqS (dpS 0 (Str.ofString "digits") (dM (bin2 (escN 2) (dM (bin2 (pure (D.int 10)) (pure (D.int 18)) gPow)) Bv.gSub))) nilS)
              (seqS (dpS 0 (Str.ofString "fold") (dM (bin2 (dM (thM (bin2 (dM (bin2 (dM (dgN 0 (Str.ofString "fold"))) (pure (D.int 69069)) gMul)) (escN 2) gAdd) intW)) (pure (D.int 2147483587)) gMod)))
                nilS))
            nilS)))
      nilS)
    (seqS
      (ifS (cmpT (dM (dgN 0 (Str.ofString "digits"))) (pure (D.int 0)) gGt)
        (seqS (agS (bin2 (dM (thM (dgN 0 (Str.ofString "digits")) intW)) (escN 1) gMod) (asN 3))
          (seqS (dpS 0 (Str.ofString "digits") (dM (bin2 (dM (dgN 0 (Str.ofString "digits"))) (escN 1) gFdv))) (seqS (rtS (mvN 3)) nilS)))
        nilS)
      (seqS
        (agS
          (sM
            (dM
              (bin2
                (dM
                  (thM
                    (bin2 (dM (bin2 (dM (bin2 (dM (dgN 0 (Str.ofString "fold"))) (pure (D.int 48271)) gMul)) (dM (bin2 (dM (dgN 0 (Str.ofString "count"))) (pure (D.int 7919)) gMul)) gAdd)) (pure (D.int 13))
                      gAdd)
                    intW))
                (pure (D.int 2147483647)) gMod)))
          (asN 4))
        (seqS
          (agS
            (sM
              (dM
                (bin2 (dM (thM (bin2 (dM (bin2 (dM (bin2 (escN 4) (escN 4) gMul)) (dM (bin2 (pure (D.int 31)) (escN 4) gMul)) gAdd)) (dM (dgN 0 (Str.ofString "count"))) gAdd) intW)) (pure (D.int 2147483629))
                  gMod)))
            (asN 4))
          (seqS (dpS 0 (Str.ofString "fold") (dM (bin2 (dM (thM (bin2 (dM (bin2 (escN 4) (pure (D.int 16807)) gMul)) (pure (D.int 7)) gAdd) intW)) (pure (D.int 2147483647)) gMod)))
            (seqS (rtS (bin2 (dM (thM (bin2 (escN 4) (pure (D.int 64)) gFdv) intW)) (escN 1) gMod)) nilS))))))
theorem e__law_draw : bodyS T__law_draw (defCt T__law_draw n__law_draw u__law_draw s__law_draw) (defBody s__law_draw) = m__law_draw := by kernel_rfl
theorem r__law_draw : F__law_draw = runF n__law_draw m__law_draw := congrArg (runF n__law_draw) e__law_draw
def m__law_pick : MS :=
  seqS (rtS (ixNM 1 (dM (fnM (consM (escN 0) (consM (dM (thM (slN 1) lenW)) nilM)) (callN 2 F__law_draw))))) nilS
theorem e__law_pick : bodyS T__law_pick (defCt T__law_pick n__law_pick u__law_pick s__law_pick) (defBody s__law_pick) = m__law_pick := by kernel_rfl
theorem r__law_pick : F__law_pick = runF n__law_pick m__law_pick := congrArg (runF n__law_pick) e__law_pick
def m__law_name : MS :=
  seqS (agS (fnM (consM (pure (D.str (Str.ofString "abcdefghijklmnopqrstuvwxyz"))) (consM (pure (D.str (Str.ofString "abcdefghijklmnopqrstuvwxyz0123456789"))) nilM)) Bv.gTup) (asT [asN 1, asN 2]))
  (seqS
    (agS
      (sM
        (dM
          (ixM (dM (fnM (consM (pure (D.int 0)) (consM (pure (D.int 0)) (consM (pure (D.int 1)) (consM (pure (D.int 2)) (consM (pure (D.int 5)) (consM (pure (D.int 11)) nilM)))))) Bv.gLst))
            (dM (fnM (consM (escN 0) (consM (pure (D.int 6)) nilM)) (callN 2 F__law_draw))))))
      (asN 3))
    (seqS
      (rtS
        (bin2 (dM (fnM (consM (escN 0) (consM (escN 1) nilM)) (callN 2 F__law_pick)))
          (dM (joM (pure (D.str (Str.ofString ""))) (dM (lcM (rgM (consM (escN 3) nilM) rg1W) [4] (asN 4) yesM (dM (fnM (consM (escN 0) (consM (escN 2) nilM)) (callN 2 F__law_pick))))))) gAdd))
      nilS))
theorem e__law_name : bodyS T__law_name (defCt T__law_name n__law_name u__law_name s__law_name) (defBody s__law_name) = m__law_name := by kernel_rfl
theorem r__law_name : F__law_name = runF n__law_name m__law_name := congrArg (runF n__law_name) e__law_name
def m__law_names : MS :=
  seqS (agS (fnM nilM Bv.gLst) (asN 2))
  (seqS
    (forS (rgM (consM (escN 1) nilM) rg1W) (asN 3)
      (seqS (agS (sM (dM (fnM (consM (escN 0) nilM) (callN 1 F__law_name)))) (asN 4))
        (seqS
          (ifS (blT (inN (escN 4) 2 (Prod.fst ((fun i => (false, i)) ((fun x => x + 1) ((fun x => x + 1) 0))))))
            (seqS (agS (sM (dM (bin2 (dM (bin2 (pure (D.str (Str.ofString "z"))) (dM (thM (slN 3) strW)) gAdd)) (pure (D.str (Str.ofString "q"))) gAdd))) (asN 4)) nilS) nilS)
          (seqS
            (whB (blT (inN (escN 4) 2 (Prod.fst ((fun i => (false, i)) ((fun x => x + 1) ((fun x => x + 1) 0)))))) (seqS (agS (sM (dM (bin2 (escN 4) (pure (D.str (Str.ofString "0"))) gAdd))) (asN 4)) nilS) 1000000)
            (seqS (exS (appM 2 (escN 4))) nilS)))))
    (seqS (rtS (thM (slN 2) tupW)) nilS))
theorem e__law_names : bodyS T__law_names (defCt T__law_names n__law_names u__law_names s__law_names) (defBody s__law_names) = m__law_names := by kernel_rfl
theorem r__law_names : F__law_names = runF n__law_names m__law_names := congrArg (runF n__law_names) e__law_names
def m__law_all_pairs : MS :=
  seqS (agS (fnM nilM Bv.gLst) (asN 1))
  (seqS
    (forS (rgM (consM (escN 0) nilM) rg1W) (asN 2)
      (seqS (exS (extM 1 (dM (lcM (rgM (consM (dM (bin2 (escN 2) (pure (D.int 1)) gAdd)) (consM (escN 0) nilM)) rg2W) [3] (asN 3) yesM (dM (fnM (consM (escN 2) (consM (escN 3) nilM)) Bv.gTup)))))) nilS))
    (seqS (rtS (mvN 1)) nilS))
theorem e__law_all_pairs : bodyS T__law_all_pairs (defCt T__law_all_pairs n__law_all_pairs u__law_all_pairs s__law_all_pairs) (defBody s__law_all_pairs) = m__law_all_pairs := by kernel_rfl
theorem r__law_all_pairs : F__law_all_pairs = runF n__law_all_pairs m__law_all_pairs := congrArg (runF n__law_all_pairs) e__law_all_pairs
def m__law_drawn_crossing : MS :=
  seqS (agS (sM (dM (bin2 (pure (D.int 1)) (dM (fnM (consM (escN 0) (consM (escN 1) nilM)) (callN 2 F__law_draw))) gAdd))) (asN 2))
  (seqS
    (par3 3 4 5 (sM (dM (fnM (consM (escN 0) (consM (escN 2) nilM)) (callN 2 F__law_names)))) (sM (dM (fnM (consM (escN 2) nilM) (callN 1 F__law_all_pairs))))
      (sM (dM (fnM (consM (escN 0) (consM (pure (D.int 8)) nilM)) (callN 2 F__law_draw)))))
    (seqS (agS (sM (dM (bin2 (pure (D.int 2)) (dM (fnM (consM (escN 0) (consM (pure (D.int 3)) nilM)) (callN 2 F__law_draw))) gAdd))) (asN 6))
      (seqS
        (ifS (cmpT (escN 5) (pure (D.int 4)) gLt)
          (seqS (agS (sM (dM (lcM (itM (escN 4)) [7] (asN 7) (cmpT (dM (fnM (consM (escN 0) (consM (escN 6) nilM)) (callN 2 F__law_draw))) (pure (D.int 0)) gEq) (escN 7)))) (asN 4)) nilS)
          (seqS
            (ifS (cmpT (escN 5) (pure (D.int 4)) gEq)
              (seqS
                (agS
                  (sM
                    (dM
                      (lcM (itM (escN 4)) [7] (asN 7)
                        (cmpT (dM (bin2 (dM (ixNM 7 (pure (D.int 1)))) (dM (ixNM 7 (pure (D.int 0)))) Bv.gSub)) (dM (fnM (consM (pure (D.int 1)) (consM (dM (bin2 (escN 2) (pure (D.int 1)) Bv.gSub)) nilM)) Bv.gTup))
                          (gIn2 false))
                        (escN 7))))
                  (asN 4))
                nilS)
              (seqS
                (ifS (cmpT (escN 5) (pure (D.int 5)) gEq)
                  (seqS
                    (agS
                      (sM
                        (dM
                          (lcM (itM (escN 4)) [7] (asN 7) (cmpT (dM (bin2 (dM (thM (bin2 (dM (ixNM 7 (pure (D.int 0)))) (dM (ixNM 7 (pure (D.int 1)))) gAdd) intW)) (pure (D.int 2)) gMod)) (pure (D.int 1)) gEq)
                            (escN 7))))
                      (asN 4))
                    nilS)
                  (seqS (ifS (cmpT (escN 5) (pure (D.int 6)) gEq) (seqS (agS (sM (dM (fnM nilM Bv.gLst))) (asN 4)) nilS) nilS) nilS))
                nilS))
            nilS))
        (seqS (rtS (fnM (consM (escN 3) (consM (dM (thM (slN 4) tupW)) nilM)) Bv.gTup)) nilS))))
theorem e__law_drawn_crossing : bodyS T__law_drawn_crossing (defCt T__law_drawn_crossing n__law_drawn_crossing u__law_drawn_crossing s__law_drawn_crossing) (defBody s__law_drawn_crossing) = m__law_drawn_crossing := by kernel_rfl
theorem r__law_drawn_crossing : F__law_drawn_crossing = runF n__law_drawn_crossing m__law_drawn_crossing := congrArg (runF n__law_drawn_crossing) e__law_drawn_crossing
def m__law_all_lots : MS :=
  seqS (agS (sM (dM (fnM (consM (dM (fnM nilM Bv.gTup)) nilM) Bv.gLst))) (asN 1))
  (seqS
    (forS (rgM (consM (escN 0) nilM) rg1W) (asN 2) (seqS (agS (sM (dM (bin2 (escN 1) (dM (lcM (itM (escN 1)) [3] (asN 3) yesM (dM (bin2 (escN 3) (dM (fnM (consM (escN 2) nilM) Bv.gTup)) gAdd)))) gAdd))) (asN 1)) nilS))
    (seqS (rtS (thM (slN 1) sortW2)) nilS))
theorem e__law_all_lots : bodyS T__law_all_lots (defCt T__law_all_lots n__law_all_lots u__law_all_lots s__law_all_lots) (defBody s__law_all_lots) = m__law_all_lots := by kernel_rfl
theorem r__law_all_lots : F__law_all_lots = runF n__law_all_lots m__law_all_lots := congrArg (runF n__law_all_lots) e__law_all_lots
def m__law_cliques : MS :=
  seqS (agS (fnM nilM Bv.gLst) (asN 1))
  (seqS
    (forS (itM (dM (fnM (consM (dM (thM (ixNM 0 (pure (D.int 0))) lenW)) nilM) (callN 1 F__law_all_lots)))) (asN 2)
      (seqS (agS (fnM nilM Bv.gLst) (asN 3))
        (seqS
          (forS (rgM (consM (dM (thM (slN 2) lenW)) nilM) rg1W) (asN 4)
            (seqS (exS (extM 3 (dM (lcM (itM (dM (slNM 2 (soP (dM (bin2 (escN 4) (pure (D.int 1)) gAdd))) noP))) [5] (asN 5) yesM (dM (fnM (consM (dM (ixNM 2 (escN 4))) (consM (escN 5) nilM)) Bv.gTup)))))) nilS))
          (seqS
            (ifS (andT (cmpT (escN 2) (dM (fnM nilM Bv.gTup)) gNe) (cmpT (dM (lcM (itM (escN 3)) [6] (asN 6) (cmpT (escN 6) (dM (ixNM 0 (pure (D.int 1)))) (gIn2 true)) (escN 6))) (dM (fnM nilM Bv.gLst)) gEq))
              (seqS (exS (appM 1 (escN 2))) nilS) nilS)
            nilS))))
    (seqS (rtS (mvN 1)) nilS))
theorem e__law_cliques : bodyS T__law_cliques (defCt T__law_cliques n__law_cliques u__law_cliques s__law_cliques) (defBody s__law_cliques) = m__law_cliques := by kernel_rfl
theorem r__law_cliques : F__law_cliques = runF n__law_cliques m__law_cliques := congrArg (runF n__law_cliques) e__law_cliques
def m_is_name : MS :=
  seqS
  (ifS
    (orT (notT (truT (thM (slN 0) (isiW (isiT isiL [Str.ofString "str"])))))
      (orT (notT (blT (chM (pure (D.int 1)) (dM (thM (slN 0) lenW)) (pure (D.int 12)) gLe gLe))) (cmpT (dM (ixNM 0 (pure (D.int 0)))) (pure (D.str (Str.ofString "abcdefghijklmnopqrstuvwxyz"))) (gIn2 true))))
    (seqS (rtS (sM (pure (D.bl false)))) nilS) nilS)
  (seqS (rtS (thM (lcM (itM (escN 0)) [1] (asN 1) yesM (dM (bin2 (escN 1) (pure (D.str (Str.ofString "abcdefghijklmnopqrstuvwxyz0123456789"))) (gIn2 false)))) (boolsW fun bs => List.all bs id))) nilS)
theorem e_is_name : bodyS T_is_name (defCt T_is_name n_is_name u_is_name s_is_name) (defBody s_is_name) = m_is_name := by kernel_rfl
theorem r_is_name : F_is_name = runF n_is_name m_is_name := congrArg (runF n_is_name) e_is_name
def m_known_places : MS :=
  seqS (agS (pure (L.od [])) (asN 1))
  (seqS
    (forS (itM (escN 0)) (asN 2)
      (seqS (ifS (notT (truT (fnM (consM (escN 2) nilM) (callN 1 F_is_name)))) (seqS badS nilS) nilS)
        (seqS (ifS (blT (inN (escN 2) 1 (Prod.fst ((fun i => (false, i)) ((fun x => x + 1) 0))))) (seqS badS nilS) nilS) (seqS (opS 1 (escN 2) (dM (thM (slN 1) lenW))) nilS))))
    (seqS (rtS (mvN 1)) nilS))
theorem e_known_places : bodyS T_known_places (defCt T_known_places n_known_places u_known_places s_known_places) (defBody s_known_places) = m_known_places := by kernel_rfl
theorem r_known_places : F_known_places = runF n_known_places m_known_places := congrArg (runF n_known_places) e_known_places
def m_pair_of : MS :=
  seqS (forS (itM (escN 1)) (asN 2) (seqS (ifS (orT (notT (truT (thM (slN 2) (isiW (isiT isiL [Str.ofString "str"]))))) (cmpT (escN 2) (escN 0) (gIn2 true))) (seqS badS nilS) nilS) nilS))
  (seqS (par2 3 4 (sM (dM (ixNM 0 (dM (ixNM 1 (pure (D.int 0))))))) (sM (dM (ixNM 0 (dM (ixNM 1 (pure (D.int 1))))))))
    (seqS (ifS (cmpT (escN 3) (escN 4) gEq) (seqS badS nilS) nilS)
      (seqS (rtS (fnM (consM (dM (fnM (consM (escN 3) (consM (escN 4) nilM)) gMin2)) (consM (dM (fnM (consM (escN 3) (consM (escN 4) nilM)) gMax2)) nilM)) Bv.gTup)) nilS)))
theorem e_pair_of : bodyS T_pair_of (defCt T_pair_of n_pair_of u_pair_of s_pair_of) (defBody s_pair_of) = m_pair_of := by kernel_rfl
theorem r_pair_of : F_pair_of = runF n_pair_of m_pair_of := congrArg (runF n_pair_of) e_pair_of
def m_CrossingI : MS :=
  seqS
  (ifS (orT (notT (truT (thM (slN 1) (isiW (isiT isiL [Str.ofString "list", Str.ofString "tuple"]))))) (notT (blT (chM (pure (D.int 1)) (dM (thM (slN 1) lenW)) (pure (D.int 12)) gLe gLe)))) (seqS badS nilS)
    nilS)
  (seqS (agS (sM (dM (fnM (consM (escN 1) nilM) (callN 1 F_known_places)))) (asN 3))
    (seqS (ifS (notT (truT (thM (slN 2) (isiW (isiT isiL [Str.ofString "list", Str.ofString "tuple"]))))) (seqS badS nilS) nilS)
      (seqS (forS (itM (escN 2)) (asN 4) (seqS (ifS (orT (notT (truT (thM (slN 4) (isiW (isiT isiL [Str.ofString "tuple"]))))) (cmpT (dM (thM (slN 4) lenW)) (pure (D.int 2)) gNe)) (seqS badS nilS) nilS) nilS))
        (seqS (agS (pure (L.od [])) (asN 5))
          (seqS (forS (itM (escN 2)) (asN 4) (seqS (opS 5 (dM (fnM (consM (escN 3) (consM (escN 4) nilM)) (callN 2 F_pair_of))) (pure (D.bl true))) nilS))
            (seqS (stS 0 (Str.ofString "streams") (dM (thM (slN 1) tupW))) (seqS (stS 0 (Str.ofString "conflicts") (dM (thM (thM (slN 5) sortW2) tupW))) nilS)))))))
theorem e_CrossingI : bodyS T_CrossingI (defCt T_CrossingI n_CrossingI u_CrossingI s_CrossingI) (defBody s_CrossingI) = m_CrossingI := by kernel_rfl
theorem r_CrossingI : F_CrossingI = runI n_CrossingI "Crossing" m_CrossingI := congrArg (runI n_CrossingI "Crossing") e_CrossingI
def m_made_of : MS :=
  seqS
  (rtS
    (fnM (consM (escN 0) (consM (dM (lcM (itM (escN 1)) [2, 3] (asT [asN 2, asN 3]) yesM (dM (fnM (consM (dM (ixNM 0 (escN 2))) (consM (dM (ixNM 0 (escN 3))) nilM)) Bv.gTup)))) nilM))
      (makeM (Str.ofString "Crossing") 2 F_CrossingI)))
  nilS
theorem e_made_of : bodyS T_made_of (defCt T_made_of n_made_of u_made_of s_made_of) (defBody s_made_of) = m_made_of := by kernel_rfl
theorem r_made_of : F_made_of = runF n_made_of m_made_of := congrArg (runF n_made_of) e_made_of
def m_opposite_pairs : MS :=
  seqS (agS (sM (dM (thM (thM (slN 0) (fldW (Str.ofString "streams"))) lenW))) (asN 1))
  (seqS
    (rtS
      (lcM2 (rgM (consM (escN 1) nilM) rg1W) [2, 3] (asN 2) yesM (rgM (consM (dM (bin2 (escN 2) (pure (D.int 1)) gAdd)) (consM (escN 1) nilM)) rg2W) [3] (asN 3)
        (cmpT (dM (fnM (consM (escN 2) (consM (escN 3) nilM)) Bv.gTup)) (dM (thM (slN 0) (fldW (Str.ofString "conflicts")))) (gIn2 true)) (dM (fnM (consM (escN 2) (consM (escN 3) nilM)) Bv.gTup))))
    nilS)
theorem e_opposite_pairs : bodyS T_opposite_pairs (defCt T_opposite_pairs n_opposite_pairs u_opposite_pairs s_opposite_pairs) (defBody s_opposite_pairs) = m_opposite_pairs := by kernel_rfl
theorem r_opposite_pairs : F_opposite_pairs = runF n_opposite_pairs m_opposite_pairs := congrArg (runF n_opposite_pairs) e_opposite_pairs
def m_opposite : MS :=
  seqS (rtS (fnM (consM (dM (thM (slN 0) (fldW (Str.ofString "streams")))) (consM (dM (fnM (consM (escN 0) nilM) (callN 1 F_opposite_pairs))) nilM)) (callN 2 F_made_of))) nilS
theorem e_opposite : bodyS T_opposite (defCt T_opposite n_opposite u_opposite s_opposite) (defBody s_opposite) = m_opposite := by kernel_rfl
theorem r_opposite : F_opposite = runF n_opposite m_opposite := congrArg (runF n_opposite) e_opposite
def m__law_made : MS :=
  seqS (agS (sM (dM (ixNM 0 (pure (D.int 0))))) (asN 1))
  (seqS
    (rtS
      (fnM (consM (escN 1) (consM (dM (lcM (itM (dM (ixNM 0 (pure (D.int 1))))) [2, 3] (asT [asN 2, asN 3]) yesM (dM (fnM (consM (dM (ixNM 1 (escN 2))) (consM (dM (ixNM 1 (escN 3))) nilM)) Bv.gTup)))) nilM))
        (makeM (Str.ofString "Crossing") 2 F_CrossingI)))
    nilS)
theorem e__law_made : bodyS T__law_made (defCt T__law_made n__law_made u__law_made s__law_made) (defBody s__law_made) = m__law_made := by kernel_rfl
theorem r__law_made : F__law_made = runF n__law_made m__law_made := congrArg (runF n__law_made) e__law_made
def m_free_lots : MS :=
  seqS (agS (fnM (consM (dM (fnM nilM Bv.gTup)) nilM) Bv.gLst) (asN 2))
  (seqS
    (forS (rgM (consM (dM (bin2 (escN 0) (pure (D.int 1)) Bv.gSub)) (consM (dM (negM (pure (D.int 1)))) (consM (dM (negM (pure (D.int 1)))) nilM))) rg3W) (asN 3)
      (seqS (agS (fnM nilM Bv.gLst) (asN 4))
        (seqS
          (forS (itM (escN 2)) (asN 5)
            (seqS
              (ifS (notT (truT (thM (lcM (itM (escN 5)) [6] (asN 6) yesM (dM (bin2 (dM (fnM (consM (escN 3) (consM (escN 6) nilM)) Bv.gTup)) (escN 1) (gIn2 false)))) (boolsW fun bs => List.any bs id))))
                (seqS (exS (appM 4 (dM (fnM (consM (escN 3) (starM (escN 5) nilM)) Bv.gTup)))) nilS) nilS)
              nilS))
          (seqS (agS (bin2 (dM (bin2 (dM (fnM (consM (dM (fnM nilM Bv.gTup)) nilM) Bv.gLst)) (escN 4) gAdd)) (dM (slNM 2 (soP (pure (D.int 1))) noP)) gAdd) (asN 2)) nilS))))
    (seqS (rtS (mvN 2)) nilS))
theorem e_free_lots : bodyS T_free_lots (defCt T_free_lots n_free_lots u_free_lots s_free_lots) (defBody s_free_lots) = m_free_lots := by kernel_rfl
theorem r_free_lots : F_free_lots = runF n_free_lots m_free_lots := congrArg (runF n_free_lots) e_free_lots
def m_greatest_of : MS :=
  seqS (par2 2 3 (sM (dM (dcM2 (itM (escN 1)) [4] (asN 4) yesM (escN 4) (pure (D.bl true))))) (fnM nilM Bv.gLst))
  (seqS
    (forS (itM (escN 1)) (asN 4)
      (seqS (agS (sM (dM (lcM (rgM (consM (escN 0) nilM) rg1W) [6] (asN 6) (cmpT (escN 6) (escN 4) (gIn2 true)) (escN 6)))) (asN 5))
        (seqS
          (ifS
            (notT
              (truT
                (thM (lcM (itM (escN 5)) [6] (asN 6) yesM (dM (bin2 (dM (thM (thM (bin2 (escN 4) (dM (fnM (consM (escN 6) nilM) Bv.gTup)) gAdd) sortW2) tupW)) (escN 2) (gIn2 false)))) (boolsW fun bs => List.any bs id))))
            (seqS (exS (appM 3 (escN 4))) nilS) nilS)
          nilS)))
    (seqS (rtS (mvN 3)) nilS))
theorem e_greatest_of : bodyS T_greatest_of (defCt T_greatest_of n_greatest_of u_greatest_of s_greatest_of) (defBody s_greatest_of) = m_greatest_of := by kernel_rfl
theorem r_greatest_of : F_greatest_of = runF n_greatest_of m_greatest_of := congrArg (runF n_greatest_of) e_greatest_of
def m_greatest_cliques : MS :=
  seqS (agS (sM (dM (thM (thM (slN 0) (fldW (Str.ofString "streams"))) lenW))) (asN 1))
  (seqS (agS (sM (dM (fnM (consM (escN 1) (consM (dM (dcM2 (itM (dM (fnM (consM (escN 0) nilM) (callN 1 F_opposite_pairs)))) [3] (asN 3) yesM (escN 3) (pure (D.bl true)))) nilM)) (callN 2 F_free_lots)))) (asN 2))
    (seqS (rtS (thM (lcM (itM (dM (fnM (consM (escN 1) (consM (escN 2) nilM)) (callN 2 F_greatest_of)))) [4] (asN 4) (truT (slN 4)) (escN 4)) tupW)) nilS))
theorem e_greatest_cliques : bodyS T_greatest_cliques (defCt T_greatest_cliques n_greatest_cliques u_greatest_cliques s_greatest_cliques) (defBody s_greatest_cliques) = m_greatest_cliques := by kernel_rfl
theorem r_greatest_cliques : F_greatest_cliques = runF n_greatest_cliques m_greatest_cliques := congrArg (runF n_greatest_cliques) e_greatest_cliques
def m_every_phase : MS :=
  seqS
  (rtS
    (fnM (consM (dM (thM (thM (slN 0) (fldW (Str.ofString "streams"))) lenW)) (consM (dM (dcM2 (itM (dM (thM (slN 0) (fldW (Str.ofString "conflicts"))))) [1] (asN 1) yesM (escN 1) (pure (D.bl true)))) nilM))
      (callN 2 F_free_lots)))
  nilS
theorem e_every_phase : bodyS T_every_phase (defCt T_every_phase n_every_phase u_every_phase s_every_phase) (defBody s_every_phase) = m_every_phase := by kernel_rfl
theorem r_every_phase : F_every_phase = runF n_every_phase m_every_phase := congrArg (runF n_every_phase) e_every_phase
def m_top_phases : MS :=
  seqS (rtS (fnM (consM (dM (thM (thM (slN 0) (fldW (Str.ofString "streams"))) lenW)) (consM (dM (fnM (consM (escN 0) nilM) (callN 1 F_every_phase))) nilM)) (callN 2 F_greatest_of))) nilS
theorem e_top_phases : bodyS T_top_phases (defCt T_top_phases n_top_phases u_top_phases s_top_phases) (defBody s_top_phases) = m_top_phases := by kernel_rfl
theorem r_top_phases : F_top_phases = runF n_top_phases m_top_phases := congrArg (runF n_top_phases) e_top_phases
def m_greatest_phases : MS :=
  seqS (rtS (thM (fnM (consM (escN 0) nilM) (callN 1 F_top_phases)) tupW)) nilS
theorem e_greatest_phases : bodyS T_greatest_phases (defCt T_greatest_phases n_greatest_phases u_greatest_phases s_greatest_phases) (defBody s_greatest_phases) = m_greatest_phases := by kernel_rfl
theorem r_greatest_phases : F_greatest_phases = runF n_greatest_phases m_greatest_phases := congrArg (runF n_greatest_phases) e_greatest_phases
def m_phases_of : MS :=
  seqS (rtS (thM (fnM (consM (escN 0) nilM) (callN 1 F_every_phase)) tupW)) nilS
theorem e_phases_of : bodyS T_phases_of (defCt T_phases_of n_phases_of u_phases_of s_phases_of) (defBody s_phases_of) = m_phases_of := by kernel_rfl
theorem r_phases_of : F_phases_of = runF n_phases_of m_phases_of := congrArg (runF n_phases_of) e_phases_of
def m__law_greatest_of : MS :=
  seqS (agS (fnM nilM Bv.gLst) (asN 1))
  (seqS
    (forS (itM (escN 0)) (asN 2)
      (seqS
        (agS
          (sM
            (dM
              (lcM (itM (escN 0)) [4] (asN 4)
                (andT (cmpT (dM (thM (slN 4) lenW)) (dM (thM (slN 2) lenW)) gGt) (cmpT (dM (lcM (itM (escN 2)) [5] (asN 5) (cmpT (escN 5) (escN 4) (gIn2 true)) (escN 5))) (dM (fnM nilM Bv.gLst)) gEq)) (escN 4))))
          (asN 3))
        (seqS (ifS (cmpT (escN 3) (dM (fnM nilM Bv.gLst)) gEq) (seqS (exS (appM 1 (escN 2))) nilS) nilS) nilS)))
    (seqS (rtS (mvN 1)) nilS))
theorem e__law_greatest_of : bodyS T__law_greatest_of (defCt T__law_greatest_of n__law_greatest_of u__law_greatest_of s__law_greatest_of) (defBody s__law_greatest_of) = m__law_greatest_of := by kernel_rfl
theorem r__law_greatest_of : F__law_greatest_of = runF n__law_greatest_of m__law_greatest_of := congrArg (runF n__law_greatest_of) e__law_greatest_of
def m__law_plain : MS :=
  seqS
  (rtS
    (ifM (truT (thM (slN 0) (isiW (isiT isiL [Str.ofString "Crossing"]))))
      (fnM (consM (dM (thM (slN 0) (fldW (Str.ofString "streams")))) (consM (dM (thM (slN 0) (fldW (Str.ofString "conflicts")))) nilM)) Bv.gTup) (sM (pure D.non))))
  nilS
theorem e__law_plain : bodyS T__law_plain (defCt T__law_plain n__law_plain u__law_plain s__law_plain) (defBody s__law_plain) = m__law_plain := by kernel_rfl
theorem r__law_plain : F__law_plain = runF n__law_plain m__law_plain := congrArg (runF n__law_plain) e__law_plain
def m__law_is_free : MS :=
  seqS
  (rtS
    (bin2 (dM (lcM (itM (dM (ixNM 0 (pure (D.int 1))))) [2] (asN 2) (andT (cmpT (dM (ixNM 2 (pure (D.int 0)))) (escN 1) (gIn2 false)) (cmpT (dM (ixNM 2 (pure (D.int 1)))) (escN 1) (gIn2 false))) (escN 2)))
      (dM (fnM nilM Bv.gLst)) gEq))
  nilS
theorem e__law_is_free : bodyS T__law_is_free (defCt T__law_is_free n__law_is_free u__law_is_free s__law_is_free) (defBody s__law_is_free) = m__law_is_free := by kernel_rfl
theorem r__law_is_free : F__law_is_free = runF n__law_is_free m__law_is_free := congrArg (runF n__law_is_free) e__law_is_free
def m__law_phases : MS :=
  seqS (rtS (lcM (itM (dM (fnM (consM (dM (thM (ixNM 0 (pure (D.int 0))) lenW)) nilM) (callN 1 F__law_all_lots)))) [1] (asN 1) (truT (fnM (consM (escN 0) (consM (escN 1) nilM)) (callN 2 F__law_is_free))) (escN 1))) nilS
theorem e__law_phases : bodyS T__law_phases (defCt T__law_phases n__law_phases u__law_phases s__law_phases) (defBody s__law_phases) = m__law_phases := by kernel_rfl
theorem r__law_phases : F__law_phases = runF n__law_phases m__law_phases := congrArg (runF n__law_phases) e__law_phases
def m__law_greatest_phases : MS :=
  seqS (rtS (fnM (consM (dM (fnM (consM (escN 0) nilM) (callN 1 F__law_phases))) nilM) (callN 1 F__law_greatest_of))) nilS
theorem e__law_greatest_phases : bodyS T__law_greatest_phases (defCt T__law_greatest_phases n__law_greatest_phases u__law_greatest_phases s__law_greatest_phases) (defBody s__law_greatest_phases) = m__law_greatest_phases := by kernel_rfl
theorem r__law_greatest_phases : F__law_greatest_phases = runF n__law_greatest_phases m__law_greatest_phases := congrArg (runF n__law_greatest_phases) e__law_greatest_phases
def m_law : MS :=
  seqS (agS (sM (dM (fnM (consM (escN 0) nilM) (callN 1 F__law_pen)))) (asN 1))
  (seqS
    (forS (rgM (consM (pure (D.int 4)) nilM) rg1W) (asN 2)
      (seqS (agS (sM (dM (fnM (consM (escN 1) (consM (pure (D.int 7)) nilM)) (callN 2 F__law_drawn_crossing)))) (asN 3))
        (seqS (par2 4 5 (sM (dM (fnM (consM (escN 3) nilM) (callN 1 F__law_made)))) (sM (dM (thM (ixNM 3 (pure (D.int 0))) lenW))))
          (seqS
            (ifS
              (orT (notT (truT (fnM (consM (dM (fnM (consM (escN 4) nilM) (callN 1 F_phases_of))) (consM (dM (thM (fnM (consM (escN 3) nilM) (callN 1 F__law_phases)) tupW)) nilM)) (callN 2 F__law_is))))
                (notT (truT (fnM (consM (dM (fnM (consM (escN 4) nilM) (callN 1 F_greatest_phases))) (consM (dM (thM (fnM (consM (escN 3) nilM) (callN 1 F__law_greatest_phases)) tupW)) nilM)) (callN 2 F__law_is)))))
              (seqS (rtS (sM (pure (D.bl false)))) nilS) nilS)
            (seqS (agS (sM (dM (fnM (consM (escN 3) nilM) (callN 1 F__law_cliques)))) (asN 6))
              (seqS
                (ifS (notT (truT (fnM (consM (dM (fnM (consM (escN 4) nilM) (callN 1 F_greatest_cliques))) (consM (dM (thM (fnM (consM (escN 6) nilM) (callN 1 F__law_greatest_of)) tupW)) nilM)) (callN 2 F__law_is))))
                  (seqS (rtS (sM (pure (D.bl false)))) nilS) nilS)
                (seqS (agS (sM (dM (fnM (consM (escN 4) nilM) (callN 1 F_opposite)))) (asN 7))
                  (seqS (agS (sM (dM (thM (lcM (itM (dM (fnM (consM (escN 5) nilM) (callN 1 F__law_all_pairs)))) [9] (asN 9) (cmpT (escN 9) (dM (ixNM 3 (pure (D.int 1)))) (gIn2 true)) (escN 9)) tupW))) (asN 8))
                    (seqS
                      (ifS
                        (orT
                          (notT
                            (truT (fnM (consM (dM (fnM (consM (escN 7) nilM) (callN 1 F__law_plain))) (consM (dM (fnM (consM (dM (ixNM 3 (pure (D.int 0)))) (consM (escN 8) nilM)) Bv.gTup)) nilM)) (callN 2 F__law_is))))
                          (cmpT (dM (fnM (consM (escN 7) nilM) (callN 1 F_opposite))) (escN 4) (gNeO T_law)))
                        (seqS (rtS (sM (pure (D.bl false)))) nilS) nilS)
                      (seqS
                        (ifS
                          (orT (cmpT (dM (lcM (itM (dM (fnM (consM (escN 7) nilM) (callN 1 F_phases_of)))) [10] (asN 10) (cmpT (escN 10) (dM (fnM nilM Bv.gTup)) (gNeO T_law)) (escN 10))) (escN 6) (gNeO T_law))
                            (cmpT (dM (fnM (consM (escN 7) nilM) (callN 1 F_greatest_phases))) (dM (fnM (consM (escN 4) nilM) (callN 1 F_greatest_cliques))) (gNeO T_law)))
                          (seqS (rtS (sM (pure (D.bl false)))) nilS) nilS)
                        nilS))))))))))
    (seqS (rtS (sM (pure (D.bl true)))) nilS))
theorem e_law : bodyS T_law (defCt T_law n_law u_law s_law) (defBody s_law) = m_law := by kernel_rfl
theorem r_law : F_law = runF n_law m_law := congrArg (runF n_law) e_law
def m__law_is : FnS → MS := fun F =>
  seqS
    (ifS (truT (thM (slN 1) (isiW (isiT isiL [Str.ofString "tuple"]))))
      (seqS (ifS (orT (notT (truT (thM (slN 0) (isiW (isiT isiL [Str.ofString "tuple"]))))) (cmpT (dM (thM (slN 0) lenW)) (dM (thM (slN 1) lenW)) gNe)) (seqS (rtS (sM (pure (D.bl false)))) nilS) nilS)
        (seqS
          (rtS
            (bin2 (dM (lcM (rgM (consM (dM (thM (slN 1) lenW)) nilM) rg1W) [2] (asN 2) (notT (truT (fnM (consM (dM (ixNM 0 (escN 2))) (consM (dM (ixNM 1 (escN 2))) nilM)) (callN 2 F)))) (escN 2))) (dM (fnM nilM Bv.gLst))
              gEq))
          nilS))
      nilS)
    (seqS (ifS (cmpT (escN 1) (pure D.non) (gIs false)) (seqS (rtS (bin2 (escN 0) (pure D.non) (gIs false))) nilS) nilS)
      (seqS (ifS (cmpT (escN 1) (pure (D.bl true)) (gIs false)) (seqS (rtS (bin2 (escN 0) (pure (D.bl true)) (gIs false))) nilS) nilS)
        (seqS (ifS (cmpT (escN 1) (pure (D.bl false)) (gIs false)) (seqS (rtS (bin2 (escN 0) (pure (D.bl false)) (gIs false))) nilS) nilS)
          (seqS (ifS (truT (thM (slN 1) (isiW (isiT isiL [Str.ofString "str"])))) (seqS (rtS (Bv.andM (dM (thM (slN 0) (isiW (isiT isiL [Str.ofString "str"])))) (bin2 (escN 0) (escN 1) gEq))) nilS) nilS)
            (seqS (rtS (Bv.andM (dM (thM (slN 0) (isiW (isiT isiL [Str.ofString "int"])))) (Bv.andM (dM (Bv.notM (dM (thM (slN 0) (isiW (isiT isiL [Str.ofString "bool"])))))) (bin2 (escN 0) (escN 1) gEq))))
              nilS)))))
theorem e__law_is (F : FnS) : bodyS (mkT [("_law_is", 2, F)] [] tyL isiL fldL gcB coL [] brL) (defCt (mkT [("_law_is", 2, F)] [] tyL isiL fldL gcB coL [] brL) n__law_is u__law_is s__law_is) (defBody s__law_is) = m__law_is F := by kernel_rfl
end Kt

namespace Kt
open PySem PySem.Spec L2 Bv
set_option hygiene false
local macro_rules | `(tactic| fail "S1") => `(tactic| (first | with_reducible refine s_seq ?_ | with_reducible refine w_lc2S ?_ | with_reducible refine s_nil ?_ | with_reducible refine s_ag ?_ | with_reducible refine s_rt ?_ | with_reducible refine s_ex ?_ | with_reducible refine s_for ?_ | with_reducible refine s_par2 ?_ | with_reducible refine s_par3 ?_ | with_reducible refine w_pure ?_ | with_reducible refine w_dM ?_ | with_reducible refine w_sM ?_ | with_reducible refine w_th ?_ | with_reducible refine w_fn ?_ | with_reducible refine w_rg ?_ | with_reducible refine w_it ?_ | with_reducible refine w_nil ?_ | with_reducible refine w_cons ?_ | with_reducible refine w_bin2 ?_ | with_reducible refine w_addI ?_ | with_reducible refine w_subI ?_ | with_reducible refine w_ltI ?_ | with_reducible refine w_leI ?_ | with_reducible refine w_gtI ?_ | with_reducible refine w_geI ?_ | with_reducible refine w_eqS ?_ | with_reducible refine w_neS ?_ | with_reducible refine w_eqI ?_ | with_reducible refine w_neI ?_ | with_reducible refine w_int ?_ | with_reducible refine w_ixM ?_ | with_reducible refine w_cmpT ?_ | with_reducible refine w_notT ?_ | with_reducible refine w_blT ?_ | with_reducible refine w_yes ?_ | with_reducible refine w_chM ?_ | with_reducible refine w_lcS ?_ | with_reducible refine w_itL ?_ | with_reducible refine w_ix0T ?_ | with_reducible refine w_ix0L ?_ | with_reducible refine w_ix0O ?_ | with_reducible refine w_ix1T ?_ | with_reducible refine w_ix1L ?_ | with_reducible refine w_ix1O ?_ | with_reducible refine w_ix2T ?_ | with_reducible refine w_ix2L ?_ | with_reducible refine w_ix2O ?_ | with_reducible refine w_ix3T ?_ | with_reducible refine w_ix3L ?_ | with_reducible refine w_ix3O ?_ | with_reducible refine w_itT ?_ | with_reducible refine w_itC ?_ | with_reducible refine w_lstS ?_ | with_reducible refine w_lstL ?_ | with_reducible refine w_lstT ?_ | with_reducible refine w_lstO ?_ | with_reducible refine w_tupT ?_ | with_reducible refine w_tupL ?_ | with_reducible refine w_tupO ?_ | with_reducible refine w_dd ?_ | with_reducible refine s_asT1 ?_ | with_reducible refine s_stS ?_ | with_reducible refine w_max2 ?_ | with_reducible refine w_min2 ?_ | with_reducible refine s_asT0 ?_ | with_reducible refine w_gcd ?_ | with_reducible refine w_idxM ?_ | with_reducible refine w_enW ?_ | with_reducible refine w_enT ?_ | with_reducible refine w_zpL ?_ | with_reducible refine w_zpT ?_ | with_reducible refine w_rgOf ?_ | with_reducible refine w_rgOf2 ?_ | with_reducible refine w_inN ?_ | with_reducible refine w_inLs ?_ | with_reducible refine w_inLo ?_ | with_reducible refine w_dcS ?_ | with_reducible refine w_inK ?_ | with_reducible refine w_noP ?_ | with_reducible refine w_soP ?_ | with_reducible refine w_slM ?_ | with_reducible refine s_op ?_ | with_reducible refine w_inLd ?_ | with_reducible refine w_itS ?_ | with_reducible refine w_joM ?_ | with_reducible refine w_inLF ?_ | with_reducible refine w_inLT ?_ | with_reducible refine w_inPF ?_ | with_reducible refine w_cmLs ?_ | with_reducible refine w_cmLns ?_ | with_reducible refine w_cmLo ?_ | with_reducible refine w_cmLno ?_ | with_reducible refine w_eqOl ?_ | with_reducible refine w_eqOt ?_ | with_reducible refine w_eqOi ?_ | with_reducible refine w_eqOb ?_ | with_reducible refine w_eqOs ?_ | with_reducible refine w_neOl ?_ | with_reducible refine w_neOt ?_ | with_reducible refine w_neOi ?_ | with_reducible refine w_neOb ?_ | with_reducible refine w_neOs ?_ | ((with_reducible apply w_esc); (focus exact rfl)) | ((with_reducible apply w_sl); (focus exact rfl)) | ((with_reducible apply s_asN); (focus (repeat (first | exact SetAt.z | apply SetAt.s)))) | ((with_reducible apply w_ixN); (focus exact rfl)) | ((with_reducible apply w_slN); (focus exact rfl)) | ((with_reducible apply w_slL); (focus exact rfl)) | ((with_reducible apply w_slT); (focus exact rfl)) | ((with_reducible apply w_escO); (focus exact rfl); (focus (repeat (first | exact SetAt.z | apply SetAt.s)))) | ((with_reducible apply w_mv); (focus exact rfl); (focus (repeat (first | exact SetAt.z | apply SetAt.s)))) | ((with_reducible refine w_modI ?_ ?_); (focus first | omega | decide)) | ((with_reducible refine w_fdvI ?_ ?_ ?_); (focus first | omega | decide); (focus first | omega | decide)) | ((with_reducible refine w_powI ?_ ?_); (focus decide)) | ((with_reducible refine w_mulI ?_ ?_); (focus first | exact .inr (by decide) | exact .inl (by decide) | exact .inr (by constructor <;> omega) | exact .inl (by constructor <;> omega))) | ((with_reducible apply w_app); (focus exact rfl)) | ((with_reducible apply w_cmN); (focus exact rfl)) | ((with_reducible apply w_appN); (focus exact rfl); (focus first | decide | (simp only [List.length_cons, List.length_nil]; decide)); (focus (repeat (first | exact SetAt.z | apply SetAt.s)))) | ((with_reducible apply w_isi); (focus exact rfl); (focus assumption)) | ((with_reducible apply w_isF); (focus exact rfl)) | ((with_reducible apply w_isN); (focus exact rfl)) | ((with_reducible apply w_fldS); (focus exact rfl)) | ((with_reducible apply s_stN); (focus exact rfl); (focus exact Nat.le_of_ble_eq_true rfl); (focus (repeat (first | exact SetAt.z | apply SetAt.s)))) | ((with_reducible apply w_fldO); (focus exact rfl)) | ((with_reducible refine w_rg1 ?_ ?_); (focus first | (constructor <;> omega) | decide)) | ((with_reducible refine w_rg2 ?_ ?_); (focus first | (refine ⟨?_, ?_, ?_, ?_⟩ <;> omega) | decide)) | ((with_reducible refine w_rgW ?_ ?_); (focus constructor <;> omega)) | ((with_reducible refine w_rgW2 ?_ ?_); (focus refine ⟨⟨?_, ?_⟩, ⟨?_, ?_⟩, ?_⟩ <;> omega)) | ((with_reducible refine w_addT ?_ ?_); (focus (simp only [List.length_map, List.length_replicate, List.length_cons, List.length_nil, List.length_range]; unfold lineN; omega))) | ((with_reducible refine w_mul1 ?_ ?_); (focus constructor <;> omega)) | ((with_reducible refine w_tup ?_ ?_); (focus exact Nat.le_of_ble_eq_true rfl)) | ((with_reducible refine w_lst ?_ ?_); (focus exact Nat.le_of_ble_eq_true rfl)) | ((with_reducible refine w_pen_at ?_ ?_); (focus exact rfl)) | ((with_reducible refine s_pen_at ?_ ?_ ?_); (focus exact rfl); (focus exact rfl)) | ((with_reducible refine w_pen_digits ?_ ?_); (focus exact rfl)) | ((with_reducible refine s_pen_digits ?_ ?_); (focus exact rfl)) | ((with_reducible refine w_pen_count ?_ ?_); (focus exact rfl)) | ((with_reducible refine s_pen_count ?_ ?_); (focus exact rfl)) | ((with_reducible refine w_pen_fold ?_ ?_); (focus exact rfl)) | ((with_reducible refine s_pen_fold ?_ ?_); (focus exact rfl)) | ((with_reducible refine w_pen_cells ?_ ?_); (focus exact rfl)) | with_reducible refine s_dp ?_ | with_reducible refine if_not ?_ | with_reducible refine if_tt ?_ | with_reducible refine if_ff ?_ | ((with_reducible refine if_decT ?_ ?_); (focus first | omega | (simp only [List.length_cons, List.length_nil]; omega))) | ((with_reducible refine if_decF ?_ ?_); (focus first | omega | (simp only [List.length_cons, List.length_nil]; omega))) | with_reducible refine if_dec (fun hc => ?_) (fun hc => ?_) | with_reducible refine s_if ?_ | with_reducible refine w_andT ?_ | with_reducible refine w_orT ?_ | with_reducible refine w_andM ?_ | with_reducible refine w_orM ?_ | with_reducible refine w_notM ?_ | with_reducible refine w_ifM ?_ | with_reducible refine w_truT ?_ | with_reducible refine w_negI ?_ | with_reducible refine ex_truB ?_ | with_reducible refine ⟨_, rfl, ?_⟩ | dsimp only [L.d] | ((with_reducible refine if_t ?_ ?_); (focus exact rfl)) | ((with_reducible refine if_f ?_ ?_); (focus exact rfl)) | ((with_reducible apply w_len); (focus exact .inl rfl)) | ((with_reducible apply w_len); (focus exact .inr rfl))))
local macro_rules | `(tactic| fail "SA") => `(tactic| (repeat' fail "S1"))
local macro_rules | `(tactic| fail "SR") => `(tactic| (repeat fail "S1"))
set_option hygiene true
open PyProof.Rows hiding pairD
/-! drawn crossings -/
theorem FD_draw : F__law_draw = runF n__law_draw mDraw := r__law_draw
theorem FD_pick : F__law_pick = runF n__law_pick (mPick F__law_draw) := r__law_pick
theorem FD_pen : F__law_pen = runF n__law_pen mPen := r__law_pen
theorem sp_draw {s : S} {p : Pen} (hs : s.st = [.dic p.fs]) {many : Int} (h0 : 0 < many) (h1 : many < 1073741824) {Q : L → S → Prop} (q : ∀ (x : Int) (p' : Pen), 0 ≤ x → x < many → Q (.sh (.int x)) ⟨s.sl, [.dic p'.fs]⟩) : wm (callN 2 F__law_draw [.mref 0, .int many]) s Q := draw_ok FD_draw rfl hs h0 h1 q
theorem sp_pick {s : S} {p : Pen} (hs : s.st = [.dic p.fs]) {ds : List D} (h0 : 0 < ds.length) (h1 : ds.length < 1073741824) {Q : L → S → Prop} (q : ∀ (d : D) (p' : Pen), d ∈ ds → Q (.sh d) ⟨s.sl, [.dic p'.fs]⟩) : wm (callN 2 F__law_pick [.mref 0, .lst ds]) s Q := pick_ok FD_pick rfl FD_draw rfl hs h0 h1 q
theorem sp_pickS {s : S} {p : Pen} (hs : s.st = [.dic p.fs]) {x : Str} (h0 : 0 < x.length) (h1 : x.length < 16777216) {Q : L → S → Prop} (q : ∀ (c : Nat) (p' : Pen), c ∈ x.cps.toList → Q (.sh (.str ⟨#[c]⟩)) ⟨s.sl, [.dic p'.fs]⟩) : wm (callN 2 F__law_pick [.mref 0, .str x]) s Q := pickS_ok FD_pick rfl FD_draw rfl hs h0 h1 q
/-! names -/
def LET : Str := Str.ofString "abcdefghijklmnopqrstuvwxyz"
def SIG : Str := Str.ofString "abcdefghijklmnopqrstuvwxyz0123456789"
theorem let_l : LET.cps.toList = "abcdefghijklmnopqrstuvwxyz".toList.map Char.toNat := TL.tl_ofString _
theorem sig_l : SIG.cps.toList = "abcdefghijklmnopqrstuvwxyz0123456789".toList.map Char.toNat := TL.tl_ofString _
theorem let_sig : ∀ c ∈ LET.cps.toList, c ∈ SIG.cps.toList := by rw [let_l, sig_l]; decide +kernel
theorem sig_ok : ∀ c ∈ SIG.cps.toList, c < 0x110000 := by rw [sig_l]; decide +kernel
theorem let_len : LET.length = 26 := by rw [TL.len_tl]; show LET.cps.toList.length = _; rw [let_l]; decide +kernel
theorem sig_len : SIG.length = 36 := by rw [TL.len_tl]; show SIG.cps.toList.length = _; rw [sig_l]; decide +kernel
/-- signs of a name -/
structure Chars (x : Str) : Prop where
  ok : ∃ c cs, x.cps.toList = c :: cs ∧ c ∈ LET.cps.toList ∧ ∀ d ∈ cs, d ∈ SIG.cps.toList
structure NameOk (x : Str) : Prop where
  ch : Chars x
  le : x.length ≤ 12
theorem Chars.all {x : Str} (h : Chars x) : ∀ c ∈ x.cps.toList, c ∈ SIG.cps.toList := by
  obtain ⟨c, cs, e, h1, h2⟩ := h.ok
  intro d hd
  rw [e] at hd
  rcases List.mem_cons.mp hd with rfl | hd
  · exact let_sig _ h1
  · exact h2 d hd
theorem Chars.pos {x : Str} (h : Chars x) : 0 < x.length := by
  obtain ⟨c, cs, e, h1, h2⟩ := h.ok
  rw [TL.len_tl]
  show 0 < x.cps.toList.length
  rw [e]; simp
theorem Chars.str {x : Str} (h : Chars x) : PyData.strOk x = true := by
  unfold PyData.strOk
  rw [← Array.all_toList, List.all_eq_true]
  intro c hc
  exact decide_eq_true (sig_ok c (h.all c hc))
theorem Chars.snoc {x y : Str} (h : Chars x) (hy : ∀ c ∈ y.cps.toList, c ∈ SIG.cps.toList) : Chars (x ++ y) := by
  obtain ⟨c, cs, e, h1, h2⟩ := h.ok
  refine ⟨c, cs ++ y.cps.toList, ?_, h1, fun d hd => ?_⟩
  · have := TL.tl_append x y
    show (x ++ y).cps.toList = _
    rw [show (x ++ y).cps.toList = x.cps.toList ++ y.cps.toList from this, e]; rfl
  · rcases List.mem_append.mp hd with hd | hd
    · exact h2 d hd
    · exact hy d hd
theorem len_app (x y : Str) : (x ++ y).length = x.length + y.length := by
  rw [TL.len_tl, TL.tl_append, List.length_append, ← TL.len_tl, ← TL.len_tl]
theorem join_tl : ∀ ys : List Str, (Txt.join (Str.ofString "") ys).cps.toList = (ys.map fun y => y.cps.toList).flatten := fun ys => by
  rw [TL.join_eq]
  show TL.tl _ = _
  rw [TL.tl_join, show TL.tl (Str.ofString "") = [] from TL.tl_ofString _]
  have : ∀ l : List (List Nat), TL.joinL [] l = l.flatten := fun l => by
    induction l with
    | nil => rfl
    | cons a r ih =>
      cases r with
      | nil => simp [TL.joinL]
      | cons b r => show a ++ ([] ++ TL.joinL [] (b :: r)) = _; rw [ih]; rfl
  exact this _
theorem join_signs (cs : List Nat) : (Txt.join (Str.ofString "") (cs.map fun c => (⟨#[c]⟩ : Str))).cps.toList = cs := by
  rw [join_tl, List.map_map]
  induction cs with
  | nil => rfl
  | cons c r ih => rw [List.map_cons, List.flatten_cons, ih]; rfl
theorem one_sum (cs : List Nat) : ((cs.map fun c => (⟨#[c]⟩ : Str)).map (·.length)).sum = cs.length := by
  rw [List.map_map]
  induction cs with
  | nil => rfl
  | cons c r ih => rw [List.map_cons, List.sum_cons, ih, List.length_cons]; show 1 + r.length = _; omega
theorem long_at {x : Int} (h0 : 0 ≤ x) (h1 : x < 6) : ∃ v : Nat, v ≤ 11 ∧ atI [D.int 0, .int 0, .int 1, .int 2, .int 5, .int 11] x = some (.int (v : Nat)) := by
  have : x = 0 ∨ x = 1 ∨ x = 2 ∨ x = 3 ∨ x = 4 ∨ x = 5 := by omega
  rcases this with rfl | rfl | rfl | rfl | rfl | rfl
  · exact ⟨0, by decide, rfl⟩
  · exact ⟨0, by decide, rfl⟩
  · exact ⟨1, by decide, rfl⟩
  · exact ⟨2, by decide, rfl⟩
  · exact ⟨5, by decide, rfl⟩
  · exact ⟨11, by decide, rfl⟩
theorem sp_name {s : S} {p : Pen} (hs : s.st = [.dic p.fs]) {Q : L → S → Prop} (q : ∀ (x : Str) (p' : Pen), NameOk x → Q (.sh (.str x)) ⟨s.sl, [.dic p'.fs]⟩) : wm (callN 1 F__law_name [.mref 0]) s Q := by
  refine w_call r__law_name rfl ?_
  rw [hs]
  show ws m__law_name ⟨[some (.sh (.mref 0)), none, none, none, none], [.dic p.fs]⟩ _ _ _ _
  unfold m__law_name
  fail "SA"
  refine sp_draw rfl (by omega) (by omega) fun x p1 hx0 hx1 => ?_
  fail "SA"
  obtain ⟨v, hv, e⟩ := long_at hx0 hx1
  refine w_ixW (.inl rfl) e ?_
  fail "SA"
  refine sp_pickS (x := LET) rfl (by rw [let_len]; omega) (by rw [let_len]; omega) fun c p2 hc => ?_
  fail "SA"
  refine w_lcW (fun c : Nat => D.str ⟨#[c]⟩) (fun p : Pen => [.dic p.fs]) (fun _ c => c ∈ SIG.cps.toList) rfl (by rw [rgD_len]; unfold lineN; omega) (fun i d p hd => ⟨_, rfl, rfl, ?_⟩) (fun cs p3 hl hcs => ?_)
  · fail "SA"
    refine sp_pickS (x := SIG) rfl (by rw [sig_len]; omega) (by rw [sig_len]; omega) fun c p2 hc => ?_
    fail "SA"
    exact ⟨p2, c, rfl, rfl, hc⟩
  rw [rgD_len] at hl
  refine ⟨cs.map fun c => (⟨#[c]⟩ : Str), by show D.lst _ = _; rw [List.map_map]; rfl, ?_, ?_⟩
  · rw [one_sum]
    show _ + _ * 0 ≤ _
    omega
  have hj := join_signs cs
  have hjl : (Txt.join (Str.ofString "") (cs.map fun c => (⟨#[c]⟩ : Str))).length = v := by
    rw [TL.len_tl, show TL.tl _ = cs from hj, hl]; omega
  generalize Txt.join (Str.ofString "") (cs.map fun c => (⟨#[c]⟩ : Str)) = y at hj hjl
  refine w_addS (by rw [hjl]; show 1 + v ≤ _; omega) ?_
  fail "SA"
  refine q _ p3 ⟨⟨c, cs, ?_, hc, fun d hd => ?_⟩, ?_⟩
  · have := TL.tl_append (⟨#[c]⟩ : Str) y
    rw [show ((⟨#[c]⟩ : Str) ++ y).cps.toList = (#[c]).toList ++ y.cps.toList from this, hj]; rfl
  · obtain ⟨i, hi⟩ := List.getElem?_of_mem hd
    exact hcs i d hi
  · rw [len_app, hjl]; show 1 + v ≤ 12; omega
theorem dig_ok {k : Nat} (h : k < 10) : (∀ d ∈ (Str.ofString (toString ((k : Nat) : Int))).cps.toList, d ∈ SIG.cps.toList) ∧ (Str.ofString (toString ((k : Nat) : Int))).cps.toList.length ≤ 1 := by
  rw [show (Str.ofString (toString ((k : Nat) : Int))).cps.toList = (toString ((k : Nat) : Int)).toList.map Char.toNat from TL.tl_ofString _, sig_l]
  have : k = 0 ∨ k = 1 ∨ k = 2 ∨ k = 3 ∨ k = 4 ∨ k = 5 ∨ k = 6 ∨ k = 7 ∨ k = 8 ∨ k = 9 := by omega
  rcases this with rfl | rfl | rfl | rfl | rfl | rfl | rfl | rfl | rfl | rfl <;> decide +kernel
theorem log_ok : ∀ {k : Nat}, k < 10 → ((k : Nat) : Int).natAbs.log2 < 1920 := by decide +kernel
/-- how many names are as long or longer -/
def asLong (ns : List Str) (y : Str) : Nat := (ns.filter fun z => decide (y.length ≤ z.length)).length
theorem asLong_lt {ns : List Str} {y z : Str} (h : y ∈ ns) (hz : z.length = y.length + 1) : asLong ns z < asLong ns y := by
  unfold asLong
  induction ns with
  | nil => cases h
  | cons a r ih =>
    rw [List.filter_cons, List.filter_cons]
    have mono : (r.filter fun w => decide (z.length ≤ w.length)).length ≤ (r.filter fun w => decide (y.length ≤ w.length)).length := by
      rw [← List.countP_eq_length_filter, ← List.countP_eq_length_filter]
      exact List.countP_mono_left fun w _ hw => by simp only [decide_eq_true_eq] at hw ⊢; omega
    rcases List.mem_cons.mp h with rfl | h
    · rw [if_neg (by simp only [decide_eq_true_eq]; omega), if_pos (by simp), List.length_cons]
      omega
    · have := ih h
      split
      · rename_i h1
        rw [if_pos (by simp only [decide_eq_true_eq] at h1 ⊢; omega), List.length_cons, List.length_cons]
        omega
      · split
        · rw [List.length_cons]; omega
        · exact this
theorem asLong_le (ns : List Str) (y : Str) : asLong ns y ≤ ns.length := List.length_filter_le _ _
theorem w_inNm {x : Str} {ns : List Str} (hx : Chars x) (hn : ∀ y ∈ ns, NameOk y) {neg : Bool} {s : S} {Q : L → S → Prop} (q : Q (.sh (.bl (if neg then !decide (x ∈ ns) else decide (x ∈ ns)))) s) : wm (gIn2 neg (.str x) (.lst (ns.map D.str))) s Q :=
  w_inD (emb_str.inL (by decide) hx.str fun y hy => (hn y hy).ch.str).1 q
theorem sp_names {s : S} {p : Pen} (hs : s.st = [.dic p.fs]) {many : Nat} (hm : many ≤ 9) {Q : L → S → Prop} (q : ∀ (ns : List Str) (p' : Pen), ns.length = many → ns.Nodup → (∀ y ∈ ns, NameOk y) → Q (.sh (.tup (ns.map D.str))) ⟨s.sl, [.dic p'.fs]⟩) : wm (callN 2 F__law_names [.mref 0, .int (many : Nat)]) s Q := by
  refine w_call r__law_names rfl ?_
  rw [hs]
  show ws m__law_names ⟨[some (.sh (.mref 0)), some (.sh (.int (many : Nat))), none, none, none], [.dic p.fs]⟩ _ _ _ _
  unfold m__law_names
  fail "SA"
  refine s_forR (n := many) (fun (i : Nat) (s' : S) => ∃ (ns : List Str) (p' : Pen) (o3 o4 : Option L), (ns.length = i) ∧ (ns.Nodup) ∧ (∀ y ∈ ns, NameOk y) ∧ s' = ⟨[some (.sh (.mref 0)), some (.sh (.int (many : Nat))), some (.ol (ns.map D.str)), o3, o4], [.dic p'.fs]⟩) (by omega) ⟨[], p, none, none, rfl, List.nodup_nil, (fun y hy => by cases hy), rfl⟩ (fun i s' hi ⟨ns, p', o3, o4, hl, hn, ho, hS⟩ => ?_) (fun s' ⟨ns, p', o3, o4, hl, hn, ho, hS⟩ => ?_)
  · subst hS
    fail "SA"
    refine sp_name rfl fun x p1 hx => ?_
    fail "SA"
    refine w_inNm hx.ch ho ?_
    -- what the name is behind the test
    have fin : ∀ (R' : L → S → Prop) (B' C' : S → Prop) (y : Str), Chars y → (y ∉ ns ∧ y.length ≤ 12 ∨ y.length + asLong ns y ≤ 12) →
        ws (whB (blT (inN (escN 4) 2 (Prod.fst ((fun i => (false, i)) ((fun x => x + 1) ((fun x => x + 1) 0)))))) (seqS (agS (sM (dM (bin2 (escN 4) (pure (D.str (Str.ofString "0"))) gAdd))) (asN 4)) nilS) 1000000)
          ⟨[some (.sh (.mref 0)), some (.sh (.int (many : Nat))), some (.ol (ns.map D.str)), some (.sh (.int (i : Int))), some (.sh (.str y))], [.dic p1.fs]⟩ (fun s' => ws (seqS (exS (appM 2 (escN 4))) nilS) s' ((fun (i : Nat) (s' : S) => ∃ (ns : List Str) (p' : Pen) (o3 o4 : Option L), (ns.length = i) ∧ (ns.Nodup) ∧ (∀ y ∈ ns, NameOk y) ∧ s' = ⟨[some (.sh (.mref 0)), some (.sh (.int (many : Nat))), some (.ol (ns.map D.str)), o3, o4], [.dic p'.fs]⟩) (i + 1)) R' B' C') R' B' C' := fun R' B' C' y hy hlen => by
      refine s_whI (fun k s' => ∃ y : Str, Chars y ∧ k = asLong ns y ∧ (y ∉ ns ∧ y.length ≤ 12 ∨ y.length + asLong ns y ≤ 12) ∧ s' = ⟨[some (.sh (.mref 0)), some (.sh (.int (many : Nat))), some (.ol (ns.map D.str)), some (.sh (.int (i : Int))), some (.sh (.str y))], [.dic p1.fs]⟩) (asLong ns y) (by have := asLong_le ns y; omega) ⟨y, hy, rfl, hlen, rfl⟩ (fun k s' ⟨z, hz, hk, hzl, e⟩ => ?_)
      subst e
      fail "SA"
      refine w_inNm hz ho ?_
      refine ⟨_, rfl, ?_⟩
      refine if_dec (fun hc => ?_) (fun hc => ?_)
      · fail "SA"
        have h0l : (Str.ofString "0").length = 1 := by rw [TL.len_tl, TL.tl_ofString]; decide +kernel
        have h0c : ∀ c ∈ (Str.ofString "0").cps.toList, c ∈ SIG.cps.toList := by rw [show (Str.ofString "0").cps.toList = _ from TL.tl_ofString _, sig_l]; decide +kernel
        have hb : z.length + asLong ns z ≤ 12 := by
          rcases hzl with ⟨h, _⟩ | h
          · exact absurd hc h
          · exact h
        refine w_addS (by rw [h0l]; omega) ?_
        fail "SA"
        have hlt := asLong_lt (z := z ++ Str.ofString "0") hc (by rw [len_app, h0l])
        refine ⟨_, by rw [hk]; exact hlt, _, hz.snoc h0c, rfl, .inr (by rw [len_app, h0l]; omega), rfl⟩
      · fail "SA"
        refine w_appN rfl (by rw [List.length_map, hl]; unfold lineN; omega) (.s (.s .z)) ?_
        fail "SA"
        refine ⟨ns ++ [z], p1, some (.sh (.int (i : Int))), some (.sh (.str z)), by rw [List.length_append, hl]; rfl, ?_, fun y hy => ?_, by rw [List.map_append]; rfl⟩
        · rw [List.nodup_append]
          exact ⟨hn, by simp, fun a ha b hb e => hc (by rw [List.mem_singleton.mp hb] at e; exact e ▸ ha)⟩
        · rcases List.mem_append.mp hy with hy | hy
          · exact ho y hy
          · rw [List.mem_singleton.mp hy]
            refine ⟨hz, ?_⟩
            rcases hzl with ⟨_, h⟩ | h
            · exact h
            · omega
    refine ⟨_, rfl, ?_⟩
    refine if_dec (fun hc => ?_) (fun hc => ?_)
    · fail "SA"
      refine w_strI (log_ok (by omega)) ?_
      fail "SA"
      obtain ⟨g1, g2⟩ := dig_ok (k := i) (by omega)
      have zl : (Str.ofString "z").cps.toList = [122] := (TL.tl_ofString _).trans (by decide +kernel)
      have ql : (Str.ofString "q").cps.toList = [113] := (TL.tl_ofString _).trans (by decide +kernel)
      have z1 : (Str.ofString "z").length = 1 := by rw [TL.len_tl]; show (Str.ofString "z").cps.toList.length = 1; rw [zl]; rfl
      have q1 : (Str.ofString "q").length = 1 := by rw [TL.len_tl]; show (Str.ofString "q").cps.toList.length = 1; rw [ql]; rfl
      have d1 : (Str.ofString (toString ((i : Nat) : Int))).length ≤ 1 := by rw [TL.len_tl]; exact g2
      have hz : Chars (Str.ofString "z") := ⟨122, [], zl, by rw [let_l]; decide +kernel, fun d hd => by cases hd⟩
      generalize hd : (Str.ofString (toString ((i : Nat) : Int))) = dg at g1 g2 d1
      refine w_addS (by rw [z1]; omega) ?_
      fail "SA"
      refine w_addS (by rw [len_app, z1, q1]; omega) ?_
      fail "SA"
      have hh := asLong_le ns (Str.ofString "z" ++ dg ++ Str.ofString "q")
      exact fin _ _ _ _ ((hz.snoc g1).snoc (fun c hc => by rw [ql] at hc; rw [List.mem_singleton.mp hc, sig_l]; decide +kernel)) (.inr (by rw [len_app, len_app, z1, q1]; omega))
    · fail "SA"
      exact fin _ _ _ x hx.ch (.inl ⟨hc, hx.le⟩)
  · subst hS
    fail "SA"
    exact q ns p' hl hn ho
open PyProof.Rows hiding pairD
/-! pairs -/
def row (n i : Nat) : List (Nat × Nat) := (List.range (n - (i + 1))).map fun j => (i, i + 1 + j)
def apr (n k : Nat) : List (Nat × Nat) := (List.range k).flatMap (row n)
theorem mem_row {n i : Nat} {p : Nat × Nat} : p ∈ row n i ↔ p.1 = i ∧ i < p.2 ∧ p.2 < n := by
  unfold row
  rw [List.mem_map]
  constructor
  · rintro ⟨j, hj, rfl⟩
    have := List.mem_range.mp hj
    exact ⟨rfl, by show i < i + 1 + j; omega, by show i + 1 + j < n; omega⟩
  · rintro ⟨h1, h2, h3⟩
    exact ⟨p.2 - (i + 1), List.mem_range.mpr (by omega), Prod.ext h1.symm (by show i + 1 + (p.2 - (i + 1)) = p.2; omega)⟩
theorem mem_apr {n k : Nat} {p : Nat × Nat} : p ∈ apr n k ↔ p.1 < k ∧ p.1 < p.2 ∧ p.2 < n := by
  unfold apr
  rw [List.mem_flatMap]
  constructor
  · rintro ⟨i, hi, hp⟩
    obtain ⟨h1, h2, h3⟩ := mem_row.mp hp
    have := List.mem_range.mp hi
    exact ⟨by omega, by omega, h3⟩
  · rintro ⟨h1, h2, h3⟩
    exact ⟨p.1, List.mem_range.mpr h1, mem_row.mpr ⟨rfl, h2, h3⟩⟩
theorem apr_succ (n k : Nat) : apr n (k + 1) = apr n k ++ row n k := by
  unfold apr
  rw [List.range_succ, List.flatMap_append]
  simp
theorem row_sorted (n i : Nat) : (row n i).Pairwise ltPr := by
  unfold row
  rw [List.pairwise_map]
  exact List.pairwise_lt_range.imp fun h => .inr ⟨rfl, by show i + 1 + _ < i + 1 + _; omega⟩
theorem apr_sorted (n : Nat) : ∀ k, (apr n k).Pairwise ltPr
  | 0 => .nil
  | k + 1 => by
    rw [apr_succ, List.pairwise_append]
    refine ⟨apr_sorted n k, row_sorted n k, fun p hp q hq => .inl ?_⟩
    have := (mem_apr.mp hp).1
    have := (mem_row.mp hq).1
    omega
theorem row_len (n i : Nat) : (row n i).length ≤ n := by unfold row; rw [List.length_map, List.length_range]; omega
theorem apr_len (n : Nat) : ∀ k, (apr n k).length ≤ k * n
  | 0 => by simp [apr]
  | k + 1 => by
    rw [apr_succ, List.length_append, Nat.succ_mul]
    have := apr_len n k
    have := row_len n k
    omega
theorem sp_apr {s : S} {n : Nat} (hn : n ≤ 1000) {Q : L → S → Prop} (q : Q (.ol ((apr n n).map pairD)) s) : wm (callN 1 F__law_all_pairs [.int (n : Nat)]) s Q := by
  refine w_call r__law_all_pairs rfl ?_
  show ws m__law_all_pairs ⟨[some (.sh (.int (n : Nat))), none, none, none], s.st⟩ _ _ _ _
  unfold m__law_all_pairs
  fail "SA"
  refine s_forR (n := n) (fun (i : Nat) (s' : S) => ∃ (o2 o3 : Option L), (i ≤ n) ∧ s' = ⟨[some (.sh (.int (n : Nat))), some (.ol ((apr n i).map pairD)), o2, o3], s.st⟩) (by omega) ⟨none, none, Nat.zero_le _, rfl⟩ (fun i s' hi ⟨o2, o3, hl, hS⟩ => ?_) (fun s' ⟨o2, o3, hl, hS⟩ => ?_)
  · subst hS
    fail "SA"
    refine w_ext rfl ?_
    fail "SA"
    rw [rgD_map, show ((n : Int) - ((i : Int) + 1)).toNat = n - (i + 1) by omega]
    refine w_lcF (fun j : Nat => pairD (i, i + 1 + j)) rfl (by rw [List.length_range]; unfold lineN; omega) (fun x hx => ⟨_, rfl, rfl, ?_⟩) ?_
    · fail "SA"
      exact ⟨rfl, by unfold pairD; rw [show ((i : Int) + 1 + (x : Nat)) = ((i + 1 + x : Nat) : Int) by omega]⟩
    fail "SA"
    have e1 : ((List.range (n - (i + 1))).map fun j : Nat => pairD (i, i + 1 + j)) = (row n i).map pairD := by unfold row; rw [List.map_map]; rfl
    rw [e1]
    refine w_extN rfl ?_ (.s .z) ?_
    · rw [List.length_map, List.length_map]
      have h1 := apr_len n i
      have h2 := row_len n i
      have : i * n ≤ 1000 * 1000 := Nat.mul_le_mul (by omega) hn
      unfold lineN
      omega
    fail "SA"
    exact ⟨_, _, by omega, by rw [apr_succ, List.map_append]⟩
  · subst hS
    fail "SA"
    exact q
/-! drawn crossings by value -/
structure Cr (most : Nat) (ns : List Str) (ps : List (Nat × Nat)) : Prop where
  h1 : 1 ≤ ns.length
  h2 : ns.length ≤ most
  nd : ns.Nodup
  ok : ∀ y ∈ ns, NameOk y
  so : ps.Pairwise ltPr
  lt : ∀ p ∈ ps, p.1 < p.2 ∧ p.2 < ns.length
theorem Cr.of {most : Nat} {ns : List Str} {ps : List (Nat × Nat)} (h1 : 1 ≤ ns.length) (h2 : ns.length ≤ most) (nd : ns.Nodup) (ok : ∀ y ∈ ns, NameOk y) (h : ps.Sublist (apr ns.length ns.length)) : Cr most ns ps :=
  ⟨h1, h2, nd, ok, (apr_sorted _ _).sublist h, fun p hp => (mem_apr.mp (h.subset hp)).2⟩
abbrev nmD (ns : List Str) : D := .tup (ns.map D.str)
abbrev crD (ns : List Str) (ps : List (Nat × Nat)) : D := .tup [nmD ns, .tup (ps.map pairD)]
def crF (ns : List Str) (ps : List (Nat × Nat)) : List (Str × D) := [("streams", nmD ns), ("conflicts", .tup (ps.map pairD))]
abbrev crI (ns : List Str) (ps : List (Nat × Nat)) : D := .inst "Crossing" [("streams", nmD ns), ("conflicts", .tup (ps.map pairD))]
theorem Cr.len {most : Nat} {ns : List Str} {ps : List (Nat × Nat)} (h : Cr most ns ps) : ps.length ≤ ns.length * ns.length := by
  refine Nat.le_trans (nodup_le ps (apr ns.length ns.length) ?_ fun p hp => mem_apr.mpr ?_) (apr_len _ _)
  · refine h.so.imp fun {a b} h e => ?_
    subst e
    unfold ltPr at h
    omega
  · have := h.lt p hp
    exact ⟨by omega, this.1, this.2⟩
theorem pk_pair (p : Nat × Nat) : pairD p = .tup [.int (p.1 : Nat), .int (p.2 : Nat)] := rfl
theorem sp_drawnC {s : S} {p : Pen} (hs : s.st = [.dic p.fs]) {most : Nat} (h0 : 1 ≤ most) (h1 : most ≤ 9) {Q : L → S → Prop}
    (q : ∀ (ns : List Str) (ps : List (Nat × Nat)) (p' : Pen), Cr most ns ps → Q (.sh (crD ns ps)) ⟨s.sl, [.dic p'.fs]⟩) : wm (callN 2 F__law_drawn_crossing [.mref 0, .int (most : Nat)]) s Q := by
  refine w_call r__law_drawn_crossing rfl ?_
  rw [hs]
  show ws m__law_drawn_crossing ⟨[some (.sh (.mref 0)), some (.sh (.int (most : Nat))), none, none, none, none, none, none], [.dic p.fs]⟩ _ _ _ _
  unfold m__law_drawn_crossing
  fail "SA"
  refine sp_draw rfl (by omega) (by omega) fun x p1 hx0 hx1 => ?_
  obtain ⟨m0, rfl⟩ := Int.eq_ofNat_of_zero_le hx0
  fail "SA"
  rw [show (1 : Int) + (m0 : Int) = ((1 + m0 : Nat) : Int) by omega]
  refine sp_names rfl (by omega) fun ns p2 hl hnd hok => ?_
  fail "SA"
  refine sp_apr (by omega) ?_
  fail "SA"
  refine sp_draw rfl (by omega) (by omega) fun way p3 hw0 hw1 => ?_
  fail "SA"
  refine sp_draw rfl (by omega) (by omega) fun th p4 ht0 ht1 => ?_
  rw [← hl]
  have hal : (apr ns.length ns.length).length ≤ 16777216 := by
    have := apr_len ns.length ns.length
    have : ns.length * ns.length ≤ 9 * 9 := Nat.mul_le_mul (by omega) (by omega)
    omega
  have fin : ∀ (ps : List (Nat × Nat)) (p' : Pen), ps.Sublist (apr ns.length ns.length) → Q (.sh (crD ns ps)) ⟨s.sl, [.dic p'.fs]⟩ := fun ps p' h => q ns ps p' (.of (by omega) (by omega) hnd hok h)
  fail "SA"
  · refine w_lcK (fun p : Pen => [.dic p.fs]) (.s (.s (.s (.s (.s (.s (.s .z))))))) rfl hal (fun x p hx => ⟨_, .s (.s (.s (.s (.s (.s (.s .z)))))), ?_⟩) (fun ps p5 hsub => ?_)
    · fail "SA"
      refine sp_draw rfl (by omega) (by omega) fun y p6 hy0 hy1 => ?_
      fail "SA"
      intro _
      fail "SA"
      exact ⟨rfl, rfl⟩
    fail "SA"
    exact fin ps p5 hsub
  · refine w_lcG (fun p : Nat × Nat => decide (((p.2 : Int) - (p.1 : Int)) ∈ [(1 : Int), (ns.length : Int) - 1])) Bv.pairD rfl hal (fun x hx => ⟨_, rfl, rfl, ?_⟩) ?_
    · fail "SA"
      refine w_inD (emb_int.inL (ys := [(1 : Int), (ns.length : Int) - 1]) (by decide) trivial fun _ _ => trivial).2 ?_
      fail "SA"
      refine ⟨rfl, rfl, fun _ => ?_⟩
      fail "SA"
      exact ⟨rfl, rfl⟩
    fail "SA"
    exact fin _ _ List.filter_sublist
  · refine w_lcG (fun p : Nat × Nat => decide ((((p.1 : Int) + (p.2 : Int)) % 2) = 1)) Bv.pairD rfl hal (fun x hx => ⟨_, rfl, rfl, ?_⟩) ?_
    · fail "SA"
      refine ⟨rfl, rfl, fun _ => ?_⟩
      fail "SA"
      exact ⟨rfl, rfl⟩
    fail "SA"
    exact fin _ _ List.filter_sublist
  · fail "SA"
    exact fin [] _ (List.nil_sublist _)
  · exact fin _ _ (List.Sublist.refl _)
open PyProof.Rows hiding pairD
theorem y_ss : isiT isiL [Str.ofString "str"] (.b "str") = some true := by decide +kernel
theorem y_ltl : isiT isiL [Str.ofString "list", Str.ofString "tuple"] (.b "list") = some true := by decide +kernel
theorem y_ltt : isiT isiL [Str.ofString "list", Str.ofString "tuple"] (.b "tuple") = some true := by decide +kernel
theorem y_tt : isiT isiL [Str.ofString "tuple"] (.b "tuple") = some true := by decide +kernel
theorem sp_isname {x : Str} (h : NameOk x) {s : S} {Q : L → S → Prop} (q : Q (.sh (.bl true)) s) : wm (callN 1 F_is_name [.str x]) s Q := by
  refine w_call r_is_name rfl ?_
  show ws m_is_name ⟨[some (.sh (.str x)), none], s.st⟩ _ _ _ _
  have y1 := y_ss
  have l0 := h.ch.pos
  have l1 := h.le
  obtain ⟨c, cs, e, h1, h2⟩ := h.ch.ok
  unfold m_is_name
  fail "SA"
  refine w_lenS (by omega) ?_
  fail "SA"
  refine w_ixS (by omega) (c := c) (atI_nat (j := 0) (by rw [e]; rfl)) ?_
  fail "SA"
  refine w_inST h1 ?_
  fail "SA"
  refine w_lcF (fun _ : Nat => D.bl true) rfl (by show x.cps.toList.length ≤ lineN; rw [← TL.len_tl]; unfold lineN; omega) (fun d hd => ⟨_, rfl, rfl, ?_⟩) ?_
  · fail "SA"
    refine w_inSF (h.ch.all d hd) ?_
    exact ⟨rfl, rfl⟩
  fail "SA"
  refine w_all (p := fun _ => true) rfl ?_
  rw [List.all_eq_true.mpr (fun _ _ => rfl)]
  exact q
theorem sp_places {ns : List Str} (hn : ns.Nodup) (ho : ∀ y ∈ ns, NameOk y) (hl : ns.length ≤ 12) {s : S} {Q : L → S → Prop} (q : Q (.od (plD ns 0)) s) : wm (callN 1 F_known_places [nmD ns]) s Q := by
  refine w_call r_known_places rfl ?_
  show ws m_known_places ⟨[some (.sh (nmD ns)), none, none], s.st⟩ _ _ _ _
  unfold m_known_places
  fail "SA"
  refine s_forL (fun (i : Nat) (s' : S) => ∃ (o2 : Option L), (i ≤ ns.length) ∧ s' = ⟨[some (.sh (nmD ns)), some (.od (plD (ns.take i) 0)), o2], s.st⟩) ⟨none, Nat.zero_le _, rfl⟩ (fun i hi s' ⟨o2, hl, hS⟩ => ?_) (fun s' ⟨o2, hl, hS⟩ => ?_)
  · subst hS
    fail "SA"
    refine sp_isname (ho _ (List.getElem_mem hi)) ?_
    fail "SA"
    have hni : ns[i] ∉ ns.take i := fun hm => by
      obtain ⟨j, hj⟩ := List.getElem?_of_mem hm
      rw [List.getElem?_take] at hj
      split at hj
      · rename_i hji
        have h1 := List.getElem?_eq_getElem hi
        obtain ⟨hj1, hj2⟩ := List.getElem?_eq_some_iff.mp hj
        have := (List.getElem_inj hn).mp hj2
        omega
      · cases hj
    refine w_inDF (at_plN hni) ?_
    fail "SA"
    refine w_lenD rfl ?_
    fail "SA"
    rw [plD_len]
    refine s_opN rfl (put_pl hni (by rw [List.length_take]; omega)) (.s .z) ?_
    fail "SA"
    exact ⟨_, by omega, by rw [take_get hi]⟩
  · subst hS
    fail "SA"
    rw [List.take_length]
    exact q
def npD (ns : List Str) (p : Nat × Nat) : D := .tup [.str (ns.getD p.1 ⟨#[]⟩), .str (ns.getD p.2 ⟨#[]⟩)]
theorem getD_mem {ns : List Str} {i : Nat} (h : i < ns.length) : ns[i]? = some (ns.getD i ⟨#[]⟩) := by
  rw [List.getD_eq_getElem?_getD, List.getElem?_eq_getElem h]; rfl
theorem sp_pairof {ns : List Str} (hn : ns.Nodup) {p : Nat × Nat} (hp : p.1 < p.2 ∧ p.2 < ns.length) {s : S} {Q : L → S → Prop} (q : Q (.sh (pairD p)) s) : wm (callN 2 F_pair_of [.dic (plD ns 0), npD ns p]) s Q := by
  refine w_call r_pair_of rfl ?_
  show ws m_pair_of ⟨[some (.sh (.dic (plD ns 0))), some (.sh (.tup [.str (ns.getD p.1 ⟨#[]⟩), .str (ns.getD p.2 ⟨#[]⟩)])), none, none, none], s.st⟩ _ _ _ _
  have y1 := y_ss
  have g1 := getD_mem (ns := ns) (i := p.1) (by omega)
  have g2 := getD_mem (ns := ns) (i := p.2) (by omega)
  have a1 := at_pl hn g1
  have a2 := at_pl hn g2
  generalize ns.getD p.1 ⟨#[]⟩ = x at g1 a1
  generalize ns.getD p.2 ⟨#[]⟩ = y at g2 a2
  unfold m_pair_of
  fail "SA"
  refine s_forL (l := [x, y]) (e := D.str) (fun i s' => ∃ o, s' = ⟨[some (.sh (.dic (plD ns 0))), some (.sh (.tup [.str x, .str y])), o, none, none], s.st⟩) ⟨none, rfl⟩ (fun i hi s' ⟨o, e⟩ => ?_) (fun s' ⟨o, e⟩ => ?_)
  · subst e
    have ha : ∃ k, atD (plD ns 0) (.str [x, y][i]) = some (some (.int (k : Nat))) := by
      match i, hi with
      | 0, _ => exact ⟨_, a1⟩
      | 1, _ => exact ⟨_, a2⟩
      | i + 2, hi => exact absurd hi (by simp)
    obtain ⟨k, ha⟩ := ha
    generalize [x, y][i] = z at ha
    fail "SA"
    refine w_inDT ha ?_
    fail "SA"
    exact ⟨_, rfl⟩
  · subst e
    fail "SA"
    refine w_ixD rfl a1 ?_
    fail "SA"
    refine w_ixD rfl a2 ?_
    fail "SA"
    rw [if_neg (show ¬ ((p.2 : Nat) : Int) < ((p.1 : Nat) : Int) by omega), if_pos (show ((p.2 : Nat) : Int) > ((p.1 : Nat) : Int) by omega)]
    exact q
theorem sp_cro {most : Nat} {ns : List Str} {ps : List (Nat × Nat)} (h : Cr most ns ps) (hm : most ≤ 12) {s : S} {Q : L → S → Prop} (q : Q (.oi false "Crossing" (crF ns ps)) s) : wm (makeM "Crossing" 2 F_CrossingI [nmD ns, .lst (ps.map (npD ns))]) s Q := by
  refine w_make r_CrossingI rfl ?_
  show ws m_CrossingI ⟨[some (.oi true "Crossing" []), some (.sh (.tup (ns.map D.str))), some (.sh (.lst (ps.map (npD ns)))), none, none, none], s.st⟩ _ _ _ _
  have y1 := y_ltl
  have y2 := y_ltt
  have y3 := y_tt
  have h1 := h.h1
  have h2 := h.h2
  have e1 : (ns.map D.str).length = ns.length := List.length_map ..
  have hpl := h.len
  have hpl2 : ns.length * ns.length ≤ 12 * 12 := Nat.mul_le_mul (by omega) (by omega)
  unfold m_CrossingI
  fail "SA"
  refine sp_places h.nd h.ok (by omega) ?_
  fail "SA"
  refine s_forL (fun i s' => ∃ o, s' = ⟨[some (.oi true "Crossing" []), some (.sh (.tup (ns.map D.str))), some (.sh (.lst (ps.map (npD ns)))), some (.sh (.dic (plD ns 0))), o, none], s.st⟩) ⟨none, rfl⟩ (fun i hi s' ⟨o, e⟩ => ?_) (fun s' ⟨o, e⟩ => ?_)
  · subst e
    unfold npD
    fail "SA"
    exact ⟨_, rfl⟩
  subst e
  fail "SA"
  refine s_forL (fun i s' => i ≤ ps.length ∧ ∃ o, s' = ⟨[some (.oi true "Crossing" []), some (.sh (.tup (ns.map D.str))), some (.sh (.lst (ps.map (npD ns)))), some (.sh (.dic (plD ns 0))), o, some (.od (pdD (ps.take i)))], s.st⟩) ⟨Nat.zero_le _, o, rfl⟩ (fun i hi s' ⟨hle, o, e⟩ => ?_) (fun s' ⟨hle, o, e⟩ => ?_)
  · subst e
    fail "SA"
    refine sp_pairof h.nd (h.lt _ (List.getElem_mem hi)) ?_
    fail "SA"
    have hni : ps[i] ∉ ps.take i := fun hm => by
      have hpw := h.so
      obtain ⟨j, hj⟩ := List.getElem?_of_mem hm
      rw [List.getElem?_take] at hj
      split at hj
      · rename_i hji
        obtain ⟨hj1, hj2⟩ := List.getElem?_eq_some_iff.mp hj
        have := List.pairwise_iff_getElem.mp hpw j i hj1 hi hji
        rw [hj2] at this
        unfold ltPr at this
        omega
      · cases hj
    refine s_opN rfl (put_pd (by rw [List.length_take]; omega)) (.s (.s (.s (.s (.s .z))))) ?_
    fail "SA"
    exact ⟨by omega, _, by rw [take_get hi, if_neg hni]⟩
  subst e
  rw [List.take_length]
  fail "SA"
  refine w_sortP rfl ?_
  rw [lexSort_pr h.so]
  fail "SA"
  exact q
theorem sp_made {most : Nat} {ns : List Str} {ps : List (Nat × Nat)} (h : Cr most ns ps) (hm : most ≤ 12) {s : S} {Q : L → S → Prop} (q : Q (.oi false "Crossing" (crF ns ps)) s) : wm (callN 1 F__law_made [crD ns ps]) s Q := by
  refine w_call r__law_made rfl ?_
  show ws m__law_made ⟨[some (.sh (crD ns ps)), none, none, none], s.st⟩ _ _ _ _
  have hpl := h.len
  have hpl2 : ns.length * ns.length ≤ 12 * 12 := Nat.mul_le_mul (by have := h.h2; omega) (by have := h.h2; omega)
  unfold m__law_made
  fail "SA"
  refine w_lcF (npD ns) rfl (by unfold lineN; omega) (fun p hp => ⟨_, rfl, rfl, ?_⟩) ?_
  · have hl := h.lt p hp
    fail "SA"
    refine w_ixW (.inr rfl) (atI_nat (by rw [List.getElem?_map, getD_mem (by omega)]; rfl)) ?_
    fail "SA"
    refine w_ixW (.inr rfl) (atI_nat (by rw [List.getElem?_map, getD_mem (by omega)]; rfl)) ?_
    fail "SA"
    exact ⟨rfl, rfl⟩
  fail "SA"
  exact sp_cro h hm q
open PyProof.Rows hiding pairD
/-! lots and phases -/
def lotsU : Nat → List (List Nat)
  | 0 => [[]]
  | n + 1 => lotsU n ++ (lotsU n).map (· ++ [n])
theorem lotsU_ok : ∀ {n : Nat} {l : List Nat}, l ∈ lotsU n → l.Pairwise (· < ·) ∧ (∀ a ∈ l, a < n) ∧ l.length ≤ n
  | 0, l, h => by rw [List.mem_singleton.mp h]; exact ⟨.nil, (fun a h => by cases h), Nat.le_refl _⟩
  | n + 1, l, h => by
    rcases List.mem_append.mp h with h | h
    · obtain ⟨h1, h2, h3⟩ := lotsU_ok h
      exact ⟨h1, fun a ha => by have := h2 a ha; omega, by omega⟩
    · obtain ⟨m, hm, rfl⟩ := List.mem_map.mp h
      obtain ⟨h1, h2, h3⟩ := lotsU_ok hm
      refine ⟨?_, fun a ha => ?_, by rw [List.length_append, List.length_singleton]; omega⟩
      · rw [List.pairwise_append]
        exact ⟨h1, by simp, fun a ha b hb => by rw [List.mem_singleton.mp hb]; exact h2 a ha⟩
      · rcases List.mem_append.mp ha with ha | ha
        · have := h2 a ha; omega
        · rw [List.mem_singleton.mp ha]; omega
theorem lotsU_len : ∀ n, (lotsU n).length = 2 ^ n
  | 0 => rfl
  | n + 1 => by show (lotsU n ++ (lotsU n).map (· ++ [n])).length = _; rw [List.length_append, List.length_map, lotsU_len n]; omega
theorem lotsU_hd : ∀ n, ∃ r, lotsU n = [] :: r
  | 0 => ⟨[], rfl⟩
  | n + 1 => by
    obtain ⟨r, e⟩ := lotsU_hd n
    exact ⟨r ++ (lotsU n).map (· ++ [n]), by show lotsU n ++ _ = _; rw [e]; rfl⟩
abbrev ltD (l : List Nat) : D := .tup (l.map nI)
def toI (l : List Nat) : List Int := l.map fun n => ((n : Nat) : Int)
theorem toI_D (l : List Nat) : tupD (toI l) = ltD l := by unfold tupD toI; rw [List.map_map]; rfl
/-- all lots, ascending -/
def LN (n : Nat) : List (List Nat) := (lexSort ((lotsU n).map toI)).map fun l => l.map Int.toNat
theorem toI_nat (l : List Nat) : (toI l).map Int.toNat = l := by unfold toI; rw [List.map_map]; exact (List.map_congr_left fun _ _ => rfl).trans (List.map_id l)
theorem mem_LN {n : Nat} {l : List Nat} : l ∈ LN n ↔ l ∈ lotsU n := by
  unfold LN
  rw [List.mem_map]
  constructor
  · rintro ⟨m, hm, rfl⟩
    obtain ⟨l, hl, rfl⟩ := List.mem_map.mp ((lexSort_perm _).mem_iff.mp hm)
    rw [toI_nat]; exact hl
  · intro h
    exact ⟨toI l, (lexSort_perm _).mem_iff.mpr (List.mem_map_of_mem h), toI_nat l⟩
theorem LN_D (n : Nat) : (lexSort ((lotsU n).map toI)).map tupD = (LN n).map ltD := by
  unfold LN
  rw [List.map_map]
  refine List.map_congr_left fun m hm => ?_
  obtain ⟨l, hl, rfl⟩ := List.mem_map.mp ((lexSort_perm _).mem_iff.mp hm)
  show tupD (toI l) = ltD ((toI l).map Int.toNat)
  rw [toI_nat, toI_D]
theorem LN_len (n : Nat) : (LN n).length = 2 ^ n := by unfold LN; rw [List.length_map, (lexSort_perm _).length_eq, List.length_map, lotsU_len]
theorem pow12 {i n : Nat} (h : i ≤ n) (hn : n ≤ 12) : 2 ^ i ≤ 4096 := Nat.pow_le_pow_right (by decide) (Nat.le_trans h hn)
theorem sp_lots {n : Nat} (hn : n ≤ 12) {s : S} {Q : L → S → Prop} (q : Q (.ol ((LN n).map ltD)) s) : wm (callN 1 F__law_all_lots [.int (n : Nat)]) s Q := by
  refine w_call r__law_all_lots rfl ?_
  show ws m__law_all_lots ⟨[some (.sh (.int (n : Nat))), none, none, none], s.st⟩ _ _ _ _
  unfold m__law_all_lots
  fail "SA"
  refine s_forR (n := n) (fun (i : Nat) (s' : S) => ∃ (o2 o3 : Option L), (i ≤ n) ∧ s' = ⟨[some (.sh (.int (n : Nat))), some (.sh (.lst ((lotsU i).map ltD))), o2, o3], s.st⟩) (by omega) ⟨none, none, Nat.zero_le _, rfl⟩ (fun i s' hi ⟨o2, o3, hl, hS⟩ => ?_) (fun s' ⟨o2, o3, hl, hS⟩ => ?_)
  · subst hS
    have hp := pow12 (i := i) (n := n) (by omega) hn
    have hll := lotsU_len i
    fail "SA"
    refine w_lcF (fun l : List Nat => ltD (l ++ [i])) rfl (by unfold lineN; omega) (fun l hl => ⟨_, rfl, rfl, ?_⟩) ?_
    · have := (lotsU_ok hl).2.2
      fail "SA"
      exact ⟨rfl, by show _ = D.tup ((l ++ [i]).map nI); rw [List.map_append]; rfl⟩
    fail "SA"
    refine w_addL (by rw [List.length_map, List.length_map]; omega) ?_
    fail "SA"
    exact ⟨_, _, by omega, by show _ = (⟨[_, some (.sh (.lst ((lotsU i ++ (lotsU i).map (· ++ [i])).map ltD))), _, _], _⟩ : S); rw [List.map_append, List.map_map]; rfl⟩
  · subst hS
    fail "SA"
    refine w_sortT (nss := (lotsU n).map toI) (by show D.lst _ = _; rw [List.map_map]; exact congrArg D.lst (List.map_congr_left fun l _ => (toI_D l).symm)) (by obtain ⟨r, e⟩ := lotsU_hd n; rw [e]; rfl) ?_
    rw [LN_D]
    exact q
def freeL (ps : List (Nat × Nat)) (lot : List Nat) : Bool := decide ((ps.filter fun p => decide (p.1 ∈ lot) && decide (p.2 ∈ lot)) = [])
theorem sp_free {ns : List Str} {ps : List (Nat × Nat)} (hp : ps.length ≤ 1000) {lot : List Nat} {s : S} {Q : L → S → Prop} (q : Q (.sh (.bl (freeL ps lot))) s) : wm (callN 2 F__law_is_free [crD ns ps, ltD lot]) s Q := by
  refine w_call r__law_is_free rfl ?_
  show ws m__law_is_free ⟨[some (.sh (crD ns ps)), some (.sh (ltD lot)), none], s.st⟩ _ _ _ _
  unfold m__law_is_free
  fail "SA"
  refine w_lcG (fun p : Nat × Nat => decide (p.1 ∈ lot) && decide (p.2 ∈ lot)) pairD rfl (by unfold lineN; omega) (fun p _ => ⟨_, rfl, rfl, ?_⟩) ?_
  · fail "SA"
    · refine ⟨rfl, by rw [decide_eq_true hc]; rfl, fun _ => ?_⟩
      fail "SA"
      exact ⟨rfl, rfl⟩
    · refine ⟨rfl, by rw [decide_eq_false hc]; rfl, fun _ => ?_⟩
      fail "SA"
      exact ⟨rfl, rfl⟩
  fail "SA"
  refine w_eqNp ?_
  fail "SA"
  exact q
theorem sp_phases {most : Nat} {ns : List Str} {ps : List (Nat × Nat)} (h : Cr most ns ps) (hm : most ≤ 12) {s : S} {Q : L → S → Prop} (q : Q (.ol (((LN ns.length).filter (freeL ps)).map ltD)) s) : wm (callN 1 F__law_phases [crD ns ps]) s Q := by
  refine w_call r__law_phases rfl ?_
  show ws m__law_phases ⟨[some (.sh (crD ns ps)), none], s.st⟩ _ _ _ _
  have e1 : (ns.map D.str).length = ns.length := List.length_map ..
  have hpl := h.len
  have h2 := h.h2
  have hpl2 : ns.length * ns.length ≤ 12 * 12 := Nat.mul_le_mul (by omega) (by omega)
  have hp := pow12 (i := ns.length) (n := most) h2 hm
  have hll := LN_len ns.length
  unfold m__law_phases
  fail "SA"
  rw [e1]
  refine sp_lots (by omega) ?_
  fail "SA"
  refine w_lcG (freeL ps) ltD rfl (by unfold lineN; omega) (fun l _ => ⟨_, rfl, rfl, ?_⟩) ?_
  · fail "SA"
    refine sp_free (by omega) ?_
    fail "SA"
    refine ⟨rfl, rfl, fun _ => ?_⟩
    fail "SA"
    exact ⟨rfl, rfl⟩
  fail "SA"
  exact q
end Kt

namespace Kt
open PySem PySem.Spec L2 Bv
set_option hygiene false
local macro_rules | `(tactic| fail "S1") => `(tactic| (first | with_reducible refine s_seq ?_ | with_reducible refine w_lc2S ?_ | with_reducible refine s_nil ?_ | with_reducible refine s_ag ?_ | with_reducible refine s_rt ?_ | with_reducible refine s_ex ?_ | with_reducible refine s_for ?_ | with_reducible refine s_par2 ?_ | with_reducible refine s_par3 ?_ | with_reducible refine w_pure ?_ | with_reducible refine w_dM ?_ | with_reducible refine w_sM ?_ | with_reducible refine w_th ?_ | with_reducible refine w_fn ?_ | with_reducible refine w_rg ?_ | with_reducible refine w_it ?_ | with_reducible refine w_nil ?_ | with_reducible refine w_cons ?_ | with_reducible refine w_bin2 ?_ | with_reducible refine w_addI ?_ | with_reducible refine w_subI ?_ | with_reducible refine w_ltI ?_ | with_reducible refine w_leI ?_ | with_reducible refine w_gtI ?_ | with_reducible refine w_geI ?_ | with_reducible refine w_eqS ?_ | with_reducible refine w_neS ?_ | with_reducible refine w_eqI ?_ | with_reducible refine w_neI ?_ | with_reducible refine w_int ?_ | with_reducible refine w_ixM ?_ | with_reducible refine w_cmpT ?_ | with_reducible refine w_notT ?_ | with_reducible refine w_blT ?_ | with_reducible refine w_yes ?_ | with_reducible refine w_chM ?_ | with_reducible refine w_lcS ?_ | with_reducible refine w_itL ?_ | with_reducible refine w_ix0T ?_ | with_reducible refine w_ix0L ?_ | with_reducible refine w_ix0O ?_ | with_reducible refine w_ix1T ?_ | with_reducible refine w_ix1L ?_ | with_reducible refine w_ix1O ?_ | with_reducible refine w_ix2T ?_ | with_reducible refine w_ix2L ?_ | with_reducible refine w_ix2O ?_ | with_reducible refine w_ix3T ?_ | with_reducible refine w_ix3L ?_ | with_reducible refine w_ix3O ?_ | with_reducible refine w_itT ?_ | with_reducible refine w_itC ?_ | with_reducible refine w_lstS ?_ | with_reducible refine w_lstL ?_ | with_reducible refine w_lstT ?_ | with_reducible refine w_lstO ?_ | with_reducible refine w_tupT ?_ | with_reducible refine w_tupL ?_ | with_reducible refine w_tupO ?_ | with_reducible refine w_dd ?_ | with_reducible refine s_asT1 ?_ | with_reducible refine s_stS ?_ | with_reducible refine w_max2 ?_ | with_reducible refine w_min2 ?_ | with_reducible refine s_asT0 ?_ | with_reducible refine w_gcd ?_ | with_reducible refine w_idxM ?_ | with_reducible refine w_enW ?_ | with_reducible refine w_enT ?_ | with_reducible refine w_zpL ?_ | with_reducible refine w_zpT ?_ | with_reducible refine w_rgOf ?_ | with_reducible refine w_rgOf2 ?_ | with_reducible refine w_inN ?_ | with_reducible refine w_inLs ?_ | with_reducible refine w_inLo ?_ | with_reducible refine w_dcS ?_ | with_reducible refine w_inK ?_ | with_reducible refine w_noP ?_ | with_reducible refine w_soP ?_ | with_reducible refine w_slM ?_ | with_reducible refine s_op ?_ | with_reducible refine w_inLd ?_ | with_reducible refine w_itS ?_ | with_reducible refine w_joM ?_ | with_reducible refine w_inLF ?_ | with_reducible refine w_inLT ?_ | with_reducible refine w_inPF ?_ | with_reducible refine w_cmLs ?_ | with_reducible refine w_cmLns ?_ | with_reducible refine w_cmLo ?_ | with_reducible refine w_cmLno ?_ | with_reducible refine w_eqOl ?_ | with_reducible refine w_eqOt ?_ | with_reducible refine w_eqOi ?_ | with_reducible refine w_eqOb ?_ | with_reducible refine w_eqOs ?_ | with_reducible refine w_neOl ?_ | with_reducible refine w_neOt ?_ | with_reducible refine w_neOi ?_ | with_reducible refine w_neOb ?_ | with_reducible refine w_neOs ?_ | ((with_reducible apply w_esc); (focus exact rfl)) | ((with_reducible apply w_sl); (focus exact rfl)) | ((with_reducible apply s_asN); (focus (repeat (first | exact SetAt.z | apply SetAt.s)))) | ((with_reducible apply w_ixN); (focus exact rfl)) | ((with_reducible apply w_slN); (focus exact rfl)) | ((with_reducible apply w_slL); (focus exact rfl)) | ((with_reducible apply w_slT); (focus exact rfl)) | ((with_reducible apply w_escO); (focus exact rfl); (focus (repeat (first | exact SetAt.z | apply SetAt.s)))) | ((with_reducible apply w_mv); (focus exact rfl); (focus (repeat (first | exact SetAt.z | apply SetAt.s)))) | ((with_reducible refine w_modI ?_ ?_); (focus first | omega | decide)) | ((with_reducible refine w_fdvI ?_ ?_ ?_); (focus first | omega | decide); (focus first | omega | decide)) | ((with_reducible refine w_powI ?_ ?_); (focus decide)) | ((with_reducible refine w_mulI ?_ ?_); (focus first | exact .inr (by decide) | exact .inl (by decide) | exact .inr (by constructor <;> omega) | exact .inl (by constructor <;> omega))) | ((with_reducible apply w_app); (focus exact rfl)) | ((with_reducible apply w_cmN); (focus exact rfl)) | ((with_reducible apply w_appN); (focus exact rfl); (focus first | decide | (simp only [List.length_cons, List.length_nil]; decide)); (focus (repeat (first | exact SetAt.z | apply SetAt.s)))) | ((with_reducible apply w_isi); (focus exact rfl); (focus assumption)) | ((with_reducible apply w_isF); (focus exact rfl)) | ((with_reducible apply w_isN); (focus exact rfl)) | ((with_reducible apply w_fldS); (focus exact rfl)) | ((with_reducible apply s_stN); (focus exact rfl); (focus exact Nat.le_of_ble_eq_true rfl); (focus (repeat (first | exact SetAt.z | apply SetAt.s)))) | ((with_reducible apply w_fldO); (focus exact rfl)) | ((with_reducible refine w_rg1 ?_ ?_); (focus first | (constructor <;> omega) | decide)) | ((with_reducible refine w_rg2 ?_ ?_); (focus first | (refine ⟨?_, ?_, ?_, ?_⟩ <;> omega) | decide)) | ((with_reducible refine w_rgW ?_ ?_); (focus constructor <;> omega)) | ((with_reducible refine w_rgW2 ?_ ?_); (focus refine ⟨⟨?_, ?_⟩, ⟨?_, ?_⟩, ?_⟩ <;> omega)) | ((with_reducible refine w_addT ?_ ?_); (focus (simp only [List.length_map, List.length_replicate, List.length_cons, List.length_nil, List.length_range]; unfold lineN; omega))) | ((with_reducible refine w_mul1 ?_ ?_); (focus constructor <;> omega)) | ((with_reducible refine w_tup ?_ ?_); (focus exact Nat.le_of_ble_eq_true rfl)) | ((with_reducible refine w_lst ?_ ?_); (focus exact Nat.le_of_ble_eq_true rfl)) | ((with_reducible refine w_pen_at ?_ ?_); (focus exact rfl)) | ((with_reducible refine s_pen_at ?_ ?_ ?_); (focus exact rfl); (focus exact rfl)) | ((with_reducible refine w_pen_digits ?_ ?_); (focus exact rfl)) | ((with_reducible refine s_pen_digits ?_ ?_); (focus exact rfl)) | ((with_reducible refine w_pen_count ?_ ?_); (focus exact rfl)) | ((with_reducible refine s_pen_count ?_ ?_); (focus exact rfl)) | ((with_reducible refine w_pen_fold ?_ ?_); (focus exact rfl)) | ((with_reducible refine s_pen_fold ?_ ?_); (focus exact rfl)) | ((with_reducible refine w_pen_cells ?_ ?_); (focus exact rfl)) | with_reducible refine s_dp ?_ | with_reducible refine if_not ?_ | with_reducible refine if_tt ?_ | with_reducible refine if_ff ?_ | ((with_reducible refine if_decT ?_ ?_); (focus first | omega | (simp only [List.length_cons, List.length_nil]; omega))) | ((with_reducible refine if_decF ?_ ?_); (focus first | omega | (simp only [List.length_cons, List.length_nil]; omega))) | with_reducible refine if_dec (fun hc => ?_) (fun hc => ?_) | with_reducible refine s_if ?_ | with_reducible refine w_andT ?_ | with_reducible refine w_orT ?_ | with_reducible refine w_andM ?_ | with_reducible refine w_orM ?_ | with_reducible refine w_notM ?_ | with_reducible refine w_ifM ?_ | with_reducible refine w_truT ?_ | with_reducible refine w_negI ?_ | with_reducible refine ex_truB ?_ | with_reducible refine ⟨_, rfl, ?_⟩ | dsimp only [L.d] | ((with_reducible refine if_t ?_ ?_); (focus exact rfl)) | ((with_reducible refine if_f ?_ ?_); (focus exact rfl)) | ((with_reducible apply w_len); (focus exact .inl rfl)) | ((with_reducible apply w_len); (focus exact .inr rfl))))
local macro_rules | `(tactic| fail "SA") => `(tactic| (repeat' fail "S1"))
local macro_rules | `(tactic| fail "SR") => `(tactic| (repeat fail "S1"))
set_option hygiene true
open PyProof.Rows hiding pairD
/-! lots in order -/
def leL (a b : List Nat) : Prop := HT.lexLt (toI b) (toI a) = false
theorem toI_inj {a b : List Nat} (h : toI a = toI b) : a = b := by rw [← toI_nat a, h, toI_nat]
theorem leL_asymm {a b : List Nat} (h1 : leL a b) (h2 : leL b a) : a = b := toI_inj (lex_total _ _ h2 h1)
theorem leL_nil (a : List Nat) : leL [] a := by
  unfold leL
  cases a with
  | nil => exact HT.lexLt_nil_nil
  | cons x r => exact HT.lexLt_cons_nil _ _
theorem leL_cons {k : Nat} {a b : List Nat} (h : leL a b) : leL (k :: a) (k :: b) := by
  unfold leL at h ⊢
  show HT.lexLt ((k : Int) :: toI b) ((k : Int) :: toI a) = false
  rw [HT.lexLt_cons, if_pos rfl]
  exact h
theorem leL_lt {k j : Nat} {a b : List Nat} (h : k < j) : leL (k :: a) (j :: b) := by
  unfold leL
  show HT.lexLt ((j : Int) :: toI b) ((k : Int) :: toI a) = false
  rw [HT.lexLt_cons, if_neg (by omega)]
  exact decide_eq_false (by omega)
theorem LN_le (n : Nat) : (LN n).Pairwise leL := by
  unfold LN
  rw [List.pairwise_map]
  refine List.Pairwise.imp_of_mem (fun {a b} ha hb h => ?_) (lexSort_le _)
  obtain ⟨l, _, rfl⟩ := List.mem_map.mp ((lexSort_perm _).mem_iff.mp ha)
  obtain ⟨m, _, rfl⟩ := List.mem_map.mp ((lexSort_perm _).mem_iff.mp hb)
  unfold leL
  rw [toI_nat, toI_nat]
  exact h
theorem lotsU_nd : ∀ n, (lotsU n).Nodup
  | 0 => by simp [lotsU]
  | n + 1 => by
    show (lotsU n ++ (lotsU n).map (· ++ [n])).Nodup
    rw [List.nodup_append]
    refine ⟨lotsU_nd n, ?_, fun a ha b hb e => ?_⟩
    · unfold List.Nodup
      rw [List.pairwise_map]
      exact (lotsU_nd n).imp fun h e => h (List.append_cancel_right e)
    · obtain ⟨c, _, rfl⟩ := List.mem_map.mp hb
      have := (lotsU_ok ha).2.1 n (by rw [e]; simp)
      omega
theorem LN_nd (n : Nat) : (LN n).Nodup := by
  unfold LN List.Nodup
  rw [List.pairwise_map]
  have h : (lexSort ((lotsU n).map toI)).Nodup := (lexSort_perm _).nodup_iff.mpr (by
    unfold List.Nodup
    rw [List.pairwise_map]
    exact (lotsU_nd n).imp fun h e => h (toI_inj e))
  refine List.Pairwise.imp_of_mem (fun {a b} ha hb h e => h ?_) h
  obtain ⟨l, _, rfl⟩ := List.mem_map.mp ((lexSort_perm _).mem_iff.mp ha)
  obtain ⟨m, _, rfl⟩ := List.mem_map.mp ((lexSort_perm _).mem_iff.mp hb)
  rw [toI_nat, toI_nat] at e
  rw [e]
theorem same_lots {A B : List (List Nat)} (a : A.Pairwise leL) (b : B.Pairwise leL) (na : A.Nodup) (nb : B.Nodup) (h : ∀ l, l ∈ A ↔ l ∈ B) : A = B :=
  ((List.perm_ext_iff_of_nodup na nb).mpr h).eq_of_pairwise (fun _ _ _ _ h1 h2 => leL_asymm h1 h2) a b
theorem mem_lotsU {n : Nat} {l : List Nat} : l ∈ lotsU n ↔ l.Pairwise (· < ·) ∧ ∀ a ∈ l, a < n := by
  constructor
  · intro h; exact ⟨(lotsU_ok h).1, (lotsU_ok h).2.1⟩
  · induction n generalizing l with
    | zero =>
      rintro ⟨_, h⟩
      cases l with
      | nil => simp [lotsU]
      | cons a r => exact absurd (h a (by simp)) (by omega)
    | succ n ih =>
      rintro ⟨h1, h2⟩
      show l ∈ lotsU n ++ (lotsU n).map (· ++ [n])
      rw [List.mem_append]
      by_cases hn : n ∈ l
      · right
        have hne : l ≠ [] := fun z => by rw [z] at hn; cases hn
        have e := List.dropLast_concat_getLast hne
        have hlast : l.getLast hne = n := by
          have hm := h2 _ (List.getLast_mem hne)
          rcases Nat.lt_or_ge (l.getLast hne) n with z | z
          · rw [← e] at hn h1
            rcases List.mem_append.mp hn with hn | hn
            · have := (List.pairwise_append.mp h1).2.2 n hn _ (List.mem_singleton.mpr rfl)
              omega
            · rw [List.mem_singleton.mp hn] at z; omega
          · omega
        rw [hlast] at e
        refine List.mem_map.mpr ⟨l.dropLast, ih ⟨?_, fun a ha => ?_⟩, e⟩
        · rw [← e] at h1; exact (List.pairwise_append.mp h1).1
        · rw [← e] at h1; exact (List.pairwise_append.mp h1).2.2 a ha n (List.mem_singleton.mpr rfl)
      · left
        refine ih ⟨h1, fun a ha => ?_⟩
        have := h2 a ha
        have : a ≠ n := fun z => hn (z ▸ ha)
        omega
/-- the lots that no pair of bs bars, least members last -/
def fB (bs : List (Nat × Nat)) (k : Nat) (lot : List Nat) : Bool := !lot.any fun o => decide ((k, o) ∈ bs)
def G (bs : List (Nat × Nat)) (n : Nat) : Nat → List (List Nat)
  | 0 => [[]]
  | j + 1 => [[]] ++ ((G bs n j).filter (fB bs (n - 1 - j))).map ((n - 1 - j) :: ·) ++ (G bs n j).tail
theorem G_hd (bs : List (Nat × Nat)) (n : Nat) : ∀ j, ∃ r, G bs n j = [] :: r
  | 0 => ⟨[], rfl⟩
  | j + 1 => ⟨_, rfl⟩
def okP (bs : List (Nat × Nat)) (l : List Nat) : Prop := l.Pairwise fun a b => a < b ∧ (a, b) ∉ bs
theorem fB_iff {bs : List (Nat × Nat)} {k : Nat} {l : List Nat} : fB bs k l = true ↔ ∀ o ∈ l, (k, o) ∉ bs := by
  unfold fB
  rw [Bool.not_eq_true', List.any_eq_false]
  exact ⟨fun h o ho z => h o ho (by simpa using z), fun h o ho z => h o ho (by simpa using z)⟩
theorem mem_G {bs : List (Nat × Nat)} {n : Nat} : ∀ {j : Nat}, j ≤ n → ∀ {l : List Nat}, l ∈ G bs n j ↔ okP bs l ∧ ∀ a ∈ l, n - j ≤ a ∧ a < n
  | 0, _, l => by
    show l ∈ [[]] ↔ _
    rw [List.mem_singleton]
    constructor
    · rintro rfl; exact ⟨.nil, fun a h => by cases h⟩
    · rintro ⟨_, h⟩
      cases l with
      | nil => rfl
      | cons a r => have := h a (by simp); omega
  | j + 1, hj, l => by
    obtain ⟨r, e⟩ := G_hd bs n j
    have ih := fun l => mem_G (bs := bs) (n := n) (j := j) (by omega) (l := l)
    have ht : l ∈ (G bs n j).tail ∨ l = [] ↔ l ∈ G bs n j := by
      rw [e, List.tail_cons, List.mem_cons]
      exact ⟨fun h => h.elim .inr .inl, fun h => h.elim .inr .inl⟩
    show l ∈ [[]] ++ ((G bs n j).filter (fB bs (n - 1 - j))).map ((n - 1 - j) :: ·) ++ (G bs n j).tail ↔ _
    rw [List.mem_append, List.mem_append, List.mem_singleton]
    constructor
    · rintro ((rfl | h) | h)
      · exact ⟨.nil, fun a h => by cases h⟩
      · obtain ⟨m, hm, rfl⟩ := List.mem_map.mp h
        obtain ⟨h1, h2⟩ := List.mem_filter.mp hm
        obtain ⟨h3, h4⟩ := (ih m).mp h1
        refine ⟨List.pairwise_cons.mpr ⟨fun a ha => ⟨by have := h4 a ha; omega, fB_iff.mp h2 a ha⟩, h3⟩, fun a ha => ?_⟩
        rcases List.mem_cons.mp ha with rfl | ha
        · omega
        · have := h4 a ha; omega
      · obtain ⟨h3, h4⟩ := (ih l).mp (ht.mp (.inl h))
        exact ⟨h3, fun a ha => by have := h4 a ha; omega⟩
    · rintro ⟨h1, h2⟩
      cases l with
      | nil => exact .inl (.inl rfl)
      | cons a m =>
        obtain ⟨h3, h4⟩ := List.pairwise_cons.mp h1
        have ha := h2 a (by simp)
        by_cases z : a = n - 1 - j
        · subst z
          refine .inl (.inr (List.mem_map.mpr ⟨m, List.mem_filter.mpr ⟨(ih m).mpr ⟨h4, fun b hb => ?_⟩, fB_iff.mpr fun o ho => (h3 o ho).2⟩, rfl⟩))
          have := (h3 b hb).1
          have := h2 b (by simp [hb])
          omega
        · refine .inr ((ht.mpr ((ih (a :: m)).mpr ⟨h1, fun b hb => ?_⟩)).resolve_right (by simp))
          have := h2 b hb
          rcases List.mem_cons.mp hb with rfl | hb
          · omega
          · have := (h3 b hb).1; omega
theorem G_le (bs : List (Nat × Nat)) {n : Nat} : ∀ {j : Nat}, j ≤ n → (G bs n j).Pairwise leL ∧ (G bs n j).Nodup
  | 0, _ => ⟨List.pairwise_singleton _ _, by show List.Nodup [_]; simp⟩
  | j + 1, hj => by
    obtain ⟨r, e⟩ := G_hd bs n j
    obtain ⟨h1, h2⟩ := G_le bs (n := n) (j := j) (by omega)
    have hr : ∀ l ∈ r, ∃ a m, l = a :: m ∧ n - j ≤ a := fun l hl => by
      have hl2 : l ∈ G bs n j := by rw [e]; exact List.mem_cons_of_mem _ hl
      cases l with
      | nil => rw [e] at h2; exact absurd hl (List.nodup_cons.mp h2).1
      | cons a m => exact ⟨a, m, rfl, ((mem_G (by omega)).mp hl2).2 a (by simp) |>.1⟩
    show ([[]] ++ ((G bs n j).filter (fB bs (n - 1 - j))).map ((n - 1 - j) :: ·) ++ (G bs n j).tail).Pairwise leL ∧ List.Nodup ([[]] ++ ((G bs n j).filter (fB bs (n - 1 - j))).map ((n - 1 - j) :: ·) ++ (G bs n j).tail)
    have et : (G bs n j).tail = r := by rw [e]; rfl
    rw [et]
    have hr1 : r.Pairwise leL := by rw [e] at h1; exact (List.pairwise_cons.mp h1).2
    have hr2 : r.Nodup := by rw [e] at h2; exact (List.nodup_cons.mp h2).2
    constructor
    · rw [List.append_assoc, List.singleton_append, List.pairwise_cons, List.pairwise_append]
      refine ⟨fun a _ => leL_nil a, ?_, hr1, fun a ha b hb => ?_⟩
      · rw [List.pairwise_map]
        exact (h1.filter _).imp fun h => leL_cons h
      · obtain ⟨m, _, rfl⟩ := List.mem_map.mp ha
        obtain ⟨c, d, rfl, hc⟩ := hr b hb
        exact leL_lt (by omega)
    · rw [List.append_assoc, List.singleton_append, List.nodup_cons, List.nodup_append]
      refine ⟨fun h => ?_, ?_, hr2, fun a ha b hb z => ?_⟩
      · rcases List.mem_append.mp h with h | h
        · obtain ⟨m, _, z⟩ := List.mem_map.mp h; cases z
        · obtain ⟨c, d, z, _⟩ := hr _ h; cases z
      · unfold List.Nodup
        rw [List.pairwise_map]
        exact (h2.filter _).imp fun h z => h (List.cons.inj z).2
      · obtain ⟨m, _, rfl⟩ := List.mem_map.mp ha
        obtain ⟨c, d, rfl, hc⟩ := hr b hb
        have := (List.cons.inj z).1
        omega
theorem free_okP {ps : List (Nat × Nat)} (h : ∀ p ∈ ps, p.1 < p.2) {l : List Nat} (hl : l.Pairwise (· < ·)) : freeL ps l = true ↔ okP ps l := by
  unfold freeL okP
  rw [decide_eq_true_eq, List.filter_eq_nil_iff]
  constructor
  · intro hf
    refine List.Pairwise.imp_of_mem (fun {a b} ha hb hab => ⟨hab, fun hm => hf (a, b) hm ?_⟩) hl
    simp [ha, hb]
  · intro hp p hm hz
    have hz : p.1 ∈ l ∧ p.2 ∈ l := by simpa using hz
    have hlt := h p hm
    have : ∀ {l : List Nat}, okP ps l → l.Pairwise (· < ·) → p.1 ∈ l → p.2 ∈ l → False := by
      intro l
      induction l with
      | nil => intro _ _ h; cases h
      | cons a r ih =>
        intro h1 h2 m1 m2
        obtain ⟨g1, g2⟩ := List.pairwise_cons.mp h1
        obtain ⟨k1, k2⟩ := List.pairwise_cons.mp h2
        rcases List.mem_cons.mp m1 with e1 | m1
        · rcases List.mem_cons.mp m2 with e2 | m2
          · omega
          · exact (g1 _ m2).2 (by rw [← e1]; exact hm)
        · rcases List.mem_cons.mp m2 with e2 | m2
          · have := k1 _ m1; omega
          · exact ih g2 k2 m1 m2
    exact this hp hl hz.1 hz.2
theorem okP_lt {bs : List (Nat × Nat)} {l : List Nat} (h : okP bs l) : l.Pairwise (· < ·) := h.imp fun h => h.1
/-- the program's lots are the law's -/
theorem G_LN {ps : List (Nat × Nat)} {n : Nat} (h : ∀ p ∈ ps, p.1 < p.2) : G ps n n = (LN n).filter (freeL ps) := by
  obtain ⟨h1, h2⟩ := G_le ps (n := n) (j := n) (Nat.le_refl _)
  refine same_lots h1 ((LN_le n).filter _) h2 ((LN_nd n).filter _) fun l => ?_
  rw [mem_G (Nat.le_refl _), List.mem_filter, mem_LN, mem_lotsU]
  constructor
  · rintro ⟨g1, g2⟩
    exact ⟨⟨okP_lt g1, fun a ha => (g2 a ha).2⟩, (free_okP h (okP_lt g1)).mpr g1⟩
  · rintro ⟨⟨g1, g2⟩, g3⟩
    exact ⟨(free_okP h g1).mp g3, fun a ha => ⟨by omega, g2 a ha⟩⟩
end Kt

namespace Kt
open PySem PySem.Spec L2 Bv
set_option hygiene false
local macro_rules | `(tactic| fail "S1") => `(tactic| (first | with_reducible refine s_seq ?_ | with_reducible refine w_lc2S ?_ | with_reducible refine s_nil ?_ | with_reducible refine s_ag ?_ | with_reducible refine s_rt ?_ | with_reducible refine s_ex ?_ | with_reducible refine s_for ?_ | with_reducible refine s_par2 ?_ | with_reducible refine s_par3 ?_ | with_reducible refine w_pure ?_ | with_reducible refine w_dM ?_ | with_reducible refine w_sM ?_ | with_reducible refine w_th ?_ | with_reducible refine w_fn ?_ | with_reducible refine w_rg ?_ | with_reducible refine w_it ?_ | with_reducible refine w_nil ?_ | with_reducible refine w_cons ?_ | with_reducible refine w_bin2 ?_ | with_reducible refine w_addI ?_ | with_reducible refine w_subI ?_ | with_reducible refine w_ltI ?_ | with_reducible refine w_leI ?_ | with_reducible refine w_gtI ?_ | with_reducible refine w_geI ?_ | with_reducible refine w_eqS ?_ | with_reducible refine w_neS ?_ | with_reducible refine w_eqI ?_ | with_reducible refine w_neI ?_ | with_reducible refine w_int ?_ | with_reducible refine w_ixM ?_ | with_reducible refine w_cmpT ?_ | with_reducible refine w_notT ?_ | with_reducible refine w_blT ?_ | with_reducible refine w_yes ?_ | with_reducible refine w_chM ?_ | with_reducible refine w_lcS ?_ | with_reducible refine w_itL ?_ | with_reducible refine w_ix0T ?_ | with_reducible refine w_ix0L ?_ | with_reducible refine w_ix0O ?_ | with_reducible refine w_ix1T ?_ | with_reducible refine w_ix1L ?_ | with_reducible refine w_ix1O ?_ | with_reducible refine w_ix2T ?_ | with_reducible refine w_ix2L ?_ | with_reducible refine w_ix2O ?_ | with_reducible refine w_ix3T ?_ | with_reducible refine w_ix3L ?_ | with_reducible refine w_ix3O ?_ | with_reducible refine w_itT ?_ | with_reducible refine w_itC ?_ | with_reducible refine w_lstS ?_ | with_reducible refine w_lstL ?_ | with_reducible refine w_lstT ?_ | with_reducible refine w_lstO ?_ | with_reducible refine w_tupT ?_ | with_reducible refine w_tupL ?_ | with_reducible refine w_tupO ?_ | with_reducible refine w_dd ?_ | with_reducible refine s_asT1 ?_ | with_reducible refine s_stS ?_ | with_reducible refine w_max2 ?_ | with_reducible refine w_min2 ?_ | with_reducible refine s_asT0 ?_ | with_reducible refine w_gcd ?_ | with_reducible refine w_idxM ?_ | with_reducible refine w_enW ?_ | with_reducible refine w_enT ?_ | with_reducible refine w_zpL ?_ | with_reducible refine w_zpT ?_ | with_reducible refine w_rgOf ?_ | with_reducible refine w_rgOf2 ?_ | with_reducible refine w_inN ?_ | with_reducible refine w_inLs ?_ | with_reducible refine w_inLo ?_ | with_reducible refine w_dcS ?_ | with_reducible refine w_inK ?_ | with_reducible refine w_noP ?_ | with_reducible refine w_soP ?_ | with_reducible refine w_slM ?_ | with_reducible refine s_op ?_ | with_reducible refine w_inLd ?_ | with_reducible refine w_itS ?_ | with_reducible refine w_joM ?_ | with_reducible refine w_inLF ?_ | with_reducible refine w_inLT ?_ | with_reducible refine w_inPF ?_ | with_reducible refine w_cmLs ?_ | with_reducible refine w_cmLns ?_ | with_reducible refine w_cmLo ?_ | with_reducible refine w_cmLno ?_ | with_reducible refine w_eqOl ?_ | with_reducible refine w_eqOt ?_ | with_reducible refine w_eqOi ?_ | with_reducible refine w_eqOb ?_ | with_reducible refine w_eqOs ?_ | with_reducible refine w_neOl ?_ | with_reducible refine w_neOt ?_ | with_reducible refine w_neOi ?_ | with_reducible refine w_neOb ?_ | with_reducible refine w_neOs ?_ | ((with_reducible apply w_esc); (focus exact rfl)) | ((with_reducible apply w_sl); (focus exact rfl)) | ((with_reducible apply s_asN); (focus (repeat (first | exact SetAt.z | apply SetAt.s)))) | ((with_reducible apply w_ixN); (focus exact rfl)) | ((with_reducible apply w_slN); (focus exact rfl)) | ((with_reducible apply w_slL); (focus exact rfl)) | ((with_reducible apply w_slT); (focus exact rfl)) | ((with_reducible apply w_escO); (focus exact rfl); (focus (repeat (first | exact SetAt.z | apply SetAt.s)))) | ((with_reducible apply w_mv); (focus exact rfl); (focus (repeat (first | exact SetAt.z | apply SetAt.s)))) | ((with_reducible refine w_modI ?_ ?_); (focus first | omega | decide)) | ((with_reducible refine w_fdvI ?_ ?_ ?_); (focus first | omega | decide); (focus first | omega | decide)) | ((with_reducible refine w_powI ?_ ?_); (focus decide)) | ((with_reducible refine w_mulI ?_ ?_); (focus first | exact .inr (by decide) | exact .inl (by decide) | exact .inr (by constructor <;> omega) | exact .inl (by constructor <;> omega))) | ((with_reducible apply w_app); (focus exact rfl)) | ((with_reducible apply w_cmN); (focus exact rfl)) | ((with_reducible apply w_appN); (focus exact rfl); (focus first | decide | (simp only [List.length_cons, List.length_nil]; decide)); (focus (repeat (first | exact SetAt.z | apply SetAt.s)))) | ((with_reducible apply w_isi); (focus exact rfl); (focus assumption)) | ((with_reducible apply w_isF); (focus exact rfl)) | ((with_reducible apply w_isN); (focus exact rfl)) | ((with_reducible apply w_fldS); (focus exact rfl)) | ((with_reducible apply s_stN); (focus exact rfl); (focus exact Nat.le_of_ble_eq_true rfl); (focus (repeat (first | exact SetAt.z | apply SetAt.s)))) | ((with_reducible apply w_fldO); (focus exact rfl)) | ((with_reducible refine w_rg1 ?_ ?_); (focus first | (constructor <;> omega) | decide)) | ((with_reducible refine w_rg2 ?_ ?_); (focus first | (refine ⟨?_, ?_, ?_, ?_⟩ <;> omega) | decide)) | ((with_reducible refine w_rgW ?_ ?_); (focus constructor <;> omega)) | ((with_reducible refine w_rgW2 ?_ ?_); (focus refine ⟨⟨?_, ?_⟩, ⟨?_, ?_⟩, ?_⟩ <;> omega)) | ((with_reducible refine w_addT ?_ ?_); (focus (simp only [List.length_map, List.length_replicate, List.length_cons, List.length_nil, List.length_range]; unfold lineN; omega))) | ((with_reducible refine w_mul1 ?_ ?_); (focus constructor <;> omega)) | ((with_reducible refine w_tup ?_ ?_); (focus exact Nat.le_of_ble_eq_true rfl)) | ((with_reducible refine w_lst ?_ ?_); (focus exact Nat.le_of_ble_eq_true rfl)) | ((with_reducible refine w_pen_at ?_ ?_); (focus exact rfl)) | ((with_reducible refine s_pen_at ?_ ?_ ?_); (focus exact rfl); (focus exact rfl)) | ((with_reducible refine w_pen_digits ?_ ?_); (focus exact rfl)) | ((with_reducible refine s_pen_digits ?_ ?_); (focus exact rfl)) | ((with_reducible refine w_pen_count ?_ ?_); (focus exact rfl)) | ((with_reducible refine s_pen_count ?_ ?_); (focus exact rfl)) | ((with_reducible refine w_pen_fold ?_ ?_); (focus exact rfl)) | ((with_reducible refine s_pen_fold ?_ ?_); (focus exact rfl)) | ((with_reducible refine w_pen_cells ?_ ?_); (focus exact rfl)) | with_reducible refine s_dp ?_ | with_reducible refine if_not ?_ | with_reducible refine if_tt ?_ | with_reducible refine if_ff ?_ | ((with_reducible refine if_decT ?_ ?_); (focus first | omega | (simp only [List.length_cons, List.length_nil]; omega))) | ((with_reducible refine if_decF ?_ ?_); (focus first | omega | (simp only [List.length_cons, List.length_nil]; omega))) | with_reducible refine if_dec (fun hc => ?_) (fun hc => ?_) | with_reducible refine s_if ?_ | with_reducible refine w_andT ?_ | with_reducible refine w_orT ?_ | with_reducible refine w_andM ?_ | with_reducible refine w_orM ?_ | with_reducible refine w_notM ?_ | with_reducible refine w_ifM ?_ | with_reducible refine w_truT ?_ | with_reducible refine w_negI ?_ | with_reducible refine ex_truB ?_ | with_reducible refine ⟨_, rfl, ?_⟩ | dsimp only [L.d] | ((with_reducible refine if_t ?_ ?_); (focus exact rfl)) | ((with_reducible refine if_f ?_ ?_); (focus exact rfl)) | ((with_reducible apply w_len); (focus exact .inl rfl)) | ((with_reducible apply w_len); (focus exact .inr rfl))))
local macro_rules | `(tactic| fail "SA") => `(tactic| (repeat' fail "S1"))
local macro_rules | `(tactic| fail "SR") => `(tactic| (repeat fail "S1"))
set_option hygiene true
open PyProof.Rows hiding pairD
/-! greatest lots; cliques -/
def sN (l : List Nat) : List Nat := (sortI (l.map fun a => ((a : Nat) : Int))).map Int.toNat
theorem sN_I (l : List Nat) : sortI (l.map fun a => ((a : Nat) : Int)) = (sN l).map fun a => ((a : Nat) : Int) := by
  unfold sN
  rw [List.map_map]
  refine ((List.map_congr_left fun i hi => ?_).trans (List.map_id _)).symm
  obtain ⟨a, _, rfl⟩ := List.mem_map.mp ((sortI_perm _).mem_iff.mp hi)
  show ((((a : Nat) : Int).toNat : Nat) : Int) = _
  simp
theorem sN_D (l : List Nat) : (sortI (l.map fun a => ((a : Nat) : Int))).map D.int = (sN l).map nI := by rw [sN_I, List.map_map]; rfl
theorem sN_perm (l : List Nat) : (sN l).Perm l := by
  have h := (sortI_perm (l.map fun a => ((a : Nat) : Int))).map Int.toNat
  rw [List.map_map] at h
  refine h.trans (List.Perm.of_eq ?_)
  exact (List.map_congr_left fun a _ => by show ((a : Nat) : Int).toNat = a; simp).trans (List.map_id _)
theorem sN_lt {l : List Nat} (h : l.Nodup) : (sN l).Pairwise (· < ·) := by
  have h1 := sortI_le (l.map fun a => ((a : Nat) : Int))
  rw [sN_I, List.pairwise_map] at h1
  have h2 : (sN l).Nodup := (sN_perm l).nodup_iff.mpr h
  exact (h1.and h2).imp fun h => by have := h.1; have := h.2; omega
theorem okP_pair {bs : List (Nat × Nat)} : ∀ {l : List Nat}, okP bs l → ∀ {a b : Nat}, a ∈ l → b ∈ l → a < b → (a, b) ∉ bs
  | [], _, a, b, ha, _, _ => by cases ha
  | c :: r, h, a, b, ha, hb, hab => by
    obtain ⟨h1, h2⟩ := List.pairwise_cons.mp h
    rcases List.mem_cons.mp ha with e1 | ha'
    · rcases List.mem_cons.mp hb with e2 | hb'
      · omega
      · rw [e1]; exact (h1 b hb').2
    · rcases List.mem_cons.mp hb with e2 | hb'
      · have := (h1 a ha').1; omega
      · exact okP_pair h2 ha' hb' hab
def out (n : Nat) (lot : List Nat) : List Nat := (List.range n).filter fun m => !decide (m ∈ lot)
def gP (n : Nat) (L : List (List Nat)) (lot : List Nat) : Bool := !(out n lot).any fun m => decide (sN (lot ++ [m]) ∈ L)
def prO (lot one : List Nat) : Bool := decide (lot.length < one.length) && decide ((lot.filter fun a => !decide (a ∈ one)) = [])
def gO (L : List (List Nat)) (lot : List Nat) : Bool := decide (L.filter (prO lot) = [])
theorem prO_iff {lot one : List Nat} : prO lot one = true ↔ lot.length < one.length ∧ ∀ a ∈ lot, a ∈ one := by
  unfold prO
  rw [Bool.and_eq_true, decide_eq_true_eq, decide_eq_true_eq, List.filter_eq_nil_iff]
  refine and_congr_right fun _ => ⟨fun h a ha => by have := h a ha; simpa using this, fun h a ha => by simpa using h a ha⟩
theorem mem_out {n m : Nat} {lot : List Nat} : m ∈ out n lot ↔ m < n ∧ m ∉ lot := by
  unfold out
  rw [List.mem_filter, List.mem_range]
  simp
theorem gP_gO {bs : List (Nat × Nat)} {n : Nat} {lot : List Nat} (h : lot ∈ G bs n n) : gP n (G bs n n) lot = gO (G bs n n) lot := by
  obtain ⟨h1, h2⟩ := (mem_G (Nat.le_refl _)).mp h
  have hnd : lot.Nodup := (okP_lt h1).imp fun h => by omega
  unfold gP gO
  rw [Bool.eq_iff_iff, Bool.not_eq_true', List.any_eq_false, decide_eq_true_eq, List.filter_eq_nil_iff]
  constructor
  · intro hp one ho hpr
    obtain ⟨g1, g2⟩ := prO_iff.mp hpr
    obtain ⟨k1, k2⟩ := (mem_G (Nat.le_refl _)).mp ho
    have hex : ∃ m ∈ one, m ∉ lot := by
      refine Classical.byContradiction fun z => ?_
      have hsub : ∀ m ∈ one, m ∈ lot := fun m hm => Classical.byContradiction fun hz => z ⟨m, hm, hz⟩
      have := nodup_le one lot ((okP_lt k1).imp fun h => by omega) hsub
      omega
    obtain ⟨m, hm, hml⟩ := hex
    refine hp m (mem_out.mpr ⟨(k2 m hm).2, hml⟩) ?_
    rw [decide_eq_true_eq]
    have hnd2 : (lot ++ [m]).Nodup := by
      rw [List.nodup_append]
      exact ⟨hnd, by simp, fun a ha b hb e => by rw [List.mem_singleton.mp hb] at e; exact hml (e ▸ ha)⟩
    have hin : ∀ a ∈ sN (lot ++ [m]), a ∈ one := fun a ha => by
      rcases List.mem_append.mp ((sN_perm _).mem_iff.mp ha) with ha | ha
      · exact g2 a ha
      · rw [List.mem_singleton.mp ha]; exact hm
    refine (mem_G (Nat.le_refl _)).mpr ⟨?_, fun a ha => k2 a (hin a ha)⟩
    exact List.Pairwise.imp_of_mem (fun {a b} ha hb hab => ⟨hab, okP_pair k1 (hin a ha) (hin b hb) hab⟩) (sN_lt hnd2)
  · intro ho m hm hz
    rw [decide_eq_true_eq] at hz
    refine ho _ hz (prO_iff.mpr ⟨?_, fun a ha => (sN_perm _).mem_iff.mpr (by simp [ha])⟩)
    rw [(sN_perm _).length_eq, List.length_append, List.length_singleton]
    omega
theorem gO_ne {L : List (List Nat)} {lot : List Nat} : gO (L.filter fun l => !decide (l = [])) lot = gO L lot := by
  unfold gO
  rw [List.filter_filter]
  have : (fun a => prO lot a && !decide (a = [])) = prO lot := by
    funext a
    cases a with
    | nil =>
      have : prO lot [] = false := by unfold prO; rw [decide_eq_false (by simp), Bool.false_and]
      rw [this]; rfl
    | cons b r => simp
  rw [this]
/-! opposite pairs -/
def ops (n : Nat) (ps : List (Nat × Nat)) : List (Nat × Nat) := (apr n n).filter fun p => !decide (p ∈ ps)
theorem mem_ops {n : Nat} {ps : List (Nat × Nat)} {p : Nat × Nat} : p ∈ ops n ps ↔ (p.1 < p.2 ∧ p.2 < n) ∧ p ∉ ps := by
  unfold ops
  rw [List.mem_filter, mem_apr]
  simp only [Bool.not_eq_true', decide_eq_false_iff_not]
  exact ⟨fun h => ⟨h.1.2, h.2⟩, fun h => ⟨⟨by omega, h.1⟩, h.2⟩⟩
theorem ops_lt {n : Nat} {ps : List (Nat × Nat)} : ∀ p ∈ ops n ps, p.1 < p.2 := fun p h => (mem_ops.mp h).1.1
theorem ops_Cr {most : Nat} {ns : List Str} {ps : List (Nat × Nat)} (h : Cr most ns ps) : Cr most ns (ops ns.length ps) := .of h.h1 h.h2 h.nd h.ok (List.filter_sublist ..)
theorem same_pairs {A B : List (Nat × Nat)} (a : A.Pairwise ltPr) (b : B.Pairwise ltPr) (h : ∀ p, p ∈ A ↔ p ∈ B) : A = B := by
  have nd : ∀ {C : List (Nat × Nat)}, C.Pairwise ltPr → C.Nodup := fun c => c.imp fun {x y} h e => by subst e; unfold ltPr at h; omega
  exact ((List.perm_ext_iff_of_nodup (nd a) (nd b)).mpr h).eq_of_pairwise (fun x y _ _ h1 h2 => by unfold ltPr at h1 h2; omega) a b
theorem ops_ops {most : Nat} {ns : List Str} {ps : List (Nat × Nat)} (h : Cr most ns ps) : ops ns.length (ops ns.length ps) = ps := by
  refine same_pairs (ops_Cr (ops_Cr h)).so h.so fun p => ?_
  rw [mem_ops, mem_ops]
  constructor
  · rintro ⟨h1, h2⟩
    exact Classical.byContradiction fun z => h2 ⟨h1, z⟩
  · intro hp
    exact ⟨h.lt p hp, fun z => z.2 hp⟩
/-! cliques -/
def pI (lot : List Nat) (k : Nat) : List (Nat × Nat) := (List.range k).flatMap fun i => (lot.drop (i + 1)).map fun b => (lot.getD i 0, b)
def clq (ps : List (Nat × Nat)) (lot : List Nat) : Bool := !decide (lot = []) && decide ((pI lot lot.length).filter (fun p => !decide (p ∈ ps)) = [])
theorem pI_iff {lot : List Nat} {P : Nat × Nat → Prop} : (∀ p ∈ pI lot lot.length, P p) ↔ lot.Pairwise fun a b => P (a, b) := by
  rw [List.pairwise_iff_getElem]
  unfold pI
  constructor
  · intro h i j hi hj hij
    refine h (lot[i], lot[j]) (List.mem_flatMap.mpr ⟨i, List.mem_range.mpr hi, List.mem_map.mpr ⟨lot[j], ?_, ?_⟩⟩)
    · rw [List.mem_iff_getElem]
      exact ⟨j - (i + 1), by rw [List.length_drop]; omega, by rw [List.getElem_drop]; congr 1; omega⟩
    · rw [List.getD_eq_getElem?_getD, List.getElem?_eq_getElem hi]; rfl
  · intro h p hp
    obtain ⟨i, hi, hp⟩ := List.mem_flatMap.mp hp
    have hi := List.mem_range.mp hi
    obtain ⟨b, hb, rfl⟩ := List.mem_map.mp hp
    obtain ⟨j, hj, rfl⟩ := List.mem_iff_getElem.mp hb
    rw [List.length_drop] at hj
    rw [List.getElem_drop, List.getD_eq_getElem?_getD, List.getElem?_eq_getElem hi]
    exact h i (i + 1 + j) hi (by omega) (by omega)
theorem clq_G {n : Nat} {ps : List (Nat × Nat)} : (LN n).filter (clq ps) = (G (ops n ps) n n).filter fun l => !decide (l = []) := by
  obtain ⟨h1, h2⟩ := G_le (ops n ps) (n := n) (j := n) (Nat.le_refl _)
  refine same_lots ((LN_le n).filter _) (h1.filter _) ((LN_nd n).filter _) (h2.filter _) fun l => ?_
  rw [List.mem_filter, List.mem_filter, mem_LN, mem_lotsU, mem_G (Nat.le_refl _)]
  unfold clq
  rw [Bool.and_eq_true, decide_eq_true_eq, List.filter_eq_nil_iff]
  have hx : (∀ p ∈ pI l l.length, ¬ ((!decide (p ∈ ps)) = true)) ↔ l.Pairwise fun a b => (a, b) ∈ ps := by
    rw [← pI_iff (P := fun p => p ∈ ps)]
    exact ⟨fun h p hp => by simpa using h p hp, fun h p hp => by simpa using h p hp⟩
  rw [hx]
  constructor
  · rintro ⟨⟨g1, g2⟩, g3, g4⟩
    refine ⟨⟨?_, fun a ha => ⟨by omega, g2 a ha⟩⟩, g3⟩
    exact (g1.and g4).imp fun h => ⟨h.1, fun z => (mem_ops.mp z).2 h.2⟩
  · rintro ⟨⟨g1, g2⟩, g3⟩
    refine ⟨⟨okP_lt g1, fun a ha => (g2 a ha).2⟩, g3, ?_⟩
    refine List.Pairwise.imp_of_mem (fun {a b} ha hb h => ?_) g1
    exact Classical.byContradiction fun z => h.2 (mem_ops.mpr ⟨⟨h.1, (g2 b hb).2⟩, z⟩)
/-- the empty lot is not the greatest -/
theorem gP_nil {bs : List (Nat × Nat)} {n : Nat} (h : 1 ≤ n) : gP n (G bs n n) [] = false := by
  unfold gP
  rw [Bool.not_eq_false', List.any_eq_true]
  refine ⟨0, mem_out.mpr ⟨h, by simp⟩, ?_⟩
  rw [decide_eq_true_eq]
  have e : sN ([] ++ [0]) = [0] := List.perm_singleton.mp (sN_perm _)
  rw [e]
  exact (mem_G (Nat.le_refl _)).mpr ⟨List.pairwise_singleton _ _, fun a ha => by rw [List.mem_singleton.mp ha]; omega⟩
theorem great_ne {bs : List (Nat × Nat)} {n : Nat} (h : 1 ≤ n) : ((G bs n n).filter (gP n (G bs n n))).filter (fun l => !decide (l = [])) = (G bs n n).filter (gP n (G bs n n)) := by
  rw [List.filter_eq_self]
  intro l hl
  cases l with
  | nil => have := (List.mem_filter.mp hl).2; rw [gP_nil h] at this; cases this
  | cons a r => simp
/-- the greatest cliques by the law -/
theorem great_clq {ps : List (Nat × Nat)} {n : Nat} (h : 1 ≤ n) : ((LN n).filter (clq ps)).filter (gO ((LN n).filter (clq ps))) = (G (ops n ps) n n).filter (gP n (G (ops n ps) n n)) := by
  rw [clq_G]
  have e1 : gO ((G (ops n ps) n n).filter fun l => !decide (l = [])) = gO (G (ops n ps) n n) := funext fun lot => gO_ne
  rw [e1, ← great_ne h, List.filter_filter, List.filter_filter]
  refine List.filter_congr fun l hl => ?_
  rw [gP_gO hl, Bool.and_comm]
theorem great_ph {ps : List (Nat × Nat)} {n : Nat} (h : ∀ p ∈ ps, p.1 < p.2) : ((LN n).filter (freeL ps)).filter (gO ((LN n).filter (freeL ps))) = (G ps n n).filter (gP n (G ps n n)) := by
  rw [← G_LN h]
  exact List.filter_congr fun l hl => (gP_gO hl).symm
theorem G_len {bs : List (Nat × Nat)} {n : Nat} : ∀ j, (G bs n j).length ≤ 2 ^ j
  | 0 => Nat.le_refl _
  | j + 1 => by
    show ([[]] ++ ((G bs n j).filter (fB bs (n - 1 - j))).map ((n - 1 - j) :: ·) ++ (G bs n j).tail).length ≤ _
    obtain ⟨r, e⟩ := G_hd bs n j
    have h1 := G_len (bs := bs) (n := n) j
    have h2 := List.length_filter_le (fB bs (n - 1 - j)) (G bs n j)
    rw [List.length_append, List.length_append, List.length_map, List.length_tail, List.length_singleton, Nat.pow_succ]
    have : 0 < (G bs n j).length := by rw [e]; simp
    omega
theorem G_small {bs : List (Nat × Nat)} {n : Nat} {j : Nat} (h : j ≤ n) {l : List Nat} (hl : l ∈ G bs n j) : l.length ≤ n := by
  obtain ⟨g1, g2⟩ := (mem_G h).mp hl
  have := nodup_le l (List.range n) ((okP_lt g1).imp fun h => by omega) fun a ha => List.mem_range.mpr (g2 a ha).2
  rwa [List.length_range] at this
end Kt

namespace Kt
open PySem PySem.Spec L2 Bv
set_option hygiene false
local macro_rules | `(tactic| fail "S1") => `(tactic| (first | with_reducible refine s_seq ?_ | with_reducible refine w_lc2S ?_ | with_reducible refine s_nil ?_ | with_reducible refine s_ag ?_ | with_reducible refine s_rt ?_ | with_reducible refine s_ex ?_ | with_reducible refine s_for ?_ | with_reducible refine s_par2 ?_ | with_reducible refine s_par3 ?_ | with_reducible refine w_pure ?_ | with_reducible refine w_dM ?_ | with_reducible refine w_sM ?_ | with_reducible refine w_th ?_ | with_reducible refine w_fn ?_ | with_reducible refine w_rg ?_ | with_reducible refine w_it ?_ | with_reducible refine w_nil ?_ | with_reducible refine w_cons ?_ | with_reducible refine w_bin2 ?_ | with_reducible refine w_addI ?_ | with_reducible refine w_subI ?_ | with_reducible refine w_ltI ?_ | with_reducible refine w_leI ?_ | with_reducible refine w_gtI ?_ | with_reducible refine w_geI ?_ | with_reducible refine w_eqS ?_ | with_reducible refine w_neS ?_ | with_reducible refine w_eqI ?_ | with_reducible refine w_neI ?_ | with_reducible refine w_int ?_ | with_reducible refine w_ixM ?_ | with_reducible refine w_cmpT ?_ | with_reducible refine w_notT ?_ | with_reducible refine w_blT ?_ | with_reducible refine w_yes ?_ | with_reducible refine w_chM ?_ | with_reducible refine w_lcS ?_ | with_reducible refine w_itL ?_ | with_reducible refine w_ix0T ?_ | with_reducible refine w_ix0L ?_ | with_reducible refine w_ix0O ?_ | with_reducible refine w_ix1T ?_ | with_reducible refine w_ix1L ?_ | with_reducible refine w_ix1O ?_ | with_reducible refine w_ix2T ?_ | with_reducible refine w_ix2L ?_ | with_reducible refine w_ix2O ?_ | with_reducible refine w_ix3T ?_ | with_reducible refine w_ix3L ?_ | with_reducible refine w_ix3O ?_ | with_reducible refine w_itT ?_ | with_reducible refine w_itC ?_ | with_reducible refine w_lstS ?_ | with_reducible refine w_lstL ?_ | with_reducible refine w_lstT ?_ | with_reducible refine w_lstO ?_ | with_reducible refine w_tupT ?_ | with_reducible refine w_tupL ?_ | with_reducible refine w_tupO ?_ | with_reducible refine w_dd ?_ | with_reducible refine s_asT1 ?_ | with_reducible refine s_stS ?_ | with_reducible refine w_max2 ?_ | with_reducible refine w_min2 ?_ | with_reducible refine s_asT0 ?_ | with_reducible refine w_gcd ?_ | with_reducible refine w_idxM ?_ | with_reducible refine w_enW ?_ | with_reducible refine w_enT ?_ | with_reducible refine w_zpL ?_ | with_reducible refine w_zpT ?_ | with_reducible refine w_rgOf ?_ | with_reducible refine w_rgOf2 ?_ | with_reducible refine w_inN ?_ | with_reducible refine w_inLs ?_ | with_reducible refine w_inLo ?_ | with_reducible refine w_dcS ?_ | with_reducible refine w_inK ?_ | with_reducible refine w_noP ?_ | with_reducible refine w_soP ?_ | with_reducible refine w_slM ?_ | with_reducible refine s_op ?_ | with_reducible refine w_inLd ?_ | with_reducible refine w_itS ?_ | with_reducible refine w_joM ?_ | with_reducible refine w_inLF ?_ | with_reducible refine w_inLT ?_ | with_reducible refine w_inPF ?_ | with_reducible refine w_cmLs ?_ | with_reducible refine w_cmLns ?_ | with_reducible refine w_cmLo ?_ | with_reducible refine w_cmLno ?_ | with_reducible refine w_eqOl ?_ | with_reducible refine w_eqOt ?_ | with_reducible refine w_eqOi ?_ | with_reducible refine w_eqOb ?_ | with_reducible refine w_eqOs ?_ | with_reducible refine w_neOl ?_ | with_reducible refine w_neOt ?_ | with_reducible refine w_neOi ?_ | with_reducible refine w_neOb ?_ | with_reducible refine w_neOs ?_ | ((with_reducible apply w_esc); (focus exact rfl)) | ((with_reducible apply w_sl); (focus exact rfl)) | ((with_reducible apply s_asN); (focus (repeat (first | exact SetAt.z | apply SetAt.s)))) | ((with_reducible apply w_ixN); (focus exact rfl)) | ((with_reducible apply w_slN); (focus exact rfl)) | ((with_reducible apply w_slL); (focus exact rfl)) | ((with_reducible apply w_slT); (focus exact rfl)) | ((with_reducible apply w_escO); (focus exact rfl); (focus (repeat (first | exact SetAt.z | apply SetAt.s)))) | ((with_reducible apply w_mv); (focus exact rfl); (focus (repeat (first | exact SetAt.z | apply SetAt.s)))) | ((with_reducible refine w_modI ?_ ?_); (focus first | omega | decide)) | ((with_reducible refine w_fdvI ?_ ?_ ?_); (focus first | omega | decide); (focus first | omega | decide)) | ((with_reducible refine w_powI ?_ ?_); (focus decide)) | ((with_reducible refine w_mulI ?_ ?_); (focus first | exact .inr (by decide) | exact .inl (by decide) | exact .inr (by constructor <;> omega) | exact .inl (by constructor <;> omega))) | ((with_reducible apply w_app); (focus exact rfl)) | ((with_reducible apply w_cmN); (focus exact rfl)) | ((with_reducible apply w_appN); (focus exact rfl); (focus first | decide | (simp only [List.length_cons, List.length_nil]; decide)); (focus (repeat (first | exact SetAt.z | apply SetAt.s)))) | ((with_reducible apply w_isi); (focus exact rfl); (focus assumption)) | ((with_reducible apply w_isF); (focus exact rfl)) | ((with_reducible apply w_isN); (focus exact rfl)) | ((with_reducible apply w_fldS); (focus exact rfl)) | ((with_reducible apply s_stN); (focus exact rfl); (focus exact Nat.le_of_ble_eq_true rfl); (focus (repeat (first | exact SetAt.z | apply SetAt.s)))) | ((with_reducible apply w_fldO); (focus exact rfl)) | ((with_reducible refine w_rg1 ?_ ?_); (focus first | (constructor <;> omega) | decide)) | ((with_reducible refine w_rg2 ?_ ?_); (focus first | (refine ⟨?_, ?_, ?_, ?_⟩ <;> omega) | decide)) | ((with_reducible refine w_rgW ?_ ?_); (focus constructor <;> omega)) | ((with_reducible refine w_rgW2 ?_ ?_); (focus refine ⟨⟨?_, ?_⟩, ⟨?_, ?_⟩, ?_⟩ <;> omega)) | ((with_reducible refine w_addT ?_ ?_); (focus (simp only [List.length_map, List.length_replicate, List.length_cons, List.length_nil, List.length_range]; unfold lineN; omega))) | ((with_reducible refine w_mul1 ?_ ?_); (focus constructor <;> omega)) | ((with_reducible refine w_tup ?_ ?_); (focus exact Nat.le_of_ble_eq_true rfl)) | ((with_reducible refine w_lst ?_ ?_); (focus exact Nat.le_of_ble_eq_true rfl)) | ((with_reducible refine w_pen_at ?_ ?_); (focus exact rfl)) | ((with_reducible refine s_pen_at ?_ ?_ ?_); (focus exact rfl); (focus exact rfl)) | ((with_reducible refine w_pen_digits ?_ ?_); (focus exact rfl)) | ((with_reducible refine s_pen_digits ?_ ?_); (focus exact rfl)) | ((with_reducible refine w_pen_count ?_ ?_); (focus exact rfl)) | ((with_reducible refine s_pen_count ?_ ?_); (focus exact rfl)) | ((with_reducible refine w_pen_fold ?_ ?_); (focus exact rfl)) | ((with_reducible refine s_pen_fold ?_ ?_); (focus exact rfl)) | ((with_reducible refine w_pen_cells ?_ ?_); (focus exact rfl)) | with_reducible refine s_dp ?_ | with_reducible refine if_not ?_ | with_reducible refine if_tt ?_ | with_reducible refine if_ff ?_ | ((with_reducible refine if_decT ?_ ?_); (focus first | omega | (simp only [List.length_cons, List.length_nil]; omega))) | ((with_reducible refine if_decF ?_ ?_); (focus first | omega | (simp only [List.length_cons, List.length_nil]; omega))) | with_reducible refine if_dec (fun hc => ?_) (fun hc => ?_) | with_reducible refine s_if ?_ | with_reducible refine w_andT ?_ | with_reducible refine w_orT ?_ | with_reducible refine w_andM ?_ | with_reducible refine w_orM ?_ | with_reducible refine w_notM ?_ | with_reducible refine w_ifM ?_ | with_reducible refine w_truT ?_ | with_reducible refine w_negI ?_ | with_reducible refine ex_truB ?_ | with_reducible refine ⟨_, rfl, ?_⟩ | dsimp only [L.d] | ((with_reducible refine if_t ?_ ?_); (focus exact rfl)) | ((with_reducible refine if_f ?_ ?_); (focus exact rfl)) | ((with_reducible apply w_len); (focus exact .inl rfl)) | ((with_reducible apply w_len); (focus exact .inr rfl))))
local macro_rules | `(tactic| fail "SA") => `(tactic| (repeat' fail "S1"))
local macro_rules | `(tactic| fail "SR") => `(tactic| (repeat fail "S1"))
set_option hygiene true
open PyProof.Rows hiding pairD
/-! the program's lots -/
section
variable {s : S} {Q : L → S → Prop}
theorem sp_flots {bs : List (Nat × Nat)} {n : Nat} (hn : n ≤ 12) (q : Q (.ol ((G bs n n).map ltD)) s) : wm (callN 2 F_free_lots [.int (n : Nat), .dic (kD pairD bs)]) s Q := by
  refine w_call r_free_lots rfl ?_
  show ws m_free_lots ⟨[some (.sh (.int (n : Nat))), some (.sh (.dic (kD pairD bs))), none, none, none, none, none], s.st⟩ _ _ _ _
  unfold m_free_lots
  fail "SA"
  refine w_rg3 (by omega) ?_
  unfold dnD
  refine s_forL (fun (i : Nat) (s' : S) => ∃ (o3 o4 o5 o6 : Option L), (i ≤ n) ∧ s' = ⟨[some (.sh (.int (n : Nat))), some (.sh (.dic (kD pairD bs))), some (.ol ((G bs n i).map ltD)), o3, o4, o5, o6], s.st⟩) ⟨none, none, none, none, Nat.zero_le _, rfl⟩ (fun i hi s' ⟨o3, o4, o5, o6, hil, hS⟩ => ?_) (fun s' ⟨o3, o4, o5, o6, hil, hS⟩ => ?_)
  · subst hS
    have hi : i < n := by rwa [List.length_range] at hi
    rw [List.getElem_range]
    have hp := pow12 (i := i) (n := n) (by omega) hn
    have hgl := G_len (bs := bs) (n := n) i
    have hsm : ∀ l ∈ G bs n i, l.length ≤ 12 := fun l hl => Nat.le_trans (G_small (by omega) hl) hn
    fail "SA"
    refine s_forL (fun (j : Nat) (s' : S) => ∃ (o5 o6 : Option L), (j ≤ (G bs n i).length) ∧ s' = ⟨[some (.sh (.int (n : Nat))), some (.sh (.dic (kD pairD bs))), some (.sh (.lst ((G bs n i).map ltD))), some (.sh (.int ((n - 1 - i : Nat) : Int))), some (.ol (((((G bs n i).take j).filter (fB bs (n - 1 - i))).map ((n - 1 - i) :: ·)).map ltD)), o5, o6], s.st⟩) ⟨_, _, Nat.zero_le _, rfl⟩ (fun j hj s' ⟨o5, o6, hjl, hS⟩ => ?_) (fun s' ⟨o5, o6, hjl, hS⟩ => ?_)
    · subst hS
      have hlot := hsm _ (List.getElem_mem hj)
      have htk : (G bs n i).take (j + 1) = (G bs n i).take j ++ [(G bs n i)[j]] := by rw [List.take_succ, List.getElem?_eq_getElem hj]; rfl
      have hfl := List.length_filter_le (fB bs (n - 1 - i)) ((G bs n i).take j)
      rw [List.length_take] at hfl
      have go : ∀ o5 o6, fB bs (n - 1 - i) (G bs n i)[j] = false → (fun (j : Nat) (s' : S) => ∃ (o5 o6 : Option L), (j ≤ (G bs n i).length) ∧ s' = ⟨[some (.sh (.int (n : Nat))), some (.sh (.dic (kD pairD bs))), some (.sh (.lst ((G bs n i).map ltD))), some (.sh (.int ((n - 1 - i : Nat) : Int))), some (.ol (((((G bs n i).take j).filter (fB bs (n - 1 - i))).map ((n - 1 - i) :: ·)).map ltD)), o5, o6], s.st⟩) (j + 1) ⟨[some (.sh (.int (n : Nat))), some (.sh (.dic (kD pairD bs))), some (.sh (.lst ((G bs n i).map ltD))), some (.sh (.int ((n - 1 - i : Nat) : Int))), some (.ol (((((G bs n i).take j).filter (fB bs (n - 1 - i))).map ((n - 1 - i) :: ·)).map ltD)), o5, o6], s.st⟩ := fun o5 o6 hf =>
        ⟨o5, o6, by omega, by rw [htk, List.filter_append, List.filter_cons, hf]; simp⟩
      have add : ∀ o5 o6, fB bs (n - 1 - i) (G bs n i)[j] = true → (fun (j : Nat) (s' : S) => ∃ (o5 o6 : Option L), (j ≤ (G bs n i).length) ∧ s' = ⟨[some (.sh (.int (n : Nat))), some (.sh (.dic (kD pairD bs))), some (.sh (.lst ((G bs n i).map ltD))), some (.sh (.int ((n - 1 - i : Nat) : Int))), some (.ol (((((G bs n i).take j).filter (fB bs (n - 1 - i))).map ((n - 1 - i) :: ·)).map ltD)), o5, o6], s.st⟩) (j + 1) ⟨[some (.sh (.int (n : Nat))), some (.sh (.dic (kD pairD bs))), some (.sh (.lst ((G bs n i).map ltD))), some (.sh (.int ((n - 1 - i : Nat) : Int))), some (.ol (((((G bs n i).take j).filter (fB bs (n - 1 - i))).map ((n - 1 - i) :: ·)).map ltD ++ [ltD ((n - 1 - i) :: (G bs n i)[j])])), o5, o6], s.st⟩ := fun o5 o6 hf =>
        ⟨o5, o6, by omega, by rw [htk, List.filter_append, List.filter_cons, hf]; simp⟩
      generalize (G bs n i)[j] = lot at hlot go add ⊢
      fail "SA"
      refine w_lcF (fun o : Nat => D.bl (decide ((n - 1 - i, o) ∈ bs))) rfl (by unfold lineN; omega) (fun o ho => ⟨_, rfl, rfl, ?_⟩) ?_
      · fail "SA"
        refine w_inKD kE_pair (x := (n - 1 - i, o)) (neg := false) ?_
        fail "SA"
        exact ⟨rfl, by simp⟩
      fail "SA"
      refine w_any (p := fun o => decide ((n - 1 - i, o) ∈ bs)) rfl ?_
      fail "SA"
      unfold fB at go add
      cases hany : lot.any fun o => decide ((n - 1 - i, o) ∈ bs) with
      | true =>
        fail "SA"
        exact go _ _ (by rw [hany]; rfl)
      | false =>
        fail "SA"
        refine w_star ?_
        fail "SA"
        refine ⟨_, .inl rfl, ?_⟩
        fail "SA"
        rw [List.append_nil]
        refine w_tup (by rw [List.length_cons, List.length_map]; unfold lineN; omega) ?_
        fail "SA"
        refine w_appN rfl (by rw [List.length_map, List.length_map]; unfold lineN; omega) (by repeat (first | exact SetAt.z | apply SetAt.s)) ?_
        fail "SA"
        exact add _ _ (by rw [hany]; rfl)
    · subst hS
      fail "SA"
      have hfl := List.length_filter_le (fB bs (n - 1 - i)) (G bs n i)
      rw [List.take_length]
      refine w_addL (by rw [List.length_map, List.length_map, List.length_singleton]; omega) ?_
      fail "SA"
      obtain ⟨r, hr⟩ := G_hd bs n i
      have ec : Bv.cutD ((G bs n i).map ltD) (some 1) none = ((G bs n i).tail).map ltD := by
        have := cut_drop (k := 1) (ds := (G bs n i).map ltD) (by rw [hr]; simp)
        rw [show ((1 : Nat) : Int) = 1 from rfl] at this
        rw [this, hr]; rfl
      rw [ec]
      refine w_addL (by rw [List.length_append, List.length_map, List.length_map, List.length_map, List.length_tail, List.length_singleton]; omega) ?_
      fail "SA"
      have eG : [D.tup []] ++ (((G bs n i).filter (fB bs (n - 1 - i))).map ((n - 1 - i) :: ·)).map ltD ++ ((G bs n i).tail).map ltD = (G bs n (i + 1)).map ltD := by
        rw [show G bs n (i + 1) = [[]] ++ ((G bs n i).filter (fB bs (n - 1 - i))).map ((n - 1 - i) :: ·) ++ (G bs n i).tail from rfl, List.map_append, List.map_append]
        rfl
      rw [eG]
      exact ⟨_, _, _, _, by omega, rfl⟩
  · subst hS
    fail "SA"
    rw [List.length_range]
    exact q
theorem nd_of {ps : List (Nat × Nat)} (h : ps.Pairwise ltPr) : ps.Nodup := h.imp fun {x y} h e => by subst e; unfold ltPr at h; omega
theorem sp_every {most : Nat} {ns : List Str} {ps : List (Nat × Nat)} (h : Cr most ns ps) (hm : most ≤ 12) (q : Q (.ol ((G ps ns.length ns.length).map ltD)) s) : wm (callN 1 F_every_phase [crI ns ps]) s Q := by
  refine w_call r_every_phase rfl ?_
  show ws m_every_phase ⟨[some (.sh (crI ns ps)), none], s.st⟩ _ _ _ _
  have e1 : (ns.map D.str).length = ns.length := List.length_map ..
  have hpl := h.len
  have h2 := h.h2
  have hnn : ns.length * ns.length ≤ 12 * 12 := Nat.mul_le_mul (by omega) (by omega)
  unfold m_every_phase
  fail "SA"
  rw [e1]
  refine w_dcT kE_pair (nd_of h.so) rfl (by unfold lineN; omega) (fun p _ => ⟨_, rfl, rfl, ?_⟩) ?_
  · fail "SA"
    refine ⟨rfl, rfl, ?_⟩
    fail "SA"
    exact ⟨rfl, rfl⟩
  fail "SA"
  refine sp_flots (by omega) ?_
  fail "SA"
  exact q
theorem sp_phof {most : Nat} {ns : List Str} {ps : List (Nat × Nat)} (h : Cr most ns ps) (hm : most ≤ 12) (q : Q (.sh (.tup ((G ps ns.length ns.length).map ltD))) s) : wm (callN 1 F_phases_of [crI ns ps]) s Q := by
  refine w_call r_phases_of rfl ?_
  show ws m_phases_of ⟨[some (.sh (crI ns ps))], s.st⟩ _ _ _ _
  have h2 := h.h2
  have hp := pow12 (i := ns.length) (n := ns.length) (Nat.le_refl _) (by omega)
  have hgl := G_len (bs := ps) (n := ns.length) ns.length
  unfold m_phases_of
  fail "SA"
  refine sp_every h hm ?_
  fail "SA"
  exact q
theorem sp_opp {most : Nat} {ns : List Str} {ps : List (Nat × Nat)} (h : Cr most ns ps) (hm : most ≤ 12) (q : Q (.ol ((ops ns.length ps).map pairD)) s) : wm (callN 1 F_opposite_pairs [crI ns ps]) s Q := by
  refine w_call r_opposite_pairs rfl ?_
  show ws m_opposite_pairs ⟨[some (.sh (crI ns ps)), none, none, none], s.st⟩ _ _ _ _
  have e1 : (ns.map D.str).length = ns.length := List.length_map ..
  have h2 := h.h2
  generalize hn : ns.length = n at e1 h2 q
  unfold m_opposite_pairs
  fail "SA"
  rw [e1]
  fail "SA"
  have hlen : ∀ k, ((List.range k).flatMap fun i => List.range (n - (i + 1))).length ≤ k * n := fun k => by
    induction k with
    | zero => simp
    | succ k ih =>
      rw [List.range_succ, List.flatMap_append, List.length_append, Nat.succ_mul]
      simp only [List.flatMap_cons, List.flatMap_nil, List.append_nil, List.length_range]
      omega
  have hnn : n * n ≤ 12 * 12 := Nat.mul_le_mul (by omega) (by omega)
  rw [show rgD 0 ((n : Nat) : Int).toNat = (List.range n).map nI by
    rw [rgD_map, show ((n : Nat) : Int).toNat = n by omega]
    exact List.map_congr_left fun x _ => by show D.int _ = D.int _; rw [Int.zero_add]]
  refine w_lcH (fun i => List.range (n - (i + 1))) (fun i j => D.int ((i : Nat) + 1 + (j : Nat) : Int)) (fun i j => !decide ((i, i + 1 + j) ∈ ps)) (fun i j => pairD (i, i + 1 + j)) rfl (Nat.le_trans (hlen n) (by unfold lineN; omega)) (fun i hi => ⟨_, _, rfl, rfl, rfl, ?_⟩) ?_
  · have hi := List.mem_range.mp hi
    fail "SA"
    refine ⟨rfl, rfl, ?_⟩
    fail "SA"
    refine ⟨rfl, ?_, fun j hj => ⟨_, rfl, rfl, rfl, ?_⟩⟩
    · rw [rgD_map, show ((n : Int) - ((i : Nat) + 1)).toNat = n - (i + 1) by omega]
    · fail "SA"
      rw [show (D.tup [D.int ((i : Nat) : Int), D.int ((i : Nat) + 1 + (j : Nat) : Int)]) = pairD (i, i + 1 + j) from rfl]
      refine w_inD (embPr.inL (x := (i, i + 1 + j)) (ys := ps) (by decide) ⟨trivial, trivial⟩ fun _ _ => ⟨trivial, trivial⟩).2 ?_
      fail "SA"
      refine ⟨rfl, by simp, fun _ => ?_⟩
      fail "SA"
      exact ⟨rfl, rfl⟩
  fail "SA"
  have ee : (List.range n).flatMap (fun i => ((List.range (n - (i + 1))).filter fun j => !decide ((i, i + 1 + j) ∈ ps)).map fun j => pairD (i, i + 1 + j)) = (ops n ps).map pairD := by
    unfold ops apr row
    rw [List.filter_flatMap, List.map_flatMap]
    refine congrArg (fun f => (List.range n).flatMap f) (funext fun i => ?_)
    rw [List.filter_map, List.map_map]
    rfl
  rw [ee]
  exact q
end
end Kt

namespace Kt
open PySem PySem.Spec L2 Bv
set_option hygiene false
local macro_rules | `(tactic| fail "S1") => `(tactic| (first | with_reducible refine s_seq ?_ | with_reducible refine w_lc2S ?_ | with_reducible refine s_nil ?_ | with_reducible refine s_ag ?_ | with_reducible refine s_rt ?_ | with_reducible refine s_ex ?_ | with_reducible refine s_for ?_ | with_reducible refine s_par2 ?_ | with_reducible refine s_par3 ?_ | with_reducible refine w_pure ?_ | with_reducible refine w_dM ?_ | with_reducible refine w_sM ?_ | with_reducible refine w_th ?_ | with_reducible refine w_fn ?_ | with_reducible refine w_rg ?_ | with_reducible refine w_it ?_ | with_reducible refine w_nil ?_ | with_reducible refine w_cons ?_ | with_reducible refine w_bin2 ?_ | with_reducible refine w_addI ?_ | with_reducible refine w_subI ?_ | with_reducible refine w_ltI ?_ | with_reducible refine w_leI ?_ | with_reducible refine w_gtI ?_ | with_reducible refine w_geI ?_ | with_reducible refine w_eqS ?_ | with_reducible refine w_neS ?_ | with_reducible refine w_eqI ?_ | with_reducible refine w_neI ?_ | with_reducible refine w_int ?_ | with_reducible refine w_ixM ?_ | with_reducible refine w_cmpT ?_ | with_reducible refine w_notT ?_ | with_reducible refine w_blT ?_ | with_reducible refine w_yes ?_ | with_reducible refine w_chM ?_ | with_reducible refine w_lcS ?_ | with_reducible refine w_itL ?_ | with_reducible refine w_ix0T ?_ | with_reducible refine w_ix0L ?_ | with_reducible refine w_ix0O ?_ | with_reducible refine w_ix1T ?_ | with_reducible refine w_ix1L ?_ | with_reducible refine w_ix1O ?_ | with_reducible refine w_ix2T ?_ | with_reducible refine w_ix2L ?_ | with_reducible refine w_ix2O ?_ | with_reducible refine w_ix3T ?_ | with_reducible refine w_ix3L ?_ | with_reducible refine w_ix3O ?_ | with_reducible refine w_itT ?_ | with_reducible refine w_itC ?_ | with_reducible refine w_lstS ?_ | with_reducible refine w_lstL ?_ | with_reducible refine w_lstT ?_ | with_reducible refine w_lstO ?_ | with_reducible refine w_tupT ?_ | with_reducible refine w_tupL ?_ | with_reducible refine w_tupO ?_ | with_reducible refine w_dd ?_ | with_reducible refine s_asT1 ?_ | with_reducible refine s_stS ?_ | with_reducible refine w_max2 ?_ | with_reducible refine w_min2 ?_ | with_reducible refine s_asT0 ?_ | with_reducible refine w_gcd ?_ | with_reducible refine w_idxM ?_ | with_reducible refine w_enW ?_ | with_reducible refine w_enT ?_ | with_reducible refine w_zpL ?_ | with_reducible refine w_zpT ?_ | with_reducible refine w_rgOf ?_ | with_reducible refine w_rgOf2 ?_ | with_reducible refine w_inN ?_ | with_reducible refine w_inLs ?_ | with_reducible refine w_inLo ?_ | with_reducible refine w_dcS ?_ | with_reducible refine w_inK ?_ | with_reducible refine w_noP ?_ | with_reducible refine w_soP ?_ | with_reducible refine w_slM ?_ | with_reducible refine s_op ?_ | with_reducible refine w_inLd ?_ | with_reducible refine w_itS ?_ | with_reducible refine w_joM ?_ | with_reducible refine w_inLF ?_ | with_reducible refine w_inLT ?_ | with_reducible refine w_inPF ?_ | with_reducible refine w_cmLs ?_ | with_reducible refine w_cmLns ?_ | with_reducible refine w_cmLo ?_ | with_reducible refine w_cmLno ?_ | with_reducible refine w_eqOl ?_ | with_reducible refine w_eqOt ?_ | with_reducible refine w_eqOi ?_ | with_reducible refine w_eqOb ?_ | with_reducible refine w_eqOs ?_ | with_reducible refine w_neOl ?_ | with_reducible refine w_neOt ?_ | with_reducible refine w_neOi ?_ | with_reducible refine w_neOb ?_ | with_reducible refine w_neOs ?_ | ((with_reducible apply w_esc); (focus exact rfl)) | ((with_reducible apply w_sl); (focus exact rfl)) | ((with_reducible apply s_asN); (focus (repeat (first | exact SetAt.z | apply SetAt.s)))) | ((with_reducible apply w_ixN); (focus exact rfl)) | ((with_reducible apply w_slN); (focus exact rfl)) | ((with_reducible apply w_slL); (focus exact rfl)) | ((with_reducible apply w_slT); (focus exact rfl)) | ((with_reducible apply w_escO); (focus exact rfl); (focus (repeat (first | exact SetAt.z | apply SetAt.s)))) | ((with_reducible apply w_mv); (focus exact rfl); (focus (repeat (first | exact SetAt.z | apply SetAt.s)))) | ((with_reducible refine w_modI ?_ ?_); (focus first | omega | decide)) | ((with_reducible refine w_fdvI ?_ ?_ ?_); (focus first | omega | decide); (focus first | omega | decide)) | ((with_reducible refine w_powI ?_ ?_); (focus decide)) | ((with_reducible refine w_mulI ?_ ?_); (focus first | exact .inr (by decide) | exact .inl (by decide) | exact .inr (by constructor <;> omega) | exact .inl (by constructor <;> omega))) | ((with_reducible apply w_app); (focus exact rfl)) | ((with_reducible apply w_cmN); (focus exact rfl)) | ((with_reducible apply w_appN); (focus exact rfl); (focus first | decide | (simp only [List.length_cons, List.length_nil]; decide)); (focus (repeat (first | exact SetAt.z | apply SetAt.s)))) | ((with_reducible apply w_isi); (focus exact rfl); (focus assumption)) | ((with_reducible apply w_isF); (focus exact rfl)) | ((with_reducible apply w_isN); (focus exact rfl)) | ((with_reducible apply w_fldS); (focus exact rfl)) | ((with_reducible apply s_stN); (focus exact rfl); (focus exact Nat.le_of_ble_eq_true rfl); (focus (repeat (first | exact SetAt.z | apply SetAt.s)))) | ((with_reducible apply w_fldO); (focus exact rfl)) | ((with_reducible refine w_rg1 ?_ ?_); (focus first | (constructor <;> omega) | decide)) | ((with_reducible refine w_rg2 ?_ ?_); (focus first | (refine ⟨?_, ?_, ?_, ?_⟩ <;> omega) | decide)) | ((with_reducible refine w_rgW ?_ ?_); (focus constructor <;> omega)) | ((with_reducible refine w_rgW2 ?_ ?_); (focus refine ⟨⟨?_, ?_⟩, ⟨?_, ?_⟩, ?_⟩ <;> omega)) | ((with_reducible refine w_addT ?_ ?_); (focus (simp only [List.length_map, List.length_replicate, List.length_cons, List.length_nil, List.length_range]; unfold lineN; omega))) | ((with_reducible refine w_mul1 ?_ ?_); (focus constructor <;> omega)) | ((with_reducible refine w_tup ?_ ?_); (focus exact Nat.le_of_ble_eq_true rfl)) | ((with_reducible refine w_lst ?_ ?_); (focus exact Nat.le_of_ble_eq_true rfl)) | ((with_reducible refine w_pen_at ?_ ?_); (focus exact rfl)) | ((with_reducible refine s_pen_at ?_ ?_ ?_); (focus exact rfl); (focus exact rfl)) | ((with_reducible refine w_pen_digits ?_ ?_); (focus exact rfl)) | ((with_reducible refine s_pen_digits ?_ ?_); (focus exact rfl)) | ((with_reducible refine w_pen_count ?_ ?_); (focus exact rfl)) | ((with_reducible refine s_pen_count ?_ ?_); (focus exact rfl)) | ((with_reducible refine w_pen_fold ?_ ?_); (focus exact rfl)) | ((with_reducible refine s_pen_fold ?_ ?_); (focus exact rfl)) | ((with_reducible refine w_pen_cells ?_ ?_); (focus exact rfl)) | with_reducible refine s_dp ?_ | with_reducible refine if_not ?_ | with_reducible refine if_tt ?_ | with_reducible refine if_ff ?_ | ((with_reducible refine if_decT ?_ ?_); (focus first | omega | (simp only [List.length_cons, List.length_nil]; omega))) | ((with_reducible refine if_decF ?_ ?_); (focus first | omega | (simp only [List.length_cons, List.length_nil]; omega))) | with_reducible refine if_dec (fun hc => ?_) (fun hc => ?_) | with_reducible refine s_if ?_ | with_reducible refine w_andT ?_ | with_reducible refine w_orT ?_ | with_reducible refine w_andM ?_ | with_reducible refine w_orM ?_ | with_reducible refine w_notM ?_ | with_reducible refine w_ifM ?_ | with_reducible refine w_truT ?_ | with_reducible refine w_negI ?_ | with_reducible refine ex_truB ?_ | with_reducible refine ⟨_, rfl, ?_⟩ | dsimp only [L.d] | ((with_reducible refine if_t ?_ ?_); (focus exact rfl)) | ((with_reducible refine if_f ?_ ?_); (focus exact rfl)) | ((with_reducible apply w_len); (focus exact .inl rfl)) | ((with_reducible apply w_len); (focus exact .inr rfl))))
local macro_rules | `(tactic| fail "SA") => `(tactic| (repeat' fail "S1"))
local macro_rules | `(tactic| fail "SR") => `(tactic| (repeat fail "S1"))
set_option hygiene true
open PyProof.Rows hiding pairD
/-! greatest lots -/
theorem rgN (n : Nat) : rgD 0 ((n : Nat) : Int).toNat = (List.range n).map nI := by
  rw [rgD_map, show ((n : Nat) : Int).toNat = n by omega]
  exact List.map_congr_left fun x _ => by show D.int _ = D.int _; rw [Int.zero_add]
section
variable {s : S} {Q : L → S → Prop}
theorem sp_great {n : Nat} {LL : List (List Nat)} (hn : n ≤ 12) (nd : LL.Nodup) (hl : LL.length ≤ 4096) (hs : ∀ l ∈ LL, l.length ≤ 12) (q : Q (.ol ((LL.filter (gP n LL)).map ltD)) s) : wm (callN 2 F_greatest_of [.int (n : Nat), .lst (LL.map ltD)]) s Q := by
  refine w_call r_greatest_of rfl ?_
  show ws m_greatest_of ⟨[some (.sh (.int (n : Nat))), some (.sh (.lst (LL.map ltD))), none, none, none, none, none], s.st⟩ _ _ _ _
  unfold m_greatest_of
  fail "SA"
  refine w_dcT kE_lot nd rfl (by unfold lineN; omega) (fun p _ => ⟨_, rfl, rfl, ?_⟩) ?_
  · fail "SA"
    refine ⟨rfl, rfl, ?_⟩
    fail "SA"
    exact ⟨rfl, rfl⟩
  fail "SA"
  refine s_forL (fun (i : Nat) (s' : S) => ∃ (o4 o5 o6 : Option L), (i ≤ LL.length) ∧ s' = ⟨[some (.sh (.int (n : Nat))), some (.sh (.lst (LL.map ltD))), some (.sh (.dic (kD ltD LL))), some (.ol (((LL.take i).filter (gP n LL)).map ltD)), o4, o5, o6], s.st⟩) ⟨none, none, none, Nat.zero_le _, rfl⟩ (fun i hi s' ⟨o4, o5, o6, hil, hS⟩ => ?_) (fun s' ⟨o4, o5, o6, hil, hS⟩ => ?_)
  · subst hS
    have hlot := hs _ (List.getElem_mem hi)
    have htk : LL.take (i + 1) = LL.take i ++ [LL[i]] := by rw [List.take_succ, List.getElem?_eq_getElem hi]; rfl
    have hfl := List.length_filter_le (gP n LL) (LL.take i)
    rw [List.length_take] at hfl
    have go : ∀ o4 o5 o6, gP n LL LL[i] = false → (fun (i : Nat) (s' : S) => ∃ (o4 o5 o6 : Option L), (i ≤ LL.length) ∧ s' = ⟨[some (.sh (.int (n : Nat))), some (.sh (.lst (LL.map ltD))), some (.sh (.dic (kD ltD LL))), some (.ol (((LL.take i).filter (gP n LL)).map ltD)), o4, o5, o6], s.st⟩) (i + 1) ⟨[some (.sh (.int (n : Nat))), some (.sh (.lst (LL.map ltD))), some (.sh (.dic (kD ltD LL))), some (.ol (((LL.take i).filter (gP n LL)).map ltD)), o4, o5, o6], s.st⟩ := fun o4 o5 o6 hf =>
      ⟨o4, o5, o6, by omega, by rw [htk, List.filter_append, List.filter_cons, hf]; simp⟩
    have add : ∀ o4 o5 o6, gP n LL LL[i] = true → (fun (i : Nat) (s' : S) => ∃ (o4 o5 o6 : Option L), (i ≤ LL.length) ∧ s' = ⟨[some (.sh (.int (n : Nat))), some (.sh (.lst (LL.map ltD))), some (.sh (.dic (kD ltD LL))), some (.ol (((LL.take i).filter (gP n LL)).map ltD)), o4, o5, o6], s.st⟩) (i + 1) ⟨[some (.sh (.int (n : Nat))), some (.sh (.lst (LL.map ltD))), some (.sh (.dic (kD ltD LL))), some (.ol (((LL.take i).filter (gP n LL)).map ltD ++ [ltD LL[i]])), o4, o5, o6], s.st⟩ := fun o4 o5 o6 hf =>
      ⟨o4, o5, o6, by omega, by rw [htk, List.filter_append, List.filter_cons, hf]; simp⟩
    generalize LL[i] = lot at hlot go add ⊢
    fail "SA"
    rw [rgN]
    refine w_lcG (fun m : Nat => !decide (m ∈ lot)) nI rfl (by rw [List.length_range]; unfold lineN; omega) (fun m hm => ⟨_, rfl, rfl, ?_⟩) ?_
    · fail "SA"
      refine ⟨rfl, rfl, fun _ => ?_⟩
      fail "SA"
      exact ⟨rfl, rfl⟩
    have hout : (out n lot).length ≤ 12 := by
      have := List.length_filter_le (fun m : Nat => !decide (m ∈ lot)) (List.range n)
      rw [List.length_range] at this
      unfold out; omega
    rw [show ((List.range n).filter fun m : Nat => !decide (m ∈ lot)) = out n lot from rfl]
    fail "SA"
    refine w_lcF (fun m : Nat => D.bl (decide (sN (lot ++ [m]) ∈ LL))) rfl (by unfold lineN; omega) (fun m hm => ⟨_, rfl, rfl, ?_⟩) ?_
    · fail "SA"
      refine w_sortTu (ns := (lot ++ [m]).map fun a => ((a : Nat) : Int)) (by show D.tup _ = D.tup _; rw [List.map_map, List.map_append]; rfl) ?_
      rw [sN_D]
      fail "SA"
      refine w_inKD kE_lot (x := sN (lot ++ [m])) (neg := false) ?_
      fail "SA"
      exact ⟨rfl, by simp⟩
    fail "SA"
    refine w_any (p := fun m => decide (sN (lot ++ [m]) ∈ LL)) rfl ?_
    fail "SA"
    unfold gP at go add
    cases hany : (out n lot).any fun m => decide (sN (lot ++ [m]) ∈ LL) with
    | true =>
      fail "SA"
      exact go _ _ _ (by rw [hany]; rfl)
    | false =>
      fail "SA"
      refine w_appN rfl (by rw [List.length_map]; unfold lineN; omega) (by repeat (first | exact SetAt.z | apply SetAt.s)) ?_
      fail "SA"
      exact add _ _ _ (by rw [hany]; rfl)
  · subst hS
    fail "SA"
    rw [List.take_length]
    exact q
theorem G_facts {bs : List (Nat × Nat)} {n : Nat} (hn : n ≤ 12) : (G bs n n).Nodup ∧ (G bs n n).length ≤ 4096 ∧ ∀ l ∈ G bs n n, l.length ≤ 12 :=
  ⟨(G_le bs (Nat.le_refl _)).2, Nat.le_trans (G_len n) (pow12 (Nat.le_refl _) hn), fun l hl => Nat.le_trans (G_small (Nat.le_refl _) hl) hn⟩
theorem sp_top {most : Nat} {ns : List Str} {ps : List (Nat × Nat)} (h : Cr most ns ps) (hm : most ≤ 12) (q : Q (.ol (((G ps ns.length ns.length).filter (gP ns.length (G ps ns.length ns.length))).map ltD)) s) : wm (callN 1 F_top_phases [crI ns ps]) s Q := by
  refine w_call r_top_phases rfl ?_
  show ws m_top_phases ⟨[some (.sh (crI ns ps))], s.st⟩ _ _ _ _
  have e1 : (ns.map D.str).length = ns.length := List.length_map ..
  have h2 := h.h2
  obtain ⟨f1, f2, f3⟩ := G_facts (bs := ps) (n := ns.length) (by omega)
  unfold m_top_phases
  fail "SA"
  rw [e1]
  refine sp_every h hm ?_
  fail "SA"
  exact sp_great (by omega) f1 f2 f3 q
theorem sp_gph {most : Nat} {ns : List Str} {ps : List (Nat × Nat)} (h : Cr most ns ps) (hm : most ≤ 12) (q : Q (.sh (.tup (((G ps ns.length ns.length).filter (gP ns.length (G ps ns.length ns.length))).map ltD))) s) : wm (callN 1 F_greatest_phases [crI ns ps]) s Q := by
  refine w_call r_greatest_phases rfl ?_
  show ws m_greatest_phases ⟨[some (.sh (crI ns ps))], s.st⟩ _ _ _ _
  unfold m_greatest_phases
  fail "SA"
  refine sp_top h hm ?_
  fail "SA"
  exact q
theorem sp_gcl {most : Nat} {ns : List Str} {ps : List (Nat × Nat)} (h : Cr most ns ps) (hm : most ≤ 12) (q : Q (.sh (.tup (((G (ops ns.length ps) ns.length ns.length).filter (gP ns.length (G (ops ns.length ps) ns.length ns.length))).map ltD))) s) : wm (callN 1 F_greatest_cliques [crI ns ps]) s Q := by
  refine w_call r_greatest_cliques rfl ?_
  show ws m_greatest_cliques ⟨[some (.sh (crI ns ps)), none, none, none, none], s.st⟩ _ _ _ _
  have e1 : (ns.map D.str).length = ns.length := List.length_map ..
  have h1 := h.h1
  have h2 := h.h2
  have ho := ops_Cr h
  have hpl := ho.len
  have hnn : ns.length * ns.length ≤ 12 * 12 := Nat.mul_le_mul (by omega) (by omega)
  obtain ⟨f1, f2, f3⟩ := G_facts (bs := ops ns.length ps) (n := ns.length) (by omega)
  unfold m_greatest_cliques
  fail "SA"
  rw [e1]
  fail "SA"
  refine sp_opp h hm ?_
  fail "SA"
  refine w_dcT kE_pair (nd_of ho.so) rfl (by unfold lineN; omega) (fun p _ => ⟨_, rfl, rfl, ?_⟩) ?_
  · fail "SA"
    refine ⟨rfl, rfl, ?_⟩
    fail "SA"
    exact ⟨rfl, rfl⟩
  fail "SA"
  refine sp_flots (by omega) ?_
  fail "SA"
  refine sp_great (by omega) f1 f2 f3 ?_
  fail "SA"
  have hfl := List.length_filter_le (gP ns.length (G (ops ns.length ps) ns.length ns.length)) (G (ops ns.length ps) ns.length ns.length)
  refine w_lcG (fun l : List Nat => !decide (l = [])) ltD rfl (by unfold lineN; omega) (fun l hl => ⟨_, rfl, rfl, ?_⟩) ?_
  · fail "SA"
    refine ⟨rfl, ?_, fun _ => ?_⟩
    · cases l <;> rfl
    · fail "SA"
      exact ⟨rfl, rfl⟩
  rw [great_ne h1]
  fail "SA"
  exact q
theorem sp_madeof {most : Nat} {ns : List Str} {ps : List (Nat × Nat)} (h : Cr most ns ps) (hm : most ≤ 12) (q : Q (.oi false "Crossing" (crF ns ps)) s) : wm (callN 2 F_made_of [nmD ns, .lst (ps.map pairD)]) s Q := by
  refine w_call r_made_of rfl ?_
  show ws m_made_of ⟨[some (.sh (nmD ns)), some (.sh (.lst (ps.map pairD))), none, none], s.st⟩ _ _ _ _
  have hpl := h.len
  have hpl2 : ns.length * ns.length ≤ 12 * 12 := Nat.mul_le_mul (by have := h.h2; omega) (by have := h.h2; omega)
  unfold m_made_of
  fail "SA"
  refine w_lcF (npD ns) rfl (by unfold lineN; omega) (fun p hp => ⟨_, rfl, rfl, ?_⟩) ?_
  · have hl := h.lt p hp
    fail "SA"
    refine w_ixW (.inr rfl) (atI_nat (by rw [List.getElem?_map, getD_mem (by omega)]; rfl)) ?_
    fail "SA"
    refine w_ixW (.inr rfl) (atI_nat (by rw [List.getElem?_map, getD_mem (by omega)]; rfl)) ?_
    fail "SA"
    exact ⟨rfl, rfl⟩
  fail "SA"
  exact sp_cro h hm q
theorem sp_opposite {most : Nat} {ns : List Str} {ps : List (Nat × Nat)} (h : Cr most ns ps) (hm : most ≤ 12) (q : Q (.oi false "Crossing" (crF ns (ops ns.length ps))) s) : wm (callN 1 F_opposite [crI ns ps]) s Q := by
  refine w_call r_opposite rfl ?_
  show ws m_opposite ⟨[some (.sh (crI ns ps))], s.st⟩ _ _ _ _
  unfold m_opposite
  fail "SA"
  refine sp_opp h hm ?_
  fail "SA"
  exact sp_madeof (ops_Cr h) hm q
/-! by the law -/
theorem embLs : Emb (fun lps : List (List Nat) => D.lst (lps.map ltD)) (fun lps => ∀ l ∈ lps, ∀ x ∈ l, True) 2 := emb_lst (emb_tup embN)
theorem eqD_nilL (lps : List (List Nat)) : eqD (.lst (lps.map ltD)) (.lst []) = some (decide (lps = [])) := embLs.eq (x := lps) (y := []) (by decide) (fun _ _ _ _ => trivial) (fun _ h => by cases h)
theorem eqD_nilN (l : List Nat) : eqD (.lst (l.map nI)) (.lst []) = some (decide (l = [])) := (emb_lst embN).eq (x := l) (y := []) (by decide) (fun _ _ => trivial) (fun _ h => by cases h)
theorem sp_lgreat {LL : List (List Nat)} (hl : LL.length ≤ 4096) (hs : ∀ l ∈ LL, l.length ≤ 12) (q : Q (.ol ((LL.filter (gO LL)).map ltD)) s) : wm (callN 1 F__law_greatest_of [.lst (LL.map ltD)]) s Q := by
  refine w_call r__law_greatest_of rfl ?_
  show ws m__law_greatest_of ⟨[some (.sh (.lst (LL.map ltD))), none, none, none, none, none], s.st⟩ _ _ _ _
  unfold m__law_greatest_of
  fail "SA"
  refine s_forL (fun (i : Nat) (s' : S) => ∃ (o2 o3 o4 o5 : Option L), (i ≤ LL.length) ∧ s' = ⟨[some (.sh (.lst (LL.map ltD))), some (.ol (((LL.take i).filter (gO LL)).map ltD)), o2, o3, o4, o5], s.st⟩) ⟨none, none, none, none, Nat.zero_le _, rfl⟩ (fun i hi s' ⟨o2, o3, o4, o5, hil, hS⟩ => ?_) (fun s' ⟨o2, o3, o4, o5, hil, hS⟩ => ?_)
  · subst hS
    have hlot := hs _ (List.getElem_mem hi)
    have htk : LL.take (i + 1) = LL.take i ++ [LL[i]] := by rw [List.take_succ, List.getElem?_eq_getElem hi]; rfl
    have hfl := List.length_filter_le (gO LL) (LL.take i)
    rw [List.length_take] at hfl
    have go : ∀ o2 o3 o4 o5, gO LL LL[i] = false → (fun (i : Nat) (s' : S) => ∃ (o2 o3 o4 o5 : Option L), (i ≤ LL.length) ∧ s' = ⟨[some (.sh (.lst (LL.map ltD))), some (.ol (((LL.take i).filter (gO LL)).map ltD)), o2, o3, o4, o5], s.st⟩) (i + 1) ⟨[some (.sh (.lst (LL.map ltD))), some (.ol (((LL.take i).filter (gO LL)).map ltD)), o2, o3, o4, o5], s.st⟩ := fun o2 o3 o4 o5 hf =>
      ⟨o2, o3, o4, o5, by omega, by rw [htk, List.filter_append, List.filter_cons, hf]; simp⟩
    have add : ∀ o2 o3 o4 o5, gO LL LL[i] = true → (fun (i : Nat) (s' : S) => ∃ (o2 o3 o4 o5 : Option L), (i ≤ LL.length) ∧ s' = ⟨[some (.sh (.lst (LL.map ltD))), some (.ol (((LL.take i).filter (gO LL)).map ltD)), o2, o3, o4, o5], s.st⟩) (i + 1) ⟨[some (.sh (.lst (LL.map ltD))), some (.ol (((LL.take i).filter (gO LL)).map ltD ++ [ltD LL[i]])), o2, o3, o4, o5], s.st⟩ := fun o2 o3 o4 o5 hf =>
      ⟨o2, o3, o4, o5, by omega, by rw [htk, List.filter_append, List.filter_cons, hf]; simp⟩
    generalize LL[i] = lot at hlot go add ⊢
    fail "SA"
    refine w_lcG (prO lot) ltD rfl (by unfold lineN; omega) (fun one hm => ⟨_, rfl, rfl, ?_⟩) ?_
    · have hone := hs one hm
      have em1 : (lot.map nI).length = lot.length := List.length_map ..
      have em2 : (one.map nI).length = one.length := List.length_map ..
      fail "SA"
      · refine w_lcG (fun a : Nat => !decide (a ∈ one)) nI rfl (by unfold lineN; omega) (fun a ha => ⟨_, rfl, rfl, ?_⟩) ?_
        · fail "SA"
          refine ⟨rfl, rfl, fun _ => ?_⟩
          fail "SA"
          exact ⟨rfl, rfl⟩
        fail "SA"
        refine w_eqD (eqD_nilN _) ?_
        refine ⟨_, rfl, rfl, ?_, fun _ => ?_⟩
        · unfold prO
          rw [decide_eq_true (show lot.length < one.length by omega), Bool.true_and]
        · fail "SA"
          exact ⟨rfl, rfl⟩
      · refine ⟨rfl, ?_, fun hz => ?_⟩
        · unfold prO
          rw [decide_eq_false (show ¬ lot.length < one.length by omega), Bool.false_and]
        · unfold prO at hz
          rw [decide_eq_false (show ¬ lot.length < one.length by omega), Bool.false_and] at hz
          cases hz
    fail "SA"
    refine w_eqD (eqD_nilL _) ?_
    rw [show decide (LL.filter (prO lot) = []) = gO LL lot from rfl]
    cases hg : gO LL lot with
    | true =>
      fail "SA"
      refine w_appN rfl (by rw [List.length_map]; unfold lineN; omega) (by repeat (first | exact SetAt.z | apply SetAt.s)) ?_
      fail "SA"
      exact add _ _ _ _ hg
    | false =>
      fail "SA"
      exact go _ _ _ _ hg
  · subst hS
    fail "SA"
    rw [List.take_length]
    exact q
end
end Kt

namespace Kt
open PySem PySem.Spec L2 Bv
set_option hygiene false
local macro_rules | `(tactic| fail "S1") => `(tactic| (first | with_reducible refine s_seq ?_ | with_reducible refine w_lc2S ?_ | with_reducible refine s_nil ?_ | with_reducible refine s_ag ?_ | with_reducible refine s_rt ?_ | with_reducible refine s_ex ?_ | with_reducible refine s_for ?_ | with_reducible refine s_par2 ?_ | with_reducible refine s_par3 ?_ | with_reducible refine w_pure ?_ | with_reducible refine w_dM ?_ | with_reducible refine w_sM ?_ | with_reducible refine w_th ?_ | with_reducible refine w_fn ?_ | with_reducible refine w_rg ?_ | with_reducible refine w_it ?_ | with_reducible refine w_nil ?_ | with_reducible refine w_cons ?_ | with_reducible refine w_bin2 ?_ | with_reducible refine w_addI ?_ | with_reducible refine w_subI ?_ | with_reducible refine w_ltI ?_ | with_reducible refine w_leI ?_ | with_reducible refine w_gtI ?_ | with_reducible refine w_geI ?_ | with_reducible refine w_eqS ?_ | with_reducible refine w_neS ?_ | with_reducible refine w_eqI ?_ | with_reducible refine w_neI ?_ | with_reducible refine w_int ?_ | with_reducible refine w_ixM ?_ | with_reducible refine w_cmpT ?_ | with_reducible refine w_notT ?_ | with_reducible refine w_blT ?_ | with_reducible refine w_yes ?_ | with_reducible refine w_chM ?_ | with_reducible refine w_lcS ?_ | with_reducible refine w_itL ?_ | with_reducible refine w_ix0T ?_ | with_reducible refine w_ix0L ?_ | with_reducible refine w_ix0O ?_ | with_reducible refine w_ix1T ?_ | with_reducible refine w_ix1L ?_ | with_reducible refine w_ix1O ?_ | with_reducible refine w_ix2T ?_ | with_reducible refine w_ix2L ?_ | with_reducible refine w_ix2O ?_ | with_reducible refine w_ix3T ?_ | with_reducible refine w_ix3L ?_ | with_reducible refine w_ix3O ?_ | with_reducible refine w_itT ?_ | with_reducible refine w_itC ?_ | with_reducible refine w_lstS ?_ | with_reducible refine w_lstL ?_ | with_reducible refine w_lstT ?_ | with_reducible refine w_lstO ?_ | with_reducible refine w_tupT ?_ | with_reducible refine w_tupL ?_ | with_reducible refine w_tupO ?_ | with_reducible refine w_dd ?_ | with_reducible refine s_asT1 ?_ | with_reducible refine s_stS ?_ | with_reducible refine w_max2 ?_ | with_reducible refine w_min2 ?_ | with_reducible refine s_asT0 ?_ | with_reducible refine w_gcd ?_ | with_reducible refine w_idxM ?_ | with_reducible refine w_enW ?_ | with_reducible refine w_enT ?_ | with_reducible refine w_zpL ?_ | with_reducible refine w_zpT ?_ | with_reducible refine w_rgOf ?_ | with_reducible refine w_rgOf2 ?_ | with_reducible refine w_inN ?_ | with_reducible refine w_inLs ?_ | with_reducible refine w_inLo ?_ | with_reducible refine w_dcS ?_ | with_reducible refine w_inK ?_ | with_reducible refine w_noP ?_ | with_reducible refine w_soP ?_ | with_reducible refine w_slM ?_ | with_reducible refine s_op ?_ | with_reducible refine w_inLd ?_ | with_reducible refine w_itS ?_ | with_reducible refine w_joM ?_ | with_reducible refine w_inLF ?_ | with_reducible refine w_inLT ?_ | with_reducible refine w_inPF ?_ | with_reducible refine w_cmLs ?_ | with_reducible refine w_cmLns ?_ | with_reducible refine w_cmLo ?_ | with_reducible refine w_cmLno ?_ | with_reducible refine w_eqOl ?_ | with_reducible refine w_eqOt ?_ | with_reducible refine w_eqOi ?_ | with_reducible refine w_eqOb ?_ | with_reducible refine w_eqOs ?_ | with_reducible refine w_neOl ?_ | with_reducible refine w_neOt ?_ | with_reducible refine w_neOi ?_ | with_reducible refine w_neOb ?_ | with_reducible refine w_neOs ?_ | ((with_reducible apply w_esc); (focus exact rfl)) | ((with_reducible apply w_sl); (focus exact rfl)) | ((with_reducible apply s_asN); (focus (repeat (first | exact SetAt.z | apply SetAt.s)))) | ((with_reducible apply w_ixN); (focus exact rfl)) | ((with_reducible apply w_slN); (focus exact rfl)) | ((with_reducible apply w_slL); (focus exact rfl)) | ((with_reducible apply w_slT); (focus exact rfl)) | ((with_reducible apply w_escO); (focus exact rfl); (focus (repeat (first | exact SetAt.z | apply SetAt.s)))) | ((with_reducible apply w_mv); (focus exact rfl); (focus (repeat (first | exact SetAt.z | apply SetAt.s)))) | ((with_reducible refine w_modI ?_ ?_); (focus first | omega | decide)) | ((with_reducible refine w_fdvI ?_ ?_ ?_); (focus first | omega | decide); (focus first | omega | decide)) | ((with_reducible refine w_powI ?_ ?_); (focus decide)) | ((with_reducible refine w_mulI ?_ ?_); (focus first | exact .inr (by decide) | exact .inl (by decide) | exact .inr (by constructor <;> omega) | exact .inl (by constructor <;> omega))) | ((with_reducible apply w_app); (focus exact rfl)) | ((with_reducible apply w_cmN); (focus exact rfl)) | ((with_reducible apply w_appN); (focus exact rfl); (focus first | decide | (simp only [List.length_cons, List.length_nil]; decide)); (focus (repeat (first | exact SetAt.z | apply SetAt.s)))) | ((with_reducible apply w_isi); (focus exact rfl); (focus assumption)) | ((with_reducible apply w_isF); (focus exact rfl)) | ((with_reducible apply w_isN); (focus exact rfl)) | ((with_reducible apply w_fldS); (focus exact rfl)) | ((with_reducible apply s_stN); (focus exact rfl); (focus exact Nat.le_of_ble_eq_true rfl); (focus (repeat (first | exact SetAt.z | apply SetAt.s)))) | ((with_reducible apply w_fldO); (focus exact rfl)) | ((with_reducible refine w_rg1 ?_ ?_); (focus first | (constructor <;> omega) | decide)) | ((with_reducible refine w_rg2 ?_ ?_); (focus first | (refine ⟨?_, ?_, ?_, ?_⟩ <;> omega) | decide)) | ((with_reducible refine w_rgW ?_ ?_); (focus constructor <;> omega)) | ((with_reducible refine w_rgW2 ?_ ?_); (focus refine ⟨⟨?_, ?_⟩, ⟨?_, ?_⟩, ?_⟩ <;> omega)) | ((with_reducible refine w_addT ?_ ?_); (focus (simp only [List.length_map, List.length_replicate, List.length_cons, List.length_nil, List.length_range]; unfold lineN; omega))) | ((with_reducible refine w_mul1 ?_ ?_); (focus constructor <;> omega)) | ((with_reducible refine w_tup ?_ ?_); (focus exact Nat.le_of_ble_eq_true rfl)) | ((with_reducible refine w_lst ?_ ?_); (focus exact Nat.le_of_ble_eq_true rfl)) | ((with_reducible refine w_pen_at ?_ ?_); (focus exact rfl)) | ((with_reducible refine s_pen_at ?_ ?_ ?_); (focus exact rfl); (focus exact rfl)) | ((with_reducible refine w_pen_digits ?_ ?_); (focus exact rfl)) | ((with_reducible refine s_pen_digits ?_ ?_); (focus exact rfl)) | ((with_reducible refine w_pen_count ?_ ?_); (focus exact rfl)) | ((with_reducible refine s_pen_count ?_ ?_); (focus exact rfl)) | ((with_reducible refine w_pen_fold ?_ ?_); (focus exact rfl)) | ((with_reducible refine s_pen_fold ?_ ?_); (focus exact rfl)) | ((with_reducible refine w_pen_cells ?_ ?_); (focus exact rfl)) | with_reducible refine s_dp ?_ | with_reducible refine if_not ?_ | with_reducible refine if_tt ?_ | with_reducible refine if_ff ?_ | ((with_reducible refine if_decT ?_ ?_); (focus first | omega | (simp only [List.length_cons, List.length_nil]; omega))) | ((with_reducible refine if_decF ?_ ?_); (focus first | omega | (simp only [List.length_cons, List.length_nil]; omega))) | with_reducible refine if_dec (fun hc => ?_) (fun hc => ?_) | with_reducible refine s_if ?_ | with_reducible refine w_andT ?_ | with_reducible refine w_orT ?_ | with_reducible refine w_andM ?_ | with_reducible refine w_orM ?_ | with_reducible refine w_notM ?_ | with_reducible refine w_ifM ?_ | with_reducible refine w_truT ?_ | with_reducible refine w_negI ?_ | with_reducible refine ex_truB ?_ | with_reducible refine ⟨_, rfl, ?_⟩ | dsimp only [L.d] | ((with_reducible refine if_t ?_ ?_); (focus exact rfl)) | ((with_reducible refine if_f ?_ ?_); (focus exact rfl)) | ((with_reducible apply w_len); (focus exact .inl rfl)) | ((with_reducible apply w_len); (focus exact .inr rfl))))
local macro_rules | `(tactic| fail "SA") => `(tactic| (repeat' fail "S1"))
local macro_rules | `(tactic| fail "SR") => `(tactic| (repeat fail "S1"))
set_option hygiene true
open PyProof.Rows hiding pairD
/-! cliques by the law; comparisons -/
theorem y_CC : isiT isiL [Str.ofString "Crossing"] (Bv.Ty.c "Crossing") = some true := by decide +kernel
theorem eqT_nilN (l : List Nat) : eqD (.tup (l.map nI)) (.tup []) = some (decide (l = [])) := (emb_tup embN).eq (x := l) (y := []) (by decide) (fun _ _ => trivial) (fun _ h => by cases h)
section
variable {s : S} {Q : L → S → Prop}
theorem pI_len (lot : List Nat) : ∀ k, (pI lot k).length ≤ k * lot.length
  | 0 => by simp [pI]
  | k + 1 => by
    have := pI_len lot k
    unfold pI at this ⊢
    rw [List.range_succ, List.flatMap_append, List.length_append, Nat.succ_mul]
    simp only [List.flatMap_cons, List.flatMap_nil, List.append_nil, List.length_map, List.length_drop]
    omega
theorem pI_succ (lot : List Nat) (k : Nat) : pI lot (k + 1) = pI lot k ++ (lot.drop (k + 1)).map fun b => (lot.getD k 0, b) := by
  unfold pI
  rw [List.range_succ, List.flatMap_append]
  simp
theorem sp_lcliques {most : Nat} {ns : List Str} {ps : List (Nat × Nat)} (h : Cr most ns ps) (hm : most ≤ 12) (q : Q (.ol (((LN ns.length).filter (clq ps)).map ltD)) s) : wm (callN 1 F__law_cliques [crD ns ps]) s Q := by
  refine w_call r__law_cliques rfl ?_
  show ws m__law_cliques ⟨[some (.sh (crD ns ps)), none, none, none, none, none, none], s.st⟩ _ _ _ _
  have e1 : (ns.map D.str).length = ns.length := List.length_map ..
  have h2 := h.h2
  have hp := pow12 (i := ns.length) (n := most) h2 hm
  have hll := LN_len ns.length
  unfold m__law_cliques
  fail "SA"
  rw [e1]
  refine sp_lots (by omega) ?_
  fail "SA"
  refine s_forL (fun (i : Nat) (s' : S) => ∃ (o2 o3 o4 o5 o6 : Option L), (i ≤ (LN ns.length).length) ∧ s' = ⟨[some (.sh (crD ns ps)), some (.ol ((((LN ns.length).take i).filter (clq ps)).map ltD)), o2, o3, o4, o5, o6], s.st⟩) ⟨none, none, none, none, none, Nat.zero_le _, rfl⟩ (fun i hi s' ⟨o2, o3, o4, o5, o6, hil, hS⟩ => ?_) (fun s' ⟨o2, o3, o4, o5, o6, hil, hS⟩ => ?_)
  · subst hS
    have hlot : (LN ns.length)[i].length ≤ ns.length := (lotsU_ok (mem_LN.mp (List.getElem_mem hi))).2.2
    have htk : (LN ns.length).take (i + 1) = (LN ns.length).take i ++ [(LN ns.length)[i]] := by rw [List.take_succ, List.getElem?_eq_getElem hi]; rfl
    have hfl := List.length_filter_le (clq ps) ((LN ns.length).take i)
    rw [List.length_take] at hfl
    have go : ∀ o2 o3 o4 o5 o6, clq ps (LN ns.length)[i] = false → (fun (i : Nat) (s' : S) => ∃ (o2 o3 o4 o5 o6 : Option L), (i ≤ (LN ns.length).length) ∧ s' = ⟨[some (.sh (crD ns ps)), some (.ol ((((LN ns.length).take i).filter (clq ps)).map ltD)), o2, o3, o4, o5, o6], s.st⟩) (i + 1) ⟨[some (.sh (crD ns ps)), some (.ol ((((LN ns.length).take i).filter (clq ps)).map ltD)), o2, o3, o4, o5, o6], s.st⟩ := fun o2 o3 o4 o5 o6 hf =>
      ⟨o2, o3, o4, o5, o6, by omega, by rw [htk, List.filter_append, List.filter_cons, hf]; simp⟩
    have add : ∀ o2 o3 o4 o5 o6, clq ps (LN ns.length)[i] = true → (fun (i : Nat) (s' : S) => ∃ (o2 o3 o4 o5 o6 : Option L), (i ≤ (LN ns.length).length) ∧ s' = ⟨[some (.sh (crD ns ps)), some (.ol ((((LN ns.length).take i).filter (clq ps)).map ltD)), o2, o3, o4, o5, o6], s.st⟩) (i + 1) ⟨[some (.sh (crD ns ps)), some (.ol ((((LN ns.length).take i).filter (clq ps)).map ltD ++ [ltD (LN ns.length)[i]])), o2, o3, o4, o5, o6], s.st⟩ := fun o2 o3 o4 o5 o6 hf =>
      ⟨o2, o3, o4, o5, o6, by omega, by rw [htk, List.filter_append, List.filter_cons, hf]; simp⟩
    generalize (LN ns.length)[i] = lot at hlot go add ⊢
    have em : (lot.map nI).length = lot.length := List.length_map ..
    fail "SA"
    rw [em]
    refine s_forR (n := lot.length) (fun (j : Nat) (s' : S) => ∃ (o4 o5 o6 : Option L), (j ≤ lot.length) ∧ s' = ⟨[some (.sh (crD ns ps)), some (.ol ((((LN ns.length).take i).filter (clq ps)).map ltD)), some (.sh (ltD lot)), some (.ol ((pI lot j).map pairD)), o4, o5, o6], s.st⟩) (by omega) ⟨_, _, _, Nat.zero_le _, rfl⟩ (fun j s' hj ⟨o4, o5, o6, hjl, hS⟩ => ?_) (fun s' ⟨o4, o5, o6, hjl, hS⟩ => ?_)
    · subst hS
      have hpl := pI_len lot j
      have hm1 : j * lot.length ≤ 12 * 12 := Nat.mul_le_mul (by omega) (by omega)
      fail "SA"
      refine w_ext rfl ?_
      fail "SA"
      rw [show ((j : Nat) : Int) + 1 = ((j + 1 : Nat) : Int) from rfl, cut_drop (by omega), ← List.map_drop]
      refine w_lcF (fun b : Nat => pairD (lot.getD j 0, b)) rfl (by rw [List.length_drop]; unfold lineN; omega) (fun b hb => ⟨_, rfl, rfl, ?_⟩) ?_
      · fail "SA"
        refine w_ixW (.inr rfl) (atN hj) ?_
        fail "SA"
        exact ⟨rfl, rfl⟩
      rw [show ((lot.drop (j + 1)).map fun b => pairD (lot.getD j 0, b)) = ((lot.drop (j + 1)).map fun b => (lot.getD j 0, b)).map pairD by rw [List.map_map]; rfl]
      fail "SA"
      refine w_extN rfl (by rw [List.length_map, List.length_map, List.length_map, List.length_drop]; unfold lineN; omega) (by repeat (first | exact SetAt.z | apply SetAt.s)) ?_
      fail "SA"
      rw [← List.map_append, ← pI_succ]
      exact ⟨_, _, _, by omega, rfl⟩
    · subst hS
      have hpl := pI_len lot lot.length
      have hm1 : lot.length * lot.length ≤ 12 * 12 := Nat.mul_le_mul (by omega) (by omega)
      fail "SA"
      refine w_neD (eqT_nilN lot) ?_
      unfold clq at go add
      cases hn : decide (lot = []) with
      | true =>
        rw [hn] at go
        fail "SA"
        exact go _ _ _ _ _ rfl
      | false =>
        rw [hn] at go add
        fail "SA"
        refine w_lcG (fun p : Nat × Nat => !decide (p ∈ ps)) pairD rfl (by unfold lineN; omega) (fun p hp => ⟨_, rfl, rfl, ?_⟩) ?_
        · fail "SA"
          refine w_inD (embPr.inL (x := p) (ys := ps) (by decide) ⟨trivial, trivial⟩ fun _ _ => ⟨trivial, trivial⟩).2 ?_
          fail "SA"
          refine ⟨rfl, by simp, fun _ => ?_⟩
          fail "SA"
          exact ⟨rfl, rfl⟩
        fail "SA"
        refine w_eqNp ?_
        cases hq : decide ((pI lot lot.length).filter (fun p => !decide (p ∈ ps)) = []) with
        | true =>
          fail "SA"
          refine w_appN rfl (by rw [List.length_map]; unfold lineN; omega) (by repeat (first | exact SetAt.z | apply SetAt.s)) ?_
          fail "SA"
          exact add _ _ _ _ _ (by rw [hq]; rfl)
        | false =>
          fail "SA"
          exact go _ _ _ _ _ (by rw [hq]; rfl)
  · subst hS
    fail "SA"
    rw [List.take_length]
    exact q
theorem sp_lgph {most : Nat} {ns : List Str} {ps : List (Nat × Nat)} (h : Cr most ns ps) (hm : most ≤ 12) (q : Q (.ol ((((LN ns.length).filter (freeL ps)).filter (gO ((LN ns.length).filter (freeL ps)))).map ltD)) s) : wm (callN 1 F__law_greatest_phases [crD ns ps]) s Q := by
  refine w_call r__law_greatest_phases rfl ?_
  show ws m__law_greatest_phases ⟨[some (.sh (crD ns ps))], s.st⟩ _ _ _ _
  have h2 := h.h2
  have hp := pow12 (i := ns.length) (n := most) h2 hm
  have hll := LN_len ns.length
  have hfl := List.length_filter_le (freeL ps) (LN ns.length)
  unfold m__law_greatest_phases
  fail "SA"
  refine sp_phases h hm ?_
  fail "SA"
  exact sp_lgreat (by omega) (fun l hl => by have := (lotsU_ok (mem_LN.mp (List.mem_filter.mp hl).1)).2.2; omega) q
theorem sp_plain {ns : List Str} {ps : List (Nat × Nat)} (q : Q (.sh (crD ns ps)) s) : wm (callN 1 F__law_plain [crI ns ps]) s Q := by
  refine w_call r__law_plain rfl ?_
  show ws m__law_plain ⟨[some (.sh (crI ns ps))], s.st⟩ _ _ _ _
  have y1 := y_CC
  unfold m__law_plain
  fail "SA"
  exact q
theorem embC : Emb (fun c : List Str × List (Nat × Nat) => .tup [nmD c.1, .tup (c.2.map pairD)]) (fun c => (∀ x ∈ c.1, PyData.strOk x = true) ∧ ∀ p ∈ c.2, True ∧ True) 3 := emb_pair (emb_tup (emb_str.up (Nat.zero_le 1))) (emb_tup embPr)
theorem sp_eqC {ns : List Str} {ps ps' : List (Nat × Nat)} (h : ∀ x ∈ ns, PyData.strOk x = true) (q : Q (.sh (.bl (decide (ps = ps')))) s) : wm (callN 2 F_Crossing_eq [crI ns ps, crI ns ps']) s Q := by
  refine w_call r_Crossing_eq rfl ?_
  show ws m_Crossing_eq ⟨[some (.sh (crI ns ps)), some (.sh (crI ns ps'))], s.st⟩ _ _ _ _
  have y1 := y_CC
  unfold m_Crossing_eq
  fail "SA"
  refine w_eqE embC (x := (ns, ps)) (y := (ns, ps')) (by decide) ⟨h, fun _ _ => ⟨trivial, trivial⟩⟩ ⟨h, fun _ _ => ⟨trivial, trivial⟩⟩ ?_
  rw [show decide ((ns, ps) = (ns, ps')) = decide (ps = ps') from decide_eq_decide.mpr ⟨fun e => (Prod.mk.inj e).2, fun e => by rw [e]⟩]
  exact q
theorem sp_neC {ns : List Str} {ps ps' : List (Nat × Nat)} (h : ∀ x ∈ ns, PyData.strOk x = true) (q : Q (.sh (.bl (!decide (ps = ps')))) s) : wm (callN 2 F_Crossing_ne [crI ns ps, crI ns ps']) s Q := by
  refine w_call r_Crossing_ne rfl ?_
  show ws m_Crossing_ne ⟨[some (.sh (crI ns ps)), some (.sh (crI ns ps'))], s.st⟩ _ _ _ _
  unfold m_Crossing_ne
  fail "SA"
  refine w_eqOo (b := decide (ps = ps')) rfl ?_
  refine sp_eqC h ?_
  refine ⟨rfl, ?_⟩
  fail "SA"
  exact q
/-! what the law looks at -/
theorem is_hF : ∀ j, F__law_iss (j + 1) = runF n__law_is (mIs isiL (F__law_iss j)) := fun j => congrArg (runF n__law_is) (e__law_is (F__law_iss j))
theorem is_tab : ∀ e ∈ isTabS, isiT isiL [e.1] (.b e.2.1) = some e.2.2 := by decide +kernel
theorem sp_is {d : D} (h : Pls 3 d) (q : Q (.sh (.bl true)) s) : wm (callN 2 F__law_is [d, d]) s Q := is_okS is_tab is_hF rfl 3 d h s Q q
theorem pls_lot {j : Nat} {l : List Nat} (hl : l.length ≤ 1000) : Pls (j + 1) (ltD l) := .tup (fun d hd => by obtain ⟨x, _, rfl⟩ := List.mem_map.mp hd; exact .int _ _) (by rw [List.length_map]; unfold lineN; omega)
theorem pls_lots {ls : List (List Nat)} (h1 : ls.length ≤ 4096) (h2 : ∀ l ∈ ls, l.length ≤ 1000) : Pls 3 (.tup (ls.map ltD)) := .tup (fun d hd => by obtain ⟨x, hx, rfl⟩ := List.mem_map.mp hd; exact pls_lot (h2 x hx)) (by rw [List.length_map]; unfold lineN; omega)
theorem pls_cr {ns : List Str} {ps : List (Nat × Nat)} (h : ∀ x ∈ ns, PyData.strOk x = true) (h1 : ns.length ≤ 1000) (h2 : ps.length ≤ 1000) : Pls 3 (crD ns ps) := by
  refine .tup (fun d hd => ?_) (show (2 : Nat) ≤ lineN by decide)
  rcases List.mem_cons.mp hd with rfl | hd
  · exact .tup (fun d hd => by obtain ⟨x, hx, rfl⟩ := List.mem_map.mp hd; exact .str _ _ (h x hx)) (by rw [List.length_map]; unfold lineN; omega)
  · rw [List.mem_singleton.mp hd]
    refine .tup (fun d hd => ?_) (by rw [List.length_map]; unfold lineN; omega)
    obtain ⟨p, _, rfl⟩ := List.mem_map.mp hd
    refine .tup (fun d hd => ?_) (show (2 : Nat) ≤ lineN by decide)
    rcases List.mem_cons.mp hd with rfl | hd
    · exact .int _ _
    · rw [List.mem_singleton.mp hd]; exact .int _ _
end
theorem law_ws (ns : List Int) : ws m_law (initS n_law [.scr (ns.map D.int)] []) (fun _ => False) (fun l _ => l = .sh (.bl true)) (fun _ => False) (fun _ => False) := by
  show ws m_law ⟨[some (.sh (.scr (ns.map D.int))), none, none, none, none, none, none, none, none, none, none], []⟩ _ _ _ _
  unfold m_law
  fail "SA"
  refine pen_ok FD_pen rfl rfl fun p => ?_
  fail "SA"
  refine s_forR (n := 4) (fun (i : Nat) (s' : S) => ∃ (p : Pen) (o2 o3 o4 o5 o6 o7 o8 o9 o10 : Option L), s' = ⟨[some (.sh (.scr (ns.map D.int))), some (.sh (.mref 0)), o2, o3, o4, o5, o6, o7, o8, o9, o10], [.dic p.fs]⟩) rfl ⟨p, _, _, _, _, _, _, _, _, _, rfl⟩ (fun i s' hi ⟨p, o2, o3, o4, o5, o6, o7, o8, o9, o10, hS⟩ => ?_) (fun s' ⟨p, o2, o3, o4, o5, o6, o7, o8, o9, o10, hS⟩ => ?_)
  · subst hS
    fail "SA"
    refine sp_drawnC (most := 7) rfl (by decide) (by decide) fun nms ps p1 hcr => ?_
    have e1 : (nms.map D.str).length = nms.length := List.length_map ..
    have h1 := hcr.h1
    have h2 := hcr.h2
    have hok : ∀ x ∈ nms, PyData.strOk x = true := fun x hx => (hcr.ok x hx).ch.str
    have hlt : ∀ p ∈ ps, p.1 < p.2 := fun p hp => (hcr.lt p hp).1
    have ho := ops_Cr hcr
    have hpl := hcr.len
    have hol := ho.len
    have hnn : nms.length * nms.length ≤ 12 * 12 := Nat.mul_le_mul (by omega) (by omega)
    obtain ⟨f1, f2, f3⟩ := G_facts (bs := ps) (n := nms.length) (by omega)
    obtain ⟨g1, g2, g3⟩ := G_facts (bs := ops nms.length ps) (n := nms.length) (by omega)
    have hf1 := List.length_filter_le (gP nms.length (G ps nms.length nms.length)) (G ps nms.length nms.length)
    have hf2 := List.length_filter_le (gP nms.length (G (ops nms.length ps) nms.length nms.length)) (G (ops nms.length ps) nms.length nms.length)
    have big : ∀ (bs : List (Nat × Nat)) {l : List Nat}, l ∈ G bs nms.length nms.length → l.length ≤ 1000 := fun bs l hl => by have := (G_facts (bs := bs) (n := nms.length) (by omega)).2.2 l hl; omega
    fail "SA"
    refine sp_made hcr (by decide) ?_
    fail "SA"
    rw [e1]
    fail "SA"
    refine sp_phof hcr (by decide) ?_
    fail "SA"
    refine sp_phases hcr (by decide) ?_
    fail "SA"
    rw [← G_LN hlt]
    refine sp_is (pls_lots f2 fun l hl => big ps hl) ?_
    fail "SA"
    refine sp_gph hcr (by decide) ?_
    fail "SA"
    refine sp_lgph hcr (by decide) ?_
    fail "SA"
    rw [great_ph hlt]
    refine sp_is (pls_lots (by omega) fun l hl => big ps (List.mem_filter.mp hl).1) ?_
    fail "SA"
    refine sp_lcliques hcr (by decide) ?_
    fail "SA"
    refine sp_gcl hcr (by decide) ?_
    fail "SA"
    have hcq := List.length_filter_le (clq ps) (LN nms.length)
    have hLL := LN_len nms.length
    have hp7 := pow12 (i := nms.length) (n := 7) h2 (by decide)
    refine sp_lgreat (by omega) (fun l hl => by have := (lotsU_ok (mem_LN.mp (List.mem_filter.mp hl).1)).2.2; omega) ?_
    fail "SA"
    rw [great_clq h1]
    refine sp_is (pls_lots (by omega) fun l hl => big _ (List.mem_filter.mp hl).1) ?_
    fail "SA"
    refine sp_opposite hcr (by decide) ?_
    fail "SA"
    refine sp_apr (by omega) ?_
    fail "SA"
    have hal := apr_len nms.length nms.length
    refine w_lcG (fun p : Nat × Nat => !decide (p ∈ ps)) pairD rfl (by unfold lineN; omega) (fun p hp => ⟨_, rfl, rfl, ?_⟩) ?_
    · fail "SA"
      refine w_inD (embPr.inL (x := p) (ys := ps) (by decide) ⟨trivial, trivial⟩ fun _ _ => ⟨trivial, trivial⟩).2 ?_
      fail "SA"
      refine ⟨rfl, by simp, fun _ => ?_⟩
      fail "SA"
      exact ⟨rfl, rfl⟩
    rw [show ((apr nms.length nms.length).filter fun p => !decide (p ∈ ps)) = ops nms.length ps from rfl]
    fail "SA"
    refine sp_plain ?_
    fail "SA"
    refine sp_is (pls_cr hok (by omega) (by omega)) ?_
    fail "SA"
    refine sp_opposite ho (by decide) ?_
    fail "SA"
    rw [ops_ops hcr]
    refine w_neOo (b := false) rfl ?_
    refine sp_neC hok ?_
    rw [decide_eq_true rfl]
    refine ⟨rfl, ?_⟩
    fail "SA"
    refine sp_phof ho (by decide) ?_
    fail "SA"
    refine w_lcG (fun l : List Nat => !decide (l = [])) ltD rfl (by unfold lineN; omega) (fun l hl => ⟨_, rfl, rfl, ?_⟩) ?_
    · fail "SA"
      refine w_neD (eqT_nilN l) ?_
      fail "SA"
      refine ⟨rfl, rfl, fun _ => ?_⟩
      fail "SA"
      exact ⟨rfl, rfl⟩
    rw [← clq_G]
    fail "SA"
    refine w_neE embLs (x := (LN nms.length).filter (clq ps)) (y := (LN nms.length).filter (clq ps)) (by decide) (fun _ _ _ _ => trivial) (fun _ _ _ _ => trivial) ?_
    rw [decide_eq_true rfl]
    fail "SA"
    refine sp_gph ho (by decide) ?_
    fail "SA"
    refine sp_gcl hcr (by decide) ?_
    fail "SA"
    refine w_neE (emb_tup (emb_tup embN)) (x := (G (ops nms.length ps) nms.length nms.length).filter (gP nms.length (G (ops nms.length ps) nms.length nms.length))) (y := (G (ops nms.length ps) nms.length nms.length).filter (gP nms.length (G (ops nms.length ps) nms.length nms.length))) (by decide) (fun _ _ _ _ => trivial) (fun _ _ _ _ => trivial) ?_
    rw [decide_eq_true rfl]
    fail "SA"
    exact ⟨_, _, _, _, _, _, _, _, _, _, rfl⟩
  · subst hS
    fail "SA"
theorem plain : Bv.Plain F_law := plain_of r_law fun ns _ => law_ws ns
end Kt

namespace Kt
open PySem PySem.Spec PyProof.Rows L2 Bv
theorem all_mk (plain : Plain F_law) {l : PySem.W.OpenLaw} {w : World} {K : PySem.W.Frag} {h : Heap} {mg : Str → Option Value} {fa : Addr} (X : K.In h) (G : h.Ns mainGlobals mg) (hfa : mg "law" = some (.ref fa)) {C_Crossing f0 f1 f2 f3 f4 f5 f6 f7 f8 f9 f10 f11 f12 f13 f14 f15 f16 f17 f18 f19 f20 f21 f22 f23 f24 f25 f26 f27 f28 f29 f30 f31 f32 : Addr}
    {od0 an0 od1 an1 od2 an2 od3 an3 od4 an4 od5 an5 od6 an6 od7 an7 od8 an8 od9 an9 od10 an10 od11 an11 od12 an12 od13 an13 od14 an14 od15 an15 od16 an16 od17 an17 od18 an18 od19 an19 od20 an20 od21 an21 od22 an22 od23 an23 od24 an24 od25 an25 od26 an26 od27 an27 od28 an28 od29 an29 od30 an30 od31 an31 od32 an32 : Option Addr} {sl0 sl1 sl2 sl3 sl4 sl5 sl6 sl7 sl8 sl9 sl10 sl11 sl12 sl13 sl14 sl15 sl16 sl17 sl18 sl19 sl20 sl21 sl22 sl23 sl24 sl25 sl26 sl27 sl28 sl29 sl30 sl31 sl32 : Array (Option Value)} {oc0 kV0 dc0 pm0 cd0 ct0 oc1 kV1 dc1 pm1 cd1 ct1 oc2 kV2 dc2 pm2 cd2 ct2 oc3 kV3 dc3 pm3 cd3 ct3 oc4 kV4 dc4 pm4 cd4 ct4 oc5 kV5 dc5 pm5 cd5 ct5 oc6 kV6 dc6 pm6 cd6 ct6 oc7 kV7 dc7 pm7 cd7 ct7 oc8 kV8 dc8 pm8 cd8 ct8 oc9 kV9 dc9 pm9 cd9 ct9 oc10 kV10 dc10 pm10 cd10 ct10 oc11 kV11 dc11 pm11 cd11 ct11 oc12 kV12 dc12 pm12 cd12 ct12 oc13 kV13 dc13 pm13 cd13 ct13 oc14 kV14 dc14 pm14 cd14 ct14 oc15 kV15 dc15 pm15 cd15 ct15 oc16 kV16 dc16 pm16 cd16 ct16 oc17 kV17 dc17 pm17 cd17 ct17 oc18 kV18 dc18 pm18 cd18 ct18 oc19 kV19 dc19 pm19 cd19 ct19 oc20 kV20 dc20 pm20 cd20 ct20 oc21 kV21 dc21 pm21 cd21 ct21 oc22 kV22 dc22 pm22 cd22 ct22 oc23 kV23 dc23 pm23 cd23 ct23 oc24 kV24 dc24 pm24 cd24 ct24 oc25 kV25 dc25 pm25 cd25 ct25 oc26 kV26 dc26 pm26 cd26 ct26 oc27 kV27 dc27 pm27 cd27 ct27 oc28 kV28 dc28 pm28 cd28 ct28 oc29 kV29 dc29 pm29 cd29 ct29 oc30 kV30 dc30 pm30 cd30 ct30 oc31 kV31 dc31 pm31 cd31 ct31 oc32 kV32 dc32 pm32 cd32 ct32 : Value}
    {t_LETTERS t_SIGNS t_MOST_STREAMS : Tok}
    (a_Crossing : PySem.W.nsIn K mainGlobals "Crossing" = some (some (.ref C_Crossing)))
    (a0 : PySem.W.findIn K (.ref C_Crossing) "__eq__" = some (some (.ref f0)))
    (i0 : PySem.W.isFn K (.ref f0) = true)
    (l0 : K.lookup f0 = some ⟨oc0, od0, .func (PySem.W.fnOf "__eq__" "Crossing.__eq__" (defArgs s_Crossing_eq) (defBody s_Crossing_eq) (defScope s_Crossing_eq) .none kV0 dc0 pm0 an0 cd0 ct0), sl0⟩)
    (c0 : PySem.W.codeIn K cd0 "Crossing.__eq__" = true)
    (k0 : PySem.W.keepIn K (.ref f0) = true)
    (a1 : PySem.W.findIn K (.ref C_Crossing) "__ne__" = some (some (.ref f1)))
    (i1 : PySem.W.isFn K (.ref f1) = true)
    (l1 : K.lookup f1 = some ⟨oc1, od1, .func (PySem.W.fnOf "__ne__" "Crossing.__ne__" (defArgs s_Crossing_ne) (defBody s_Crossing_ne) (defScope s_Crossing_ne) .none kV1 dc1 pm1 an1 cd1 ct1), sl1⟩)
    (c1 : PySem.W.codeIn K cd1 "Crossing.__ne__" = true)
    (k1 : PySem.W.keepIn K (.ref f1) = true)
    (a2 : PySem.W.nsIn K mainGlobals "_law_pen" = some (some (.ref f2)))
    (l2 : K.lookup f2 = some ⟨oc2, od2, .func (PySem.W.fnOf "_law_pen" "_law_pen" (defArgs s__law_pen) (defBody s__law_pen) (defScope s__law_pen) .none kV2 dc2 pm2 an2 cd2 ct2), sl2⟩)
    (c2 : PySem.W.codeIn K cd2 "_law_pen" = true)
    (k2 : PySem.W.keepIn K (.ref f2) = true)
    (a3 : PySem.W.nsIn K mainGlobals "_law_draw" = some (some (.ref f3)))
    (l3 : K.lookup f3 = some ⟨oc3, od3, .func (PySem.W.fnOf "_law_draw" "_law_draw" (defArgs s__law_draw) (defBody s__law_draw) (defScope s__law_draw) .none kV3 dc3 pm3 an3 cd3 ct3), sl3⟩)
    (c3 : PySem.W.codeIn K cd3 "_law_draw" = true)
    (k3 : PySem.W.keepIn K (.ref f3) = true)
    (a4 : PySem.W.nsIn K mainGlobals "_law_pick" = some (some (.ref f4)))
    (l4 : K.lookup f4 = some ⟨oc4, od4, .func (PySem.W.fnOf "_law_pick" "_law_pick" (defArgs s__law_pick) (defBody s__law_pick) (defScope s__law_pick) .none kV4 dc4 pm4 an4 cd4 ct4), sl4⟩)
    (c4 : PySem.W.codeIn K cd4 "_law_pick" = true)
    (k4 : PySem.W.keepIn K (.ref f4) = true)
    (a5 : PySem.W.nsIn K mainGlobals "_law_name" = some (some (.ref f5)))
    (l5 : K.lookup f5 = some ⟨oc5, od5, .func (PySem.W.fnOf "_law_name" "_law_name" (defArgs s__law_name) (defBody s__law_name) (defScope s__law_name) .none kV5 dc5 pm5 an5 cd5 ct5), sl5⟩)
    (c5 : PySem.W.codeIn K cd5 "_law_name" = true)
    (k5 : PySem.W.keepIn K (.ref f5) = true)
    (a6 : PySem.W.nsIn K mainGlobals "_law_names" = some (some (.ref f6)))
    (l6 : K.lookup f6 = some ⟨oc6, od6, .func (PySem.W.fnOf "_law_names" "_law_names" (defArgs s__law_names) (defBody s__law_names) (defScope s__law_names) .none kV6 dc6 pm6 an6 cd6 ct6), sl6⟩)
    (c6 : PySem.W.codeIn K cd6 "_law_names" = true)
    (k6 : PySem.W.keepIn K (.ref f6) = true)
    (a7 : PySem.W.nsIn K mainGlobals "_law_all_pairs" = some (some (.ref f7)))
    (l7 : K.lookup f7 = some ⟨oc7, od7, .func (PySem.W.fnOf "_law_all_pairs" "_law_all_pairs" (defArgs s__law_all_pairs) (defBody s__law_all_pairs) (defScope s__law_all_pairs) .none kV7 dc7 pm7 an7 cd7 ct7), sl7⟩)
    (c7 : PySem.W.codeIn K cd7 "_law_all_pairs" = true)
    (k7 : PySem.W.keepIn K (.ref f7) = true)
    (a8 : PySem.W.nsIn K mainGlobals "_law_drawn_crossing" = some (some (.ref f8)))
    (l8 : K.lookup f8 = some ⟨oc8, od8, .func (PySem.W.fnOf "_law_drawn_crossing" "_law_drawn_crossing" (defArgs s__law_drawn_crossing) (defBody s__law_drawn_crossing) (defScope s__law_drawn_crossing) .none kV8 dc8 pm8 an8 cd8 ct8), sl8⟩)
    (c8 : PySem.W.codeIn K cd8 "_law_drawn_crossing" = true)
    (k8 : PySem.W.keepIn K (.ref f8) = true)
    (a9 : PySem.W.nsIn K mainGlobals "_law_all_lots" = some (some (.ref f9)))
    (l9 : K.lookup f9 = some ⟨oc9, od9, .func (PySem.W.fnOf "_law_all_lots" "_law_all_lots" (defArgs s__law_all_lots) (defBody s__law_all_lots) (defScope s__law_all_lots) .none kV9 dc9 pm9 an9 cd9 ct9), sl9⟩)
    (c9 : PySem.W.codeIn K cd9 "_law_all_lots" = true)
    (k9 : PySem.W.keepIn K (.ref f9) = true)
    (a10 : PySem.W.nsIn K mainGlobals "_law_cliques" = some (some (.ref f10)))
    (l10 : K.lookup f10 = some ⟨oc10, od10, .func (PySem.W.fnOf "_law_cliques" "_law_cliques" (defArgs s__law_cliques) (defBody s__law_cliques) (defScope s__law_cliques) .none kV10 dc10 pm10 an10 cd10 ct10), sl10⟩)
    (c10 : PySem.W.codeIn K cd10 "_law_cliques" = true)
    (k10 : PySem.W.keepIn K (.ref f10) = true)
    (a11 : PySem.W.nsIn K mainGlobals "is_name" = some (some (.ref f11)))
    (l11 : K.lookup f11 = some ⟨oc11, od11, .func (PySem.W.fnOf "is_name" "is_name" (defArgs s_is_name) (defBody s_is_name) (defScope s_is_name) .none kV11 dc11 pm11 an11 cd11 ct11), sl11⟩)
    (c11 : PySem.W.codeIn K cd11 "is_name" = true)
    (k11 : PySem.W.keepIn K (.ref f11) = true)
    (a12 : PySem.W.nsIn K mainGlobals "known_places" = some (some (.ref f12)))
    (l12 : K.lookup f12 = some ⟨oc12, od12, .func (PySem.W.fnOf "known_places" "known_places" (defArgs s_known_places) (defBody s_known_places) (defScope s_known_places) .none kV12 dc12 pm12 an12 cd12 ct12), sl12⟩)
    (c12 : PySem.W.codeIn K cd12 "known_places" = true)
    (k12 : PySem.W.keepIn K (.ref f12) = true)
    (a13 : PySem.W.nsIn K mainGlobals "pair_of" = some (some (.ref f13)))
    (l13 : K.lookup f13 = some ⟨oc13, od13, .func (PySem.W.fnOf "pair_of" "pair_of" (defArgs s_pair_of) (defBody s_pair_of) (defScope s_pair_of) .none kV13 dc13 pm13 an13 cd13 ct13), sl13⟩)
    (c13 : PySem.W.codeIn K cd13 "pair_of" = true)
    (k13 : PySem.W.keepIn K (.ref f13) = true)
    (a14 : PySem.W.findIn K (.ref C_Crossing) "__init__" = some (some (.ref f14)))
    (i14 : PySem.W.isFn K (.ref f14) = true)
    (l14 : K.lookup f14 = some ⟨oc14, od14, .func (PySem.W.fnOf "__init__" "Crossing.__init__" (defArgs s_CrossingI) (defBody s_CrossingI) (defScope s_CrossingI) .none kV14 dc14 pm14 an14 cd14 ct14), sl14⟩)
    (c14 : PySem.W.codeIn K cd14 "Crossing.__init__" = true)
    (k14 : PySem.W.keepIn K (.ref f14) = true)
    (a15 : PySem.W.nsIn K mainGlobals "made_of" = some (some (.ref f15)))
    (l15 : K.lookup f15 = some ⟨oc15, od15, .func (PySem.W.fnOf "made_of" "made_of" (defArgs s_made_of) (defBody s_made_of) (defScope s_made_of) .none kV15 dc15 pm15 an15 cd15 ct15), sl15⟩)
    (c15 : PySem.W.codeIn K cd15 "made_of" = true)
    (k15 : PySem.W.keepIn K (.ref f15) = true)
    (a16 : PySem.W.nsIn K mainGlobals "opposite_pairs" = some (some (.ref f16)))
    (l16 : K.lookup f16 = some ⟨oc16, od16, .func (PySem.W.fnOf "opposite_pairs" "opposite_pairs" (defArgs s_opposite_pairs) (defBody s_opposite_pairs) (defScope s_opposite_pairs) .none kV16 dc16 pm16 an16 cd16 ct16), sl16⟩)
    (c16 : PySem.W.codeIn K cd16 "opposite_pairs" = true)
    (k16 : PySem.W.keepIn K (.ref f16) = true)
    (a17 : PySem.W.nsIn K mainGlobals "opposite" = some (some (.ref f17)))
    (l17 : K.lookup f17 = some ⟨oc17, od17, .func (PySem.W.fnOf "opposite" "opposite" (defArgs s_opposite) (defBody s_opposite) (defScope s_opposite) .none kV17 dc17 pm17 an17 cd17 ct17), sl17⟩)
    (c17 : PySem.W.codeIn K cd17 "opposite" = true)
    (k17 : PySem.W.keepIn K (.ref f17) = true)
    (a18 : PySem.W.nsIn K mainGlobals "_law_made" = some (some (.ref f18)))
    (l18 : K.lookup f18 = some ⟨oc18, od18, .func (PySem.W.fnOf "_law_made" "_law_made" (defArgs s__law_made) (defBody s__law_made) (defScope s__law_made) .none kV18 dc18 pm18 an18 cd18 ct18), sl18⟩)
    (c18 : PySem.W.codeIn K cd18 "_law_made" = true)
    (k18 : PySem.W.keepIn K (.ref f18) = true)
    (a19 : PySem.W.nsIn K mainGlobals "_law_is" = some (some (.ref f19)))
    (l19 : K.lookup f19 = some ⟨oc19, od19, .func (PySem.W.fnOf "_law_is" "_law_is" (defArgs s__law_is) (defBody s__law_is) (defScope s__law_is) .none kV19 dc19 pm19 an19 cd19 ct19), sl19⟩)
    (c19 : PySem.W.codeIn K cd19 "_law_is" = true)
    (k19 : PySem.W.keepIn K (.ref f19) = true)
    (a20 : PySem.W.nsIn K mainGlobals "free_lots" = some (some (.ref f20)))
    (l20 : K.lookup f20 = some ⟨oc20, od20, .func (PySem.W.fnOf "free_lots" "free_lots" (defArgs s_free_lots) (defBody s_free_lots) (defScope s_free_lots) .none kV20 dc20 pm20 an20 cd20 ct20), sl20⟩)
    (c20 : PySem.W.codeIn K cd20 "free_lots" = true)
    (k20 : PySem.W.keepIn K (.ref f20) = true)
    (a21 : PySem.W.nsIn K mainGlobals "greatest_of" = some (some (.ref f21)))
    (l21 : K.lookup f21 = some ⟨oc21, od21, .func (PySem.W.fnOf "greatest_of" "greatest_of" (defArgs s_greatest_of) (defBody s_greatest_of) (defScope s_greatest_of) .none kV21 dc21 pm21 an21 cd21 ct21), sl21⟩)
    (c21 : PySem.W.codeIn K cd21 "greatest_of" = true)
    (k21 : PySem.W.keepIn K (.ref f21) = true)
    (a22 : PySem.W.nsIn K mainGlobals "greatest_cliques" = some (some (.ref f22)))
    (l22 : K.lookup f22 = some ⟨oc22, od22, .func (PySem.W.fnOf "greatest_cliques" "greatest_cliques" (defArgs s_greatest_cliques) (defBody s_greatest_cliques) (defScope s_greatest_cliques) .none kV22 dc22 pm22 an22 cd22 ct22), sl22⟩)
    (c22 : PySem.W.codeIn K cd22 "greatest_cliques" = true)
    (k22 : PySem.W.keepIn K (.ref f22) = true)
    (a23 : PySem.W.nsIn K mainGlobals "every_phase" = some (some (.ref f23)))
    (l23 : K.lookup f23 = some ⟨oc23, od23, .func (PySem.W.fnOf "every_phase" "every_phase" (defArgs s_every_phase) (defBody s_every_phase) (defScope s_every_phase) .none kV23 dc23 pm23 an23 cd23 ct23), sl23⟩)
    (c23 : PySem.W.codeIn K cd23 "every_phase" = true)
    (k23 : PySem.W.keepIn K (.ref f23) = true)
    (a24 : PySem.W.nsIn K mainGlobals "top_phases" = some (some (.ref f24)))
    (l24 : K.lookup f24 = some ⟨oc24, od24, .func (PySem.W.fnOf "top_phases" "top_phases" (defArgs s_top_phases) (defBody s_top_phases) (defScope s_top_phases) .none kV24 dc24 pm24 an24 cd24 ct24), sl24⟩)
    (c24 : PySem.W.codeIn K cd24 "top_phases" = true)
    (k24 : PySem.W.keepIn K (.ref f24) = true)
    (a25 : PySem.W.nsIn K mainGlobals "greatest_phases" = some (some (.ref f25)))
    (l25 : K.lookup f25 = some ⟨oc25, od25, .func (PySem.W.fnOf "greatest_phases" "greatest_phases" (defArgs s_greatest_phases) (defBody s_greatest_phases) (defScope s_greatest_phases) .none kV25 dc25 pm25 an25 cd25 ct25), sl25⟩)
    (c25 : PySem.W.codeIn K cd25 "greatest_phases" = true)
    (k25 : PySem.W.keepIn K (.ref f25) = true)
    (a26 : PySem.W.nsIn K mainGlobals "phases_of" = some (some (.ref f26)))
    (l26 : K.lookup f26 = some ⟨oc26, od26, .func (PySem.W.fnOf "phases_of" "phases_of" (defArgs s_phases_of) (defBody s_phases_of) (defScope s_phases_of) .none kV26 dc26 pm26 an26 cd26 ct26), sl26⟩)
    (c26 : PySem.W.codeIn K cd26 "phases_of" = true)
    (k26 : PySem.W.keepIn K (.ref f26) = true)
    (a27 : PySem.W.nsIn K mainGlobals "_law_greatest_of" = some (some (.ref f27)))
    (l27 : K.lookup f27 = some ⟨oc27, od27, .func (PySem.W.fnOf "_law_greatest_of" "_law_greatest_of" (defArgs s__law_greatest_of) (defBody s__law_greatest_of) (defScope s__law_greatest_of) .none kV27 dc27 pm27 an27 cd27 ct27), sl27⟩)
    (c27 : PySem.W.codeIn K cd27 "_law_greatest_of" = true)
    (k27 : PySem.W.keepIn K (.ref f27) = true)
    (a28 : PySem.W.nsIn K mainGlobals "_law_plain" = some (some (.ref f28)))
    (l28 : K.lookup f28 = some ⟨oc28, od28, .func (PySem.W.fnOf "_law_plain" "_law_plain" (defArgs s__law_plain) (defBody s__law_plain) (defScope s__law_plain) .none kV28 dc28 pm28 an28 cd28 ct28), sl28⟩)
    (c28 : PySem.W.codeIn K cd28 "_law_plain" = true)
    (k28 : PySem.W.keepIn K (.ref f28) = true)
    (a29 : PySem.W.nsIn K mainGlobals "_law_is_free" = some (some (.ref f29)))
    (l29 : K.lookup f29 = some ⟨oc29, od29, .func (PySem.W.fnOf "_law_is_free" "_law_is_free" (defArgs s__law_is_free) (defBody s__law_is_free) (defScope s__law_is_free) .none kV29 dc29 pm29 an29 cd29 ct29), sl29⟩)
    (c29 : PySem.W.codeIn K cd29 "_law_is_free" = true)
    (k29 : PySem.W.keepIn K (.ref f29) = true)
    (a30 : PySem.W.nsIn K mainGlobals "_law_phases" = some (some (.ref f30)))
    (l30 : K.lookup f30 = some ⟨oc30, od30, .func (PySem.W.fnOf "_law_phases" "_law_phases" (defArgs s__law_phases) (defBody s__law_phases) (defScope s__law_phases) .none kV30 dc30 pm30 an30 cd30 ct30), sl30⟩)
    (c30 : PySem.W.codeIn K cd30 "_law_phases" = true)
    (k30 : PySem.W.keepIn K (.ref f30) = true)
    (a31 : PySem.W.nsIn K mainGlobals "_law_greatest_phases" = some (some (.ref f31)))
    (l31 : K.lookup f31 = some ⟨oc31, od31, .func (PySem.W.fnOf "_law_greatest_phases" "_law_greatest_phases" (defArgs s__law_greatest_phases) (defBody s__law_greatest_phases) (defScope s__law_greatest_phases) .none kV31 dc31 pm31 an31 cd31 ct31), sl31⟩)
    (c31 : PySem.W.codeIn K cd31 "_law_greatest_phases" = true)
    (k31 : PySem.W.keepIn K (.ref f31) = true)
    (a32 : PySem.W.nsIn K mainGlobals "law" = some (some (.ref f32)))
    (l32 : K.lookup f32 = some ⟨oc32, od32, .func (PySem.W.fnOf "law" "law" (defArgs s_law) (defBody s_law) (defScope s_law) .none kV32 dc32 pm32 an32 cd32 ct32), sl32⟩)
    (c32 : PySem.W.codeIn K cd32 "law" = true)
    (k32 : PySem.W.keepIn K (.ref f32) = true)
    (pg_Crossing : PySem.W.plainGet K C_Crossing Str.empty = true)
    (hd_Crossing : PySem.W.hasDictIn K C_Crossing = true)
    (po_Crossing : PySem.W.plainOver K C_Crossing = true)
    (sa_Crossing : PySem.W.findIn K (.ref C_Crossing) "__setattr__" = some (some (.builtin "object.__setattr__")))
    (ha_Crossing : PySem.W.findIn K (.ref C_Crossing) "__class__" = some (some (.builtin "object.__class__")))
    (hm_Crossing : PySem.W.mroIn K C_Crossing (.type "object") = some true)
    (mk_Crossing : PySem.W.makesIn K C_Crossing = true)
    (kc_Crossing : PySem.W.keepIn K (.ref C_Crossing) = true)
    (no_Crossing_streams : PySem.W.findIn K (.ref C_Crossing) "streams" = some none)
    (no_Crossing_conflicts : PySem.W.findIn K (.ref C_Crossing) "conflicts" = some none)
    (hn : PySem.W.specialIn K (.builtin "object.__class__") "__get__" = some (some (.builtin "getset_descriptor.__get__")))
    (htk : PySem.W.takesIn K (.builtin "object.__class__") = some true)
    (z_len : PySem.W.nsIn K mainGlobals "len" = some none)
    (z_int : PySem.W.nsIn K mainGlobals "int" = some none)
    (z_abs : PySem.W.nsIn K mainGlobals "abs" = some none)
    (z_sum : PySem.W.nsIn K mainGlobals "sum" = some none)
    (z_max : PySem.W.nsIn K mainGlobals "max" = some none)
    (z_min : PySem.W.nsIn K mainGlobals "min" = some none)
    (z_any : PySem.W.nsIn K mainGlobals "any" = some none)
    (z_all : PySem.W.nsIn K mainGlobals "all" = some none)
    (z_sorted : PySem.W.nsIn K mainGlobals "sorted" = some none)
    (z_tuple : PySem.W.nsIn K mainGlobals "tuple" = some none)
    (z_list : PySem.W.nsIn K mainGlobals "list" = some none)
    (z_isinstance : PySem.W.nsIn K mainGlobals "isinstance" = some none)
    (z_str : PySem.W.nsIn K mainGlobals "str" = some none)
    (z_range : PySem.W.nsIn K mainGlobals "range" = some none)
    (z_enumerate : PySem.W.nsIn K mainGlobals "enumerate" = some none)
    (z_zip : PySem.W.nsIn K mainGlobals "zip" = some none)
    (z_bool : PySem.W.nsIn K mainGlobals "bool" = some none)
    (q_LETTERS : PySem.W.nsIn K mainGlobals "LETTERS" = some (some (.str "abcdefghijklmnopqrstuvwxyz" t_LETTERS)))
    (q_SIGNS : PySem.W.nsIn K mainGlobals "SIGNS" = some (some (.str "abcdefghijklmnopqrstuvwxyz0123456789" t_SIGNS)))
    (q_MOST_STREAMS : PySem.W.nsIn K mainGlobals "MOST_STREAMS" = some (some (.int 12 t_MOST_STREAMS)))
    (y0 : PySem.W.kitAny K (.type "NoneType") [.ref C_Crossing] = some false)
    (y1 : PySem.W.kitAny K (.type "bool") [.ref C_Crossing] = some false)
    (y2 : PySem.W.kitAny K (.type "int") [.ref C_Crossing] = some false)
    (y3 : PySem.W.kitAny K (.type "str") [.ref C_Crossing] = some false)
    (y4 : PySem.W.kitAny K (.type "list") [.ref C_Crossing] = some false)
    (y5 : PySem.W.kitAny K (.type "tuple") [.ref C_Crossing] = some false)
    (y6 : PySem.W.kitAny K (.type "dict") [.ref C_Crossing] = some false)
    (y7 : PySem.W.kitAny K (.ref C_Crossing) [.ref C_Crossing] = some true)
    : ∃ fd : FuncData, (∀ (s : Shared) (v : Value), BindsTo s fd ⟨[v], []⟩ [("script", v)]) ∧ ∀ base : Heap, K.In base → base.Ns mainGlobals mg → FnOk l.prog w K mg base (L2.CX l.prog w) 7 fa fd ["script"] (spLaw K) := by
  have e := hfa.symm.trans (PySem.W.mg_of X G a32)
  cases e
  have hcl : ∀ p ∈ ([("Crossing", C_Crossing)] : List (Str × Addr)), ClsI K p.2 := (all2 ⟨⟨pg_Crossing, hd_Crossing, po_Crossing, sa_Crossing⟩, ha_Crossing, hn, htk, hm_Crossing⟩ all0)
  have u_Crossing : uOf (nmOf K [("Crossing", C_Crossing)]) "Crossing" = .ref C_Crossing := u_cl (by rfl)
  have u_str : uOf (nmOf K [("Crossing", C_Crossing)]) "str" = .type "str" := u_ty (by rfl) PyProof.Rows.boot_str
  have u_list : uOf (nmOf K [("Crossing", C_Crossing)]) "list" = .type "list" := u_ty (by rfl) PyProof.Rows.boot_list
  have u_tuple : uOf (nmOf K [("Crossing", C_Crossing)]) "tuple" = .type "tuple" := u_ty (by rfl) PyProof.Rows.boot_tuple
  have u_int : uOf (nmOf K [("Crossing", C_Crossing)]) "int" = .type "int" := u_ty (by rfl) PyProof.Rows.boot_int
  have u_bool : uOf (nmOf K [("Crossing", C_Crossing)]) "bool" = .type "bool" := u_ty (by rfl) PyProof.Rows.boot_bool
  have TX : Tx (nmOf K [("Crossing", C_Crossing)]) K mg tyL isiL fldL gcB coL := by
    refine ⟨(all2 (PySem.W.mg_none_of X G z_len) (all2 (PySem.W.mg_none_of X G z_int) (all2 (PySem.W.mg_none_of X G z_abs) (all2 (PySem.W.mg_none_of X G z_sum) (all2 (PySem.W.mg_none_of X G z_max) (all2 (PySem.W.mg_none_of X G z_min) (all2 (PySem.W.mg_none_of X G z_any) (all2 (PySem.W.mg_none_of X G z_all) (all2 (PySem.W.mg_none_of X G z_sorted) (all2 (PySem.W.mg_none_of X G z_tuple) (all2 (PySem.W.mg_none_of X G z_list) (all2 (PySem.W.mg_none_of X G z_isinstance) (all2 (PySem.W.mg_none_of X G z_str) all0))))))))))))), PySem.W.mg_none_of X G z_range, PySem.W.mg_none_of X G z_enumerate, PySem.W.mg_none_of X G z_zip, (fun h => by unfold gcB at h; cases h), (all2 ⟨by decide, by decide, .inl ⟨C_Crossing, by rfl, PySem.W.mg_of X G a_Crossing⟩⟩ (all2 ⟨by decide, by decide, .inr ⟨"str", by rfl, PySem.W.mg_none_of X G z_str, PyProof.Rows.boot_str⟩⟩ (all2 ⟨by decide, by decide, .inr ⟨"list", by rfl, PySem.W.mg_none_of X G z_list, PyProof.Rows.boot_list⟩⟩ (all2 ⟨by decide, by decide, .inr ⟨"tuple", by rfl, PySem.W.mg_none_of X G z_tuple, PyProof.Rows.boot_tuple⟩⟩ (all2 ⟨by decide, by decide, .inr ⟨"int", by rfl, PySem.W.mg_none_of X G z_int, PyProof.Rows.boot_int⟩⟩ (all2 ⟨by decide, by decide, .inr ⟨"bool", by rfl, PySem.W.mg_none_of X G z_bool, PyProof.Rows.boot_bool⟩⟩ all0)))))), ?_, cls_mk hcl, (all2 (noAt_mk hcl (all2 no_Crossing_streams all0)) (all2 (noAt_mk hcl (all2 no_Crossing_conflicts all0)) all0)), (all2 ⟨by decide, .str _, .str "abcdefghijklmnopqrstuvwxyz" t_LETTERS, PySem.W.mg_of X G q_LETTERS, ⟨t_LETTERS, rfl⟩, fun _ _ => .str _⟩ (all2 ⟨by decide, .str _, .str "abcdefghijklmnopqrstuvwxyz0123456789" t_SIGNS, PySem.W.mg_of X G q_SIGNS, ⟨t_SIGNS, rfl⟩, fun _ _ => .str _⟩ (all2 ⟨by decide, .int _, .int 12 t_MOST_STREAMS, PySem.W.mg_of X G q_MOST_STREAMS, ⟨t_MOST_STREAMS, rfl⟩, fun _ _ => .int _⟩ all0)))⟩
    exact (all2 (isi_mk (t := Bv.Ty.b "NoneType") (u := (.type "NoneType")) (us := [.ref C_Crossing]) (by rfl) (by simp only [List.map_cons, List.map_nil, u_Crossing]) y0) (all2 (isi_mk (t := Bv.Ty.b "bool") (u := (.type "bool")) (us := [.ref C_Crossing]) (by rfl) (by simp only [List.map_cons, List.map_nil, u_Crossing]) y1) (all2 (isi_mk (t := Bv.Ty.b "int") (u := (.type "int")) (us := [.ref C_Crossing]) (by rfl) (by simp only [List.map_cons, List.map_nil, u_Crossing]) y2) (all2 (isi_mk (t := Bv.Ty.b "str") (u := (.type "str")) (us := [.ref C_Crossing]) (by rfl) (by simp only [List.map_cons, List.map_nil, u_Crossing]) y3) (all2 (isi_mk (t := Bv.Ty.b "list") (u := (.type "list")) (us := [.ref C_Crossing]) (by rfl) (by simp only [List.map_cons, List.map_nil, u_Crossing]) y4) (all2 (isi_mk (t := Bv.Ty.b "tuple") (u := (.type "tuple")) (us := [.ref C_Crossing]) (by rfl) (by simp only [List.map_cons, List.map_nil, u_Crossing]) y5) (all2 (isi_mk (t := Bv.Ty.b "dict") (u := (.type "dict")) (us := [.ref C_Crossing]) (by rfl) (by simp only [List.map_cons, List.map_nil, u_Crossing]) y6) (all2 (isi_mk (t := Bv.Ty.c "Crossing") (u := (.ref C_Crossing)) (us := [.ref C_Crossing]) (by rfl) (by simp only [List.map_cons, List.map_nil, u_Crossing]) y7) (all2 (isi_mk (t := Bv.Ty.b "NoneType") (u := (.type "NoneType")) (us := [.type "str"]) (by rfl) (by simp only [List.map_cons, List.map_nil, u_str]) (kitAny_bs (cs := ["str"]) (by decide +kernel))) (all2 (isi_mk (t := Bv.Ty.b "bool") (u := (.type "bool")) (us := [.type "str"]) (by rfl) (by simp only [List.map_cons, List.map_nil, u_str]) (kitAny_bs (cs := ["str"]) (by decide +kernel))) (all2 (isi_mk (t := Bv.Ty.b "int") (u := (.type "int")) (us := [.type "str"]) (by rfl) (by simp only [List.map_cons, List.map_nil, u_str]) (kitAny_bs (cs := ["str"]) (by decide +kernel))) (all2 (isi_mk (t := Bv.Ty.b "str") (u := (.type "str")) (us := [.type "str"]) (by rfl) (by simp only [List.map_cons, List.map_nil, u_str]) (kitAny_bs (cs := ["str"]) (by decide +kernel))) (all2 (isi_mk (t := Bv.Ty.b "list") (u := (.type "list")) (us := [.type "str"]) (by rfl) (by simp only [List.map_cons, List.map_nil, u_str]) (kitAny_bs (cs := ["str"]) (by decide +kernel))) (all2 (isi_mk (t := Bv.Ty.b "tuple") (u := (.type "tuple")) (us := [.type "str"]) (by rfl) (by simp only [List.map_cons, List.map_nil, u_str]) (kitAny_bs (cs := ["str"]) (by decide +kernel))) (all2 (isi_mk (t := Bv.Ty.b "dict") (u := (.type "dict")) (us := [.type "str"]) (by rfl) (by simp only [List.map_cons, List.map_nil, u_str]) (kitAny_bs (cs := ["str"]) (by decide +kernel))) (all2 (isi_mk (t := Bv.Ty.b "NoneType") (u := (.type "NoneType")) (us := [.type "list", .type "tuple"]) (by rfl) (by simp only [List.map_cons, List.map_nil, u_list, u_tuple]) (kitAny_bs (cs := ["list", "tuple"]) (by decide +kernel))) (all2 (isi_mk (t := Bv.Ty.b "bool") (u := (.type "bool")) (us := [.type "list", .type "tuple"]) (by rfl) (by simp only [List.map_cons, List.map_nil, u_list, u_tuple]) (kitAny_bs (cs := ["list", "tuple"]) (by decide +kernel))) (all2 (isi_mk (t := Bv.Ty.b "int") (u := (.type "int")) (us := [.type "list", .type "tuple"]) (by rfl) (by simp only [List.map_cons, List.map_nil, u_list, u_tuple]) (kitAny_bs (cs := ["list", "tuple"]) (by decide +kernel))) (all2 (isi_mk (t := Bv.Ty.b "str") (u := (.type "str")) (us := [.type "list", .type "tuple"]) (by rfl) (by simp only [List.map_cons, List.map_nil, u_list, u_tuple]) (kitAny_bs (cs := ["list", "tuple"]) (by decide +kernel))) (all2 (isi_mk (t := Bv.Ty.b "list") (u := (.type "list")) (us := [.type "list", .type "tuple"]) (by rfl) (by simp only [List.map_cons, List.map_nil, u_list, u_tuple]) (kitAny_bs (cs := ["list", "tuple"]) (by decide +kernel))) (all2 (isi_mk (t := Bv.Ty.b "tuple") (u := (.type "tuple")) (us := [.type "list", .type "tuple"]) (by rfl) (by simp only [List.map_cons, List.map_nil, u_list, u_tuple]) (kitAny_bs (cs := ["list", "tuple"]) (by decide +kernel))) (all2 (isi_mk (t := Bv.Ty.b "dict") (u := (.type "dict")) (us := [.type "list", .type "tuple"]) (by rfl) (by simp only [List.map_cons, List.map_nil, u_list, u_tuple]) (kitAny_bs (cs := ["list", "tuple"]) (by decide +kernel))) (all2 (isi_mk (t := Bv.Ty.b "NoneType") (u := (.type "NoneType")) (us := [.type "tuple"]) (by rfl) (by simp only [List.map_cons, List.map_nil, u_tuple]) (kitAny_bs (cs := ["tuple"]) (by decide +kernel))) (all2 (isi_mk (t := Bv.Ty.b "bool") (u := (.type "bool")) (us := [.type "tuple"]) (by rfl) (by simp only [List.map_cons, List.map_nil, u_tuple]) (kitAny_bs (cs := ["tuple"]) (by decide +kernel))) (all2 (isi_mk (t := Bv.Ty.b "int") (u := (.type "int")) (us := [.type "tuple"]) (by rfl) (by simp only [List.map_cons, List.map_nil, u_tuple]) (kitAny_bs (cs := ["tuple"]) (by decide +kernel))) (all2 (isi_mk (t := Bv.Ty.b "str") (u := (.type "str")) (us := [.type "tuple"]) (by rfl) (by simp only [List.map_cons, List.map_nil, u_tuple]) (kitAny_bs (cs := ["tuple"]) (by decide +kernel))) (all2 (isi_mk (t := Bv.Ty.b "list") (u := (.type "list")) (us := [.type "tuple"]) (by rfl) (by simp only [List.map_cons, List.map_nil, u_tuple]) (kitAny_bs (cs := ["tuple"]) (by decide +kernel))) (all2 (isi_mk (t := Bv.Ty.b "tuple") (u := (.type "tuple")) (us := [.type "tuple"]) (by rfl) (by simp only [List.map_cons, List.map_nil, u_tuple]) (kitAny_bs (cs := ["tuple"]) (by decide +kernel))) (all2 (isi_mk (t := Bv.Ty.b "dict") (u := (.type "dict")) (us := [.type "tuple"]) (by rfl) (by simp only [List.map_cons, List.map_nil, u_tuple]) (kitAny_bs (cs := ["tuple"]) (by decide +kernel))) (all2 (isi_mk (t := Bv.Ty.b "NoneType") (u := (.type "NoneType")) (us := [.type "int"]) (by rfl) (by simp only [List.map_cons, List.map_nil, u_int]) (kitAny_bs (cs := ["int"]) (by decide +kernel))) (all2 (isi_mk (t := Bv.Ty.b "bool") (u := (.type "bool")) (us := [.type "int"]) (by rfl) (by simp only [List.map_cons, List.map_nil, u_int]) (kitAny_bs (cs := ["int"]) (by decide +kernel))) (all2 (isi_mk (t := Bv.Ty.b "int") (u := (.type "int")) (us := [.type "int"]) (by rfl) (by simp only [List.map_cons, List.map_nil, u_int]) (kitAny_bs (cs := ["int"]) (by decide +kernel))) (all2 (isi_mk (t := Bv.Ty.b "str") (u := (.type "str")) (us := [.type "int"]) (by rfl) (by simp only [List.map_cons, List.map_nil, u_int]) (kitAny_bs (cs := ["int"]) (by decide +kernel))) (all2 (isi_mk (t := Bv.Ty.b "list") (u := (.type "list")) (us := [.type "int"]) (by rfl) (by simp only [List.map_cons, List.map_nil, u_int]) (kitAny_bs (cs := ["int"]) (by decide +kernel))) (all2 (isi_mk (t := Bv.Ty.b "tuple") (u := (.type "tuple")) (us := [.type "int"]) (by rfl) (by simp only [List.map_cons, List.map_nil, u_int]) (kitAny_bs (cs := ["int"]) (by decide +kernel))) (all2 (isi_mk (t := Bv.Ty.b "dict") (u := (.type "dict")) (us := [.type "int"]) (by rfl) (by simp only [List.map_cons, List.map_nil, u_int]) (kitAny_bs (cs := ["int"]) (by decide +kernel))) (all2 (isi_mk (t := Bv.Ty.b "NoneType") (u := (.type "NoneType")) (us := [.type "bool"]) (by rfl) (by simp only [List.map_cons, List.map_nil, u_bool]) (kitAny_bs (cs := ["bool"]) (by decide +kernel))) (all2 (isi_mk (t := Bv.Ty.b "bool") (u := (.type "bool")) (us := [.type "bool"]) (by rfl) (by simp only [List.map_cons, List.map_nil, u_bool]) (kitAny_bs (cs := ["bool"]) (by decide +kernel))) (all2 (isi_mk (t := Bv.Ty.b "int") (u := (.type "int")) (us := [.type "bool"]) (by rfl) (by simp only [List.map_cons, List.map_nil, u_bool]) (kitAny_bs (cs := ["bool"]) (by decide +kernel))) (all2 (isi_mk (t := Bv.Ty.b "str") (u := (.type "str")) (us := [.type "bool"]) (by rfl) (by simp only [List.map_cons, List.map_nil, u_bool]) (kitAny_bs (cs := ["bool"]) (by decide +kernel))) (all2 (isi_mk (t := Bv.Ty.b "list") (u := (.type "list")) (us := [.type "bool"]) (by rfl) (by simp only [List.map_cons, List.map_nil, u_bool]) (kitAny_bs (cs := ["bool"]) (by decide +kernel))) (all2 (isi_mk (t := Bv.Ty.b "tuple") (u := (.type "tuple")) (us := [.type "bool"]) (by rfl) (by simp only [List.map_cons, List.map_nil, u_bool]) (kitAny_bs (cs := ["bool"]) (by decide +kernel))) (all2 (isi_mk (t := Bv.Ty.b "dict") (u := (.type "dict")) (us := [.type "bool"]) (by rfl) (by simp only [List.map_cons, List.map_nil, u_bool]) (kitAny_bs (cs := ["bool"]) (by decide +kernel))) all0)))))))))))))))))))))))))))))))))))))))))))
  have G0 := fun_mk (st := s_Crossing_eq) l0 c0 k0
  have b0 := G0.binds (ps := ["self", "other"]) fun _ _ _ _ _ _ us hl => match us, hl with | [_, _], _ => rfl
  have G1 := fun_mk (st := s_Crossing_ne) l1 c1 k1
  have b1 := G1.binds (ps := ["self", "other"]) fun _ _ _ _ _ _ us hl => match us, hl with | [_, _], _ => rfl
  have G2 := fun_mk (st := s__law_pen) l2 c2 k2
  have b2 := G2.binds (ps := ["script"]) fun _ _ _ _ _ _ us hl => match us, hl with | [_], _ => rfl
  have G3 := fun_mk (st := s__law_draw) l3 c3 k3
  have b3 := G3.binds (ps := ["pen", "many"]) fun _ _ _ _ _ _ us hl => match us, hl with | [_, _], _ => rfl
  have G4 := fun_mk (st := s__law_pick) l4 c4 k4
  have b4 := G4.binds (ps := ["pen", "some"]) fun _ _ _ _ _ _ us hl => match us, hl with | [_, _], _ => rfl
  have G5 := fun_mk (st := s__law_name) l5 c5 k5
  have b5 := G5.binds (ps := ["pen"]) fun _ _ _ _ _ _ us hl => match us, hl with | [_], _ => rfl
  have G6 := fun_mk (st := s__law_names) l6 c6 k6
  have b6 := G6.binds (ps := ["pen", "many"]) fun _ _ _ _ _ _ us hl => match us, hl with | [_, _], _ => rfl
  have G7 := fun_mk (st := s__law_all_pairs) l7 c7 k7
  have b7 := G7.binds (ps := ["many"]) fun _ _ _ _ _ _ us hl => match us, hl with | [_], _ => rfl
  have G8 := fun_mk (st := s__law_drawn_crossing) l8 c8 k8
  have b8 := G8.binds (ps := ["pen", "most"]) fun _ _ _ _ _ _ us hl => match us, hl with | [_, _], _ => rfl
  have G9 := fun_mk (st := s__law_all_lots) l9 c9 k9
  have b9 := G9.binds (ps := ["many"]) fun _ _ _ _ _ _ us hl => match us, hl with | [_], _ => rfl
  have G10 := fun_mk (st := s__law_cliques) l10 c10 k10
  have b10 := G10.binds (ps := ["crossing"]) fun _ _ _ _ _ _ us hl => match us, hl with | [_], _ => rfl
  have G11 := fun_mk (st := s_is_name) l11 c11 k11
  have b11 := G11.binds (ps := ["value"]) fun _ _ _ _ _ _ us hl => match us, hl with | [_], _ => rfl
  have G12 := fun_mk (st := s_known_places) l12 c12 k12
  have b12 := G12.binds (ps := ["streams"]) fun _ _ _ _ _ _ us hl => match us, hl with | [_], _ => rfl
  have G13 := fun_mk (st := s_pair_of) l13 c13 k13
  have b13 := G13.binds (ps := ["places", "pair"]) fun _ _ _ _ _ _ us hl => match us, hl with | [_, _], _ => rfl
  have G14 := fun_mk (st := s_CrossingI) l14 c14 k14
  have b14 := G14.binds (ps := ["self", "streams", "conflicts"]) fun _ _ _ _ _ _ us hl => match us, hl with | [_, _, _], _ => rfl
  have G15 := fun_mk (st := s_made_of) l15 c15 k15
  have b15 := G15.binds (ps := ["streams", "pairs"]) fun _ _ _ _ _ _ us hl => match us, hl with | [_, _], _ => rfl
  have G16 := fun_mk (st := s_opposite_pairs) l16 c16 k16
  have b16 := G16.binds (ps := ["crossing"]) fun _ _ _ _ _ _ us hl => match us, hl with | [_], _ => rfl
  have G17 := fun_mk (st := s_opposite) l17 c17 k17
  have b17 := G17.binds (ps := ["crossing"]) fun _ _ _ _ _ _ us hl => match us, hl with | [_], _ => rfl
  have G18 := fun_mk (st := s__law_made) l18 c18 k18
  have b18 := G18.binds (ps := ["crossing"]) fun _ _ _ _ _ _ us hl => match us, hl with | [_], _ => rfl
  have G19 := fun_mk (st := s__law_is) l19 c19 k19
  have b19 := G19.binds (ps := ["told", "due"]) fun _ _ _ _ _ _ us hl => match us, hl with | [_, _], _ => rfl
  have G20 := fun_mk (st := s_free_lots) l20 c20 k20
  have b20 := G20.binds (ps := ["many", "bars"]) fun _ _ _ _ _ _ us hl => match us, hl with | [_, _], _ => rfl
  have G21 := fun_mk (st := s_greatest_of) l21 c21 k21
  have b21 := G21.binds (ps := ["many", "lots"]) fun _ _ _ _ _ _ us hl => match us, hl with | [_, _], _ => rfl
  have G22 := fun_mk (st := s_greatest_cliques) l22 c22 k22
  have b22 := G22.binds (ps := ["crossing"]) fun _ _ _ _ _ _ us hl => match us, hl with | [_], _ => rfl
  have G23 := fun_mk (st := s_every_phase) l23 c23 k23
  have b23 := G23.binds (ps := ["crossing"]) fun _ _ _ _ _ _ us hl => match us, hl with | [_], _ => rfl
  have G24 := fun_mk (st := s_top_phases) l24 c24 k24
  have b24 := G24.binds (ps := ["crossing"]) fun _ _ _ _ _ _ us hl => match us, hl with | [_], _ => rfl
  have G25 := fun_mk (st := s_greatest_phases) l25 c25 k25
  have b25 := G25.binds (ps := ["crossing"]) fun _ _ _ _ _ _ us hl => match us, hl with | [_], _ => rfl
  have G26 := fun_mk (st := s_phases_of) l26 c26 k26
  have b26 := G26.binds (ps := ["crossing"]) fun _ _ _ _ _ _ us hl => match us, hl with | [_], _ => rfl
  have G27 := fun_mk (st := s__law_greatest_of) l27 c27 k27
  have b27 := G27.binds (ps := ["lots"]) fun _ _ _ _ _ _ us hl => match us, hl with | [_], _ => rfl
  have G28 := fun_mk (st := s__law_plain) l28 c28 k28
  have b28 := G28.binds (ps := ["told"]) fun _ _ _ _ _ _ us hl => match us, hl with | [_], _ => rfl
  have G29 := fun_mk (st := s__law_is_free) l29 c29 k29
  have b29 := G29.binds (ps := ["crossing", "lot"]) fun _ _ _ _ _ _ us hl => match us, hl with | [_, _], _ => rfl
  have G30 := fun_mk (st := s__law_phases) l30 c30 k30
  have b30 := G30.binds (ps := ["crossing"]) fun _ _ _ _ _ _ us hl => match us, hl with | [_], _ => rfl
  have G31 := fun_mk (st := s__law_greatest_phases) l31 c31 k31
  have b31 := G31.binds (ps := ["crossing"]) fun _ _ _ _ _ _ us hl => match us, hl with | [_], _ => rfl
  have G32 := fun_mk (st := s_law) l32 c32 k32
  have b32 := G32.binds (ps := ["script"]) fun _ _ _ _ _ _ us hl => match us, hl with | [_], _ => rfl
  refine ⟨PySem.W.fnOf "law" "law" (defArgs s_law) (defBody s_law) (defScope s_law) .none kV32 dc32 pm32 an32 cd32 ct32, fun s v => .of_eq rfl, fun base _ _ => ?_⟩
  have D0 : ∀ j, 1 ≤ j → Dm (nmOf K [("Crossing", C_Crossing)]) l.prog w K mg base j (("Crossing", "__eq__"), F_Crossing_eq) := fun j hj => dm_mk rfl rfl G0 sc_Crossing_eq nm_Crossing_eq (k := 0) (gk_mk TX all0 all0 all0) (by rfl) a0 i0 b0 hj
  have D1 : ∀ j, 2 ≤ j → Dm (nmOf K [("Crossing", C_Crossing)]) l.prog w K mg base j (("Crossing", "__ne__"), F_Crossing_ne) := fun j hj => dm_mk rfl rfl G1 sc_Crossing_ne nm_Crossing_ne (k := 1) (gk_mk TX all0 all0 (all2 (D0 _ (by decide)) all0)) (by rfl) a1 i1 b1 hj
  have D2 : ∀ j, 1 ≤ j → Df (nmOf K [("Crossing", C_Crossing)]) l.prog w K mg base j ("_law_pen", 1, F__law_pen) := fun j hj => df_mk rfl G2 sc__law_pen nm__law_pen (k := 0) (gk_mk TX all0 all0 all0) (by decide) (PySem.W.mg_of X G a2) b2 hj
  have D3 : ∀ j, 1 ≤ j → Df (nmOf K [("Crossing", C_Crossing)]) l.prog w K mg base j ("_law_draw", 2, F__law_draw) := fun j hj => df_mk rfl G3 sc__law_draw nm__law_draw (k := 0) (gk_mk TX all0 all0 all0) (by decide) (PySem.W.mg_of X G a3) b3 hj
  have D4 : ∀ j, 2 ≤ j → Df (nmOf K [("Crossing", C_Crossing)]) l.prog w K mg base j ("_law_pick", 2, F__law_pick) := fun j hj => df_mk rfl G4 sc__law_pick nm__law_pick (k := 1) (gk_mk TX (all2 (D3 _ (by decide)) all0) all0 all0) (by decide) (PySem.W.mg_of X G a4) b4 hj
  have D5 : ∀ j, 3 ≤ j → Df (nmOf K [("Crossing", C_Crossing)]) l.prog w K mg base j ("_law_name", 1, F__law_name) := fun j hj => df_mk rfl G5 sc__law_name nm__law_name (k := 2) (gk_mk TX (all2 (D3 _ (by decide)) (all2 (D4 _ (by decide)) all0)) all0 all0) (by decide) (PySem.W.mg_of X G a5) b5 hj
  have D6 : ∀ j, 4 ≤ j → Df (nmOf K [("Crossing", C_Crossing)]) l.prog w K mg base j ("_law_names", 2, F__law_names) := fun j hj => df_mk rfl G6 sc__law_names nm__law_names (k := 3) (gk_mk TX (all2 (D5 _ (by decide)) all0) all0 all0) (by decide) (PySem.W.mg_of X G a6) b6 hj
  have D7 : ∀ j, 1 ≤ j → Df (nmOf K [("Crossing", C_Crossing)]) l.prog w K mg base j ("_law_all_pairs", 1, F__law_all_pairs) := fun j hj => df_mk rfl G7 sc__law_all_pairs nm__law_all_pairs (k := 0) (gk_mk TX all0 all0 all0) (by decide) (PySem.W.mg_of X G a7) b7 hj
  have D8 : ∀ j, 5 ≤ j → Df (nmOf K [("Crossing", C_Crossing)]) l.prog w K mg base j ("_law_drawn_crossing", 2, F__law_drawn_crossing) := fun j hj => df_mk rfl G8 sc__law_drawn_crossing nm__law_drawn_crossing (k := 4) (gk_mk TX (all2 (D3 _ (by decide)) (all2 (D6 _ (by decide)) (all2 (D7 _ (by decide)) all0))) all0 all0) (by decide) (PySem.W.mg_of X G a8) b8 hj
  have D9 : ∀ j, 1 ≤ j → Df (nmOf K [("Crossing", C_Crossing)]) l.prog w K mg base j ("_law_all_lots", 1, F__law_all_lots) := fun j hj => df_mk rfl G9 sc__law_all_lots nm__law_all_lots (k := 0) (gk_mk TX all0 all0 all0) (by decide) (PySem.W.mg_of X G a9) b9 hj
  have D10 : ∀ j, 2 ≤ j → Df (nmOf K [("Crossing", C_Crossing)]) l.prog w K mg base j ("_law_cliques", 1, F__law_cliques) := fun j hj => df_mk rfl G10 sc__law_cliques nm__law_cliques (k := 1) (gk_mk TX (all2 (D9 _ (by decide)) all0) all0 all0) (by decide) (PySem.W.mg_of X G a10) b10 hj
  have D11 : ∀ j, 1 ≤ j → Df (nmOf K [("Crossing", C_Crossing)]) l.prog w K mg base j ("is_name", 1, F_is_name) := fun j hj => df_mk rfl G11 sc_is_name nm_is_name (k := 0) (gk_mk TX all0 all0 all0) (by decide) (PySem.W.mg_of X G a11) b11 hj
  have D12 : ∀ j, 2 ≤ j → Df (nmOf K [("Crossing", C_Crossing)]) l.prog w K mg base j ("known_places", 1, F_known_places) := fun j hj => df_mk rfl G12 sc_known_places nm_known_places (k := 1) (gk_mk TX (all2 (D11 _ (by decide)) all0) all0 all0) (by decide) (PySem.W.mg_of X G a12) b12 hj
  have D13 : ∀ j, 1 ≤ j → Df (nmOf K [("Crossing", C_Crossing)]) l.prog w K mg base j ("pair_of", 2, F_pair_of) := fun j hj => df_mk rfl G13 sc_pair_of nm_pair_of (k := 0) (gk_mk TX all0 all0 all0) (by decide) (PySem.W.mg_of X G a13) b13 hj
  have D14 : ∀ j, 4 ≤ j → Dc (nmOf K [("Crossing", C_Crossing)]) l.prog w K mg base j ("Crossing", 2, F_CrossingI) := fun j hj => dc_mk rfl rfl G14 sc_CrossingI nm_CrossingI (k := 2) (gk_mk TX (all2 (D12 _ (by decide)) (all2 (D13 _ (by decide)) all0)) all0 all0) (by decide) ⟨mk_Crossing, a14, i14, kc_Crossing⟩ (by rfl) (PySem.W.mg_of X G a_Crossing) b14 hj
  have D15 : ∀ j, 5 ≤ j → Df (nmOf K [("Crossing", C_Crossing)]) l.prog w K mg base j ("made_of", 2, F_made_of) := fun j hj => df_mk rfl G15 sc_made_of nm_made_of (k := 4) (gk_mk TX all0 (all2 (D14 _ (by decide)) all0) all0) (by decide) (PySem.W.mg_of X G a15) b15 hj
  have D16 : ∀ j, 1 ≤ j → Df (nmOf K [("Crossing", C_Crossing)]) l.prog w K mg base j ("opposite_pairs", 1, F_opposite_pairs) := fun j hj => df_mk rfl G16 sc_opposite_pairs nm_opposite_pairs (k := 0) (gk_mk TX all0 all0 all0) (by decide) (PySem.W.mg_of X G a16) b16 hj
  have D17 : ∀ j, 6 ≤ j → Df (nmOf K [("Crossing", C_Crossing)]) l.prog w K mg base j ("opposite", 1, F_opposite) := fun j hj => df_mk rfl G17 sc_opposite nm_opposite (k := 5) (gk_mk TX (all2 (D15 _ (by decide)) (all2 (D16 _ (by decide)) all0)) all0 all0) (by decide) (PySem.W.mg_of X G a17) b17 hj
  have D18 : ∀ j, 5 ≤ j → Df (nmOf K [("Crossing", C_Crossing)]) l.prog w K mg base j ("_law_made", 1, F__law_made) := fun j hj => df_mk rfl G18 sc__law_made nm__law_made (k := 4) (gk_mk TX all0 (all2 (D14 _ (by decide)) all0) all0) (by decide) (PySem.W.mg_of X G a18) b18 hj
  have R19 : ∀ t : Nat, ∀ j, 1 + t ≤ j → Df (nmOf K [("Crossing", C_Crossing)]) l.prog w K mg base j ("_law_is", 2, F__law_iss t) := by
    intro t
    induction t with
    | zero => exact fun j hj => df_bad (df_mk (u := []) rfl G19 sc__law_is nm__law_is (k := 0) (gk_mk (me := []) (br := []) (fn := []) (cl := []) TX all0 all0 all0) (by decide) (PySem.W.mg_of X G a19) b19 hj)
    | succ t ih =>
      intro j hj
      exact df_mk rfl G19 sc__law_is nm__law_is (gk_mk TX (all2 (ih _ (Nat.le_refl _)) all0) all0 all0) (by decide) (PySem.W.mg_of X G a19) b19 (by omega)
  have D19 : ∀ j, 5 ≤ j → Df (nmOf K [("Crossing", C_Crossing)]) l.prog w K mg base j ("_law_is", 2, F__law_is) := fun j hj => R19 4 j (by omega)
  have D20 : ∀ j, 1 ≤ j → Df (nmOf K [("Crossing", C_Crossing)]) l.prog w K mg base j ("free_lots", 2, F_free_lots) := fun j hj => df_mk rfl G20 sc_free_lots nm_free_lots (k := 0) (gk_mk TX all0 all0 all0) (by decide) (PySem.W.mg_of X G a20) b20 hj
  have D21 : ∀ j, 1 ≤ j → Df (nmOf K [("Crossing", C_Crossing)]) l.prog w K mg base j ("greatest_of", 2, F_greatest_of) := fun j hj => df_mk rfl G21 sc_greatest_of nm_greatest_of (k := 0) (gk_mk TX all0 all0 all0) (by decide) (PySem.W.mg_of X G a21) b21 hj
  have D22 : ∀ j, 2 ≤ j → Df (nmOf K [("Crossing", C_Crossing)]) l.prog w K mg base j ("greatest_cliques", 1, F_greatest_cliques) := fun j hj => df_mk rfl G22 sc_greatest_cliques nm_greatest_cliques (k := 1) (gk_mk TX (all2 (D20 _ (by decide)) (all2 (D16 _ (by decide)) (all2 (D21 _ (by decide)) all0))) all0 all0) (by decide) (PySem.W.mg_of X G a22) b22 hj
  have D23 : ∀ j, 2 ≤ j → Df (nmOf K [("Crossing", C_Crossing)]) l.prog w K mg base j ("every_phase", 1, F_every_phase) := fun j hj => df_mk rfl G23 sc_every_phase nm_every_phase (k := 1) (gk_mk TX (all2 (D20 _ (by decide)) all0) all0 all0) (by decide) (PySem.W.mg_of X G a23) b23 hj
  have D24 : ∀ j, 3 ≤ j → Df (nmOf K [("Crossing", C_Crossing)]) l.prog w K mg base j ("top_phases", 1, F_top_phases) := fun j hj => df_mk rfl G24 sc_top_phases nm_top_phases (k := 2) (gk_mk TX (all2 (D21 _ (by decide)) (all2 (D23 _ (by decide)) all0)) all0 all0) (by decide) (PySem.W.mg_of X G a24) b24 hj
  have D25 : ∀ j, 4 ≤ j → Df (nmOf K [("Crossing", C_Crossing)]) l.prog w K mg base j ("greatest_phases", 1, F_greatest_phases) := fun j hj => df_mk rfl G25 sc_greatest_phases nm_greatest_phases (k := 3) (gk_mk TX (all2 (D24 _ (by decide)) all0) all0 all0) (by decide) (PySem.W.mg_of X G a25) b25 hj
  have D26 : ∀ j, 3 ≤ j → Df (nmOf K [("Crossing", C_Crossing)]) l.prog w K mg base j ("phases_of", 1, F_phases_of) := fun j hj => df_mk rfl G26 sc_phases_of nm_phases_of (k := 2) (gk_mk TX (all2 (D23 _ (by decide)) all0) all0 all0) (by decide) (PySem.W.mg_of X G a26) b26 hj
  have D27 : ∀ j, 1 ≤ j → Df (nmOf K [("Crossing", C_Crossing)]) l.prog w K mg base j ("_law_greatest_of", 1, F__law_greatest_of) := fun j hj => df_mk rfl G27 sc__law_greatest_of nm__law_greatest_of (k := 0) (gk_mk TX all0 all0 all0) (by decide) (PySem.W.mg_of X G a27) b27 hj
  have D28 : ∀ j, 1 ≤ j → Df (nmOf K [("Crossing", C_Crossing)]) l.prog w K mg base j ("_law_plain", 1, F__law_plain) := fun j hj => df_mk rfl G28 sc__law_plain nm__law_plain (k := 0) (gk_mk TX all0 all0 all0) (by decide) (PySem.W.mg_of X G a28) b28 hj
  have D29 : ∀ j, 1 ≤ j → Df (nmOf K [("Crossing", C_Crossing)]) l.prog w K mg base j ("_law_is_free", 2, F__law_is_free) := fun j hj => df_mk rfl G29 sc__law_is_free nm__law_is_free (k := 0) (gk_mk TX all0 all0 all0) (by decide) (PySem.W.mg_of X G a29) b29 hj
  have D30 : ∀ j, 2 ≤ j → Df (nmOf K [("Crossing", C_Crossing)]) l.prog w K mg base j ("_law_phases", 1, F__law_phases) := fun j hj => df_mk rfl G30 sc__law_phases nm__law_phases (k := 1) (gk_mk TX (all2 (D9 _ (by decide)) (all2 (D29 _ (by decide)) all0)) all0 all0) (by decide) (PySem.W.mg_of X G a30) b30 hj
  have D31 : ∀ j, 3 ≤ j → Df (nmOf K [("Crossing", C_Crossing)]) l.prog w K mg base j ("_law_greatest_phases", 1, F__law_greatest_phases) := fun j hj => df_mk rfl G31 sc__law_greatest_phases nm__law_greatest_phases (k := 2) (gk_mk TX (all2 (D27 _ (by decide)) (all2 (D30 _ (by decide)) all0)) all0 all0) (by decide) (PySem.W.mg_of X G a31) b31 hj
  exact (def_ok (n := nmOf K [("Crossing", C_Crossing)]) G32 sc_law rfl nm_law (k := 6) (gk_mk TX (all2 (D2 _ (by decide)) (all2 (D8 _ (by decide)) (all2 (D10 _ (by decide)) (all2 (D17 _ (by decide)) (all2 (D18 _ (by decide)) (all2 (D19 _ (by decide)) (all2 (D22 _ (by decide)) (all2 (D25 _ (by decide)) (all2 (D26 _ (by decide)) (all2 (D27 _ (by decide)) (all2 (D7 _ (by decide)) (all2 (D28 _ (by decide)) (all2 (D30 _ (by decide)) (all2 (D31 _ (by decide)) all0)))))))))))))) all0 (all2 (D0 _ (by decide)) (all2 (D1 _ (by decide)) all0)))).imp (law_imp (n := nmOf K [("Crossing", C_Crossing)]) plain)
end Kt
open PySem PySem.W PyProof.Rows in
set_option maxRecDepth 100000 in
set_option maxHeartbeats 0 in
theorem PySem.Challenge.cw_greenshares_k03_whole_phases_holds : PySem.Challenge.rw_greenshares_k03_whole_phases.Holds := by
  w_on; o_law; k_head; (case hw => w_witness2)
  k_fill
  refine Bv.law_walk (l := PySem.Challenge.rw_greenshares_k03_whole_phases) 7 rfl rfl ⟨rfl, by decide, by decide⟩ (fun w h Y => PySem.W.kIn_of Y) ?F
  case F =>
    intro w mg fa h KX G hmg
    refine' Kt.all_mk Kt.plain KX G hmg ?a_Crossing ?a0 ?i0 ?l0 ?c0 ?k0 ?a1 ?i1 ?l1 ?c1 ?k1 ?a2 ?l2 ?c2 ?k2 ?a3 ?l3 ?c3 ?k3 ?a4 ?l4 ?c4 ?k4 ?a5 ?l5 ?c5 ?k5 ?a6 ?l6 ?c6 ?k6 ?a7 ?l7 ?c7 ?k7 ?a8 ?l8 ?c8 ?k8 ?a9 ?l9 ?c9 ?k9 ?a10 ?l10 ?c10 ?k10 ?a11 ?l11 ?c11 ?k11 ?a12 ?l12 ?c12 ?k12 ?a13 ?l13 ?c13 ?k13 ?a14 ?i14 ?l14 ?c14 ?k14 ?a15 ?l15 ?c15 ?k15 ?a16 ?l16 ?c16 ?k16 ?a17 ?l17 ?c17 ?k17 ?a18 ?l18 ?c18 ?k18 ?a19 ?l19 ?c19 ?k19 ?a20 ?l20 ?c20 ?k20 ?a21 ?l21 ?c21 ?k21 ?a22 ?l22 ?c22 ?k22 ?a23 ?l23 ?c23 ?k23 ?a24 ?l24 ?c24 ?k24 ?a25 ?l25 ?c25 ?k25 ?a26 ?l26 ?c26 ?k26 ?a27 ?l27 ?c27 ?k27 ?a28 ?l28 ?c28 ?k28 ?a29 ?l29 ?c29 ?k29 ?a30 ?l30 ?c30 ?k30 ?a31 ?l31 ?c31 ?k31 ?a32 ?l32 ?c32 ?k32 ?pg_Crossing ?hd_Crossing ?po_Crossing ?sa_Crossing ?ha_Crossing ?hm_Crossing ?mk_Crossing ?kc_Crossing ?no_Crossing_streams ?no_Crossing_conflicts ?hn ?htk ?z_len ?z_int ?z_abs ?z_sum ?z_max ?z_min ?z_any ?z_all ?z_sorted ?z_tuple ?z_list ?z_isinstance ?z_str ?z_range ?z_enumerate ?z_zip ?z_bool ?q_LETTERS ?q_SIGNS ?q_MOST_STREAMS ?y0 ?y1 ?y2 ?y3 ?y4 ?y5 ?y6 ?y7
    (case a_Crossing => k_is)
    (case a0 => k_is)
    (case i0 => k_is)
    (case l0 => k_is)
    (case c0 => k_is)
    (case k0 => k_is)
    (case a1 => k_is)
    (case i1 => k_is)
    (case l1 => k_is)
    (case c1 => k_is)
    (case k1 => k_is)
    (case a2 => k_is)
    (case l2 => k_is)
    (case c2 => k_is)
    (case k2 => k_is)
    (case a3 => k_is)
    (case l3 => k_is)
    (case c3 => k_is)
    (case k3 => k_is)
    (case a4 => k_is)
    (case l4 => k_is)
    (case c4 => k_is)
    (case k4 => k_is)
    (case a5 => k_is)
    (case l5 => k_is)
    (case c5 => k_is)
    (case k5 => k_is)
    (case a6 => k_is)
    (case l6 => k_is)
    (case c6 => k_is)
    (case k6 => k_is)
    (case a7 => k_is)
    (case l7 => k_is)
    (case c7 => k_is)
    (case k7 => k_is)
    (case a8 => k_is)
    (case l8 => k_is)
    (case c8 => k_is)
    (case k8 => k_is)
    (case a9 => k_is)
    (case l9 => k_is)
    (case c9 => k_is)
    (case k9 => k_is)
    (case a10 => k_is)
    (case l10 => k_is)
    (case c10 => k_is)
    (case k10 => k_is)
    (case a11 => k_is)
    (case l11 => k_is)
    (case c11 => k_is)
    (case k11 => k_is)
    (case a12 => k_is)
    (case l12 => k_is)
    (case c12 => k_is)
    (case k12 => k_is)
    (case a13 => k_is)
    (case l13 => k_is)
    (case c13 => k_is)
    (case k13 => k_is)
    (case a14 => k_is)
    (case i14 => k_is)
    (case l14 => k_is)
    (case c14 => k_is)
    (case k14 => k_is)
    (case a15 => k_is)
    (case l15 => k_is)
    (case c15 => k_is)
    (case k15 => k_is)
    (case a16 => k_is)
    (case l16 => k_is)
    (case c16 => k_is)
    (case k16 => k_is)
    (case a17 => k_is)
    (case l17 => k_is)
    (case c17 => k_is)
    (case k17 => k_is)
    (case a18 => k_is)
    (case l18 => k_is)
    (case c18 => k_is)
    (case k18 => k_is)
    (case a19 => k_is)
    (case l19 => k_is)
    (case c19 => k_is)
    (case k19 => k_is)
    (case a20 => k_is)
    (case l20 => k_is)
    (case c20 => k_is)
    (case k20 => k_is)
    (case a21 => k_is)
    (case l21 => k_is)
    (case c21 => k_is)
    (case k21 => k_is)
    (case a22 => k_is)
    (case l22 => k_is)
    (case c22 => k_is)
    (case k22 => k_is)
    (case a23 => k_is)
    (case l23 => k_is)
    (case c23 => k_is)
    (case k23 => k_is)
    (case a24 => k_is)
    (case l24 => k_is)
    (case c24 => k_is)
    (case k24 => k_is)
    (case a25 => k_is)
    (case l25 => k_is)
    (case c25 => k_is)
    (case k25 => k_is)
    (case a26 => k_is)
    (case l26 => k_is)
    (case c26 => k_is)
    (case k26 => k_is)
    (case a27 => k_is)
    (case l27 => k_is)
    (case c27 => k_is)
    (case k27 => k_is)
    (case a28 => k_is)
    (case l28 => k_is)
    (case c28 => k_is)
    (case k28 => k_is)
    (case a29 => k_is)
    (case l29 => k_is)
    (case c29 => k_is)
    (case k29 => k_is)
    (case a30 => k_is)
    (case l30 => k_is)
    (case c30 => k_is)
    (case k30 => k_is)
    (case a31 => k_is)
    (case l31 => k_is)
    (case c31 => k_is)
    (case k31 => k_is)
    (case a32 => k_is)
    (case l32 => k_is)
    (case c32 => k_is)
    (case k32 => k_is)
    (case pg_Crossing => k_is)
    (case hd_Crossing => k_is)
    (case po_Crossing => k_is)
    (case sa_Crossing => k_is)
    (case ha_Crossing => k_is)
    (case hm_Crossing => k_is)
    (case mk_Crossing => k_is)
    (case kc_Crossing => k_is)
    (case no_Crossing_streams => k_is)
    (case no_Crossing_conflicts => k_is)
    (case hn => k_is)
    (case htk => k_is)
    (case z_len => k_is)
    (case z_int => k_is)
    (case z_abs => k_is)
    (case z_sum => k_is)
    (case z_max => k_is)
    (case z_min => k_is)
    (case z_any => k_is)
    (case z_all => k_is)
    (case z_sorted => k_is)
    (case z_tuple => k_is)
    (case z_list => k_is)
    (case z_isinstance => k_is)
    (case z_str => k_is)
    (case z_range => k_is)
    (case z_enumerate => k_is)
    (case z_zip => k_is)
    (case z_bool => k_is)
    (case q_LETTERS => k_is)
    (case q_SIGNS => k_is)
    (case q_MOST_STREAMS => k_is)
    (case y0 => kit_is)
    (case y1 => kit_is)
    (case y2 => kit_is)
    (case y3 => kit_is)
    (case y4 => kit_is)
    (case y5 => kit_is)
    (case y6 => kit_is)
    (case y7 => kit_is)

